import PyProof.Rows.All
import Wide.All
import OpenK.AllK
import Wide.FinOn
import HandS.ForMost
import HandS.ForExc
import HandS.Walk
import HandS.Deep
import HandS.TupSets
import HandS.SetFor
import HandS.Zip
import HandS.Conv
import HandS.IsInst
import HandS.Star
import HandS.Wide
import HandS.SortInts
import HandS.Flow
import HandS.Style
import HandS.TupLe
import HandS.TupAny
import HandS.Strs
import KE.KSortedM
import KE.KDictPairs
import KE.KDictList
import KE.GoesMore
import KE.GoesEnum
import KE.KDictDisplayH
import KE.OsSetLaws
import HandS.ExcIs
import HandS.Defaults
import HandS.Head0
import HandS.Head1
import HandS.Head2
import HandS.HeadEnd
import HandS.HeadHook1
import HandS.HeadHook2
import PySem.Challenge.RW_gonetold_k13_whole_tellings_and_the_coar
set_option Elab.async false
set_option linter.all false
set_option maxRecDepth 100000
set_option maxHeartbeats 4000000
/-! ## G1 -/
section
namespace GL
open PySem PySem.Spec PyProof.Rows L2

/-! ### data -/
inductive D where
  | none | bool (b : Bool) | int (i : Int) | str (s : Str) | list (xs : List D) | tup (k : Bool) (xs : List D)
mutual
def D.py : D → PyData
  | .none => .none
  | .bool b => .bool b
  | .int i => .int i
  | .str s => .str s
  | .list xs => .list (D.pyAll xs)
  | .tup _ xs => .tuple (D.pyAll xs)
def D.pyAll : List D → List PyData
  | [] => []
  | x :: xs => x.py :: D.pyAll xs
end
theorem D.pyAll_map : ∀ xs : List D, D.pyAll xs = xs.map D.py
  | [] => rfl
  | x :: xs => by rw [D.pyAll, D.pyAll_map xs]; rfl

abbrev St := L2.St
abbrev Av := Addr → Prop
/-- what is known of a tuple: plain, or laid without a dict -/
def TupAt (k : Bool) (H : Hp) (a : Addr) (xs : List V) : Prop := if k = true then ∃ o : Obj, H a = some (.frz o (.tup xs)) ∧ o.dict = Option.none else H a = some (.tup xs)
def LstAt (H : Hp) (a : Addr) (xs : List V) : Prop := H a = some (.lst xs)
theorem TupAt.sq {K : PySem.W.Frag} {k : Bool} {H : Hp} {a : Addr} {xs : List V} (h : TupAt k H a xs) : SqT K H a xs := by
  cases k with
  | false => exact .inl (.inl h)
  | true => obtain ⟨o, h, _⟩ := h; exact .inl (.inr ⟨o, h⟩)
theorem LstAt.sq {K : PySem.W.Frag} {H : Hp} {a : Addr} {xs : List V} (h : LstAt H a xs) : SqL K H a xs := .inl (.inl h)
theorem TupAt.some {k : Bool} {H : Hp} {a : Addr} {xs : List V} (h : TupAt k H a xs) : ∃ u, H a = some u := by
  cases k with
  | false => exact ⟨_, h⟩
  | true => obtain ⟨o, h, _⟩ := h; exact ⟨_, h⟩
theorem TupAt.to {k : Bool} {H H' : Hp} {a : Addr} {xs : List V} (h : TupAt k H a xs) (e : ∀ u, H a = Option.some u → H' a = Option.some u) : TupAt k H' a xs := by
  cases k with
  | false => exact e _ h
  | true => obtain ⟨o, h, d⟩ := h; exact ⟨o, e _ h, d⟩

mutual
/-- v is d in H, nothing of it at an address of B -/
inductive Rp (B : Av) (H : Hp) : V → D → Prop
  | non : Rp B H .non .none
  | bl (b : Bool) : Rp B H (.bl b) (.bool b)
  | int (i : Int) : Rp B H (.int i) (.int i)
  | str (x : Str) : Rp B H (.str x) (.str x)
  | lst {a : Addr} {xs : List V} {ds : List D} : ¬ B a → LstAt H a xs → RpA B H xs ds → Rp B H (.ref a) (.list ds)
  | tup {k : Bool} {a : Addr} {xs : List V} {ds : List D} : ¬ B a → TupAt k H a xs → RpA B H xs ds → Rp B H (.ref a) (.tup k ds)
inductive RpA (B : Av) (H : Hp) : List V → List D → Prop
  | nil : RpA B H [] []
  | cons {v : V} {vs : List V} {d : D} {ds : List D} : Rp B H v d → RpA B H vs ds → RpA B H (v :: vs) (d :: ds)
end
/-- the same, the top object at any address -/
inductive Rw (B : Av) (H : Hp) : V → D → Prop
  | non : Rw B H .non .none
  | bl (b : Bool) : Rw B H (.bl b) (.bool b)
  | int (i : Int) : Rw B H (.int i) (.int i)
  | str (x : Str) : Rw B H (.str x) (.str x)
  | lst {a : Addr} {xs : List V} {ds : List D} : LstAt H a xs → RpA B H xs ds → Rw B H (.ref a) (.list ds)
  | tup {k : Bool} {a : Addr} {xs : List V} {ds : List D} : TupAt k H a xs → RpA B H xs ds → Rw B H (.ref a) (.tup k ds)

/-- from (B, H) to (B', H'): what B does not hold stands; B' grows by new addresses alone -/
structure Tr (B : Av) (H : Hp) (B' : Av) (H' : Hp) : Prop where
  keep : ∀ a o, H a = some o → ¬ B a → H' a = some o
  news : ∀ a, B' a → B a ∨ H a = none
def Ext (H H' : Hp) : Prop := ∀ a o, H a = some o → H' a = some o
theorem Ext.refl (H : Hp) : Ext H H := fun _ _ h => h
theorem Ext.trans {H H1 H2 : Hp} (a : Ext H H1) (b : Ext H1 H2) : Ext H H2 := fun x o h => b x o (a x o h)
theorem Ext.new {H : Hp} {p : Addr} {o : HO} (h : H p = none) : Ext H (upd H p o) := fun a u e => by
  rw [upd_ne (ne_of_none e h)]; exact e
theorem Ext.back {H H' : Hp} {p : Addr} (e : Ext H H') (h : H' p = none) : H p = none := by
  cases h1 : H p with
  | none => rfl
  | some o => rw [e p o h1] at h; cases h
theorem Ext.tr {B : Av} {H H' : Hp} (e : Ext H H') : Tr B H B H' := ⟨fun a o h _ => e a o h, fun a h => .inl h⟩
theorem Tr.refl (B : Av) (H : Hp) : Tr B H B H := ⟨fun _ _ h _ => h, fun _ h => .inl h⟩
theorem Tr.trans {B B1 B2 : Av} {H H1 H2 : Hp} (x : Tr B H B1 H1) (y : Tr B1 H1 B2 H2) : Tr B H B2 H2 := by
  have nb : ∀ a o, H a = some o → ¬ B a → ¬ B1 a := fun a o h hb q => by
    rcases x.news a q with z | z
    · exact hb z
    · rw [h] at z; cases z
  refine ⟨fun a o h hb => y.keep a o (x.keep a o h hb) (nb a o h hb), fun a h => ?_⟩
  rcases y.news a h with z | z
  · exact x.news a z
  · by_cases hb : B a
    · exact .inl hb
    · cases q : H a with
      | none => exact .inr rfl
      | some o => rw [x.keep a o q hb] at z; cases z
theorem Tr.off {B B' : Av} {H H' : Hp} (x : Tr B H B' H') {a : Addr} {o : HO} (h : H a = some o) (hb : ¬ B a) : ¬ B' a := fun q => by
  rcases x.news a q with z | z
  · exact hb z
  · rw [h] at z; cases z

mutual
theorem Rp.tr {B B' : Av} {H H' : Hp} (x : Tr B H B' H') : ∀ {v : V} {d : D}, Rp B H v d → Rp B' H' v d
  | _, _, .non => .non
  | _, _, .bl b => .bl b
  | _, _, .int i => .int i
  | _, _, .str s => .str s
  | _, _, .lst hb h r => .lst (x.off h hb) (x.keep _ _ h hb) (RpA.tr x r)
  | _, _, .tup hb h r => .tup (let ⟨_, e⟩ := h.some; x.off e hb) (h.to fun u e => x.keep _ _ e hb) (RpA.tr x r)
theorem RpA.tr {B B' : Av} {H H' : Hp} (x : Tr B H B' H') : ∀ {vs : List V} {ds : List D}, RpA B H vs ds → RpA B' H' vs ds
  | _, _, .nil => .nil
  | _, _, .cons r t => .cons (Rp.tr x r) (RpA.tr x t)
end
theorem Rp.ext {B : Av} {H H' : Hp} (e : Ext H H') {v : V} {d : D} (r : Rp B H v d) : Rp B H' v d := r.tr e.tr
theorem RpA.ext {B : Av} {H H' : Hp} (e : Ext H H') {vs : List V} {ds : List D} (r : RpA B H vs ds) : RpA B H' vs ds := r.tr e.tr
theorem Rw.ext {B : Av} {H H' : Hp} (e : Ext H H') {v : V} {d : D} (r : Rw B H v d) : Rw B H' v d := by
  cases r with
  | non => exact .non
  | bl b => exact .bl b
  | int i => exact .int i
  | str s => exact .str s
  | lst h r => exact .lst (e _ _ h) (r.ext e)
  | tup h r => exact .tup (h.to fun u q => e _ _ q) (r.ext e)
theorem Tr.sub {B B' : Av} {H : Hp} (h : ∀ a, B' a → B a) : Tr B H B' H := ⟨fun _ _ h _ => h, fun a q => .inl (h a q)⟩
theorem Rp.sub {B B' : Av} {H : Hp} (h : ∀ a, B' a → B a) {v : V} {d : D} (r : Rp B H v d) : Rp B' H v d := r.tr (Tr.sub h)
theorem RpA.sub {B B' : Av} {H : Hp} (h : ∀ a, B' a → B a) {v : List V} {d : List D} (r : RpA B H v d) : RpA B' H v d := r.tr (Tr.sub h)
theorem Rp.w {B : Av} {H : Hp} {v : V} {d : D} (r : Rp B H v d) : Rw B H v d := by
  cases r with
  | non => exact .non
  | bl b => exact .bl b
  | int i => exact .int i
  | str s => exact .str s
  | lst _ h r => exact .lst h r
  | tup _ h r => exact .tup h r
mutual
theorem Rp.dp {K : PySem.W.Frag} {B : Av} {H : Hp} : ∀ {v : V} {d : D}, Rp B H v d → Dp K H v d.py
  | _, _, .non => .non
  | _, _, .bl b => .bl b
  | _, _, .int i => .int i
  | _, _, .str s => .str s
  | _, _, .lst _ h r => .lst h.sq (RpA.dp r)
  | _, _, .tup _ h r => .tup h.sq (RpA.dp r)
theorem RpA.dp {K : PySem.W.Frag} {B : Av} {H : Hp} : ∀ {vs : List V} {ds : List D}, RpA B H vs ds → DpAll K H vs (D.pyAll ds)
  | _, _, .nil => .nil
  | _, _, .cons r t => .cons (Rp.dp r) (RpA.dp t)
end
theorem Rw.dp {K : PySem.W.Frag} {B : Av} {H : Hp} {v : V} {d : D} (r : Rw B H v d) : Dp K H v d.py := by
  cases r with
  | non => exact .non
  | bl b => exact .bl b
  | int i => exact .int i
  | str s => exact .str s
  | lst h r => exact .lst h.sq r.dp
  | tup h r => exact .tup h.sq r.dp
theorem RpA.length {B : Av} {H : Hp} : ∀ {vs : List V} {ds : List D}, RpA B H vs ds → vs.length = ds.length
  | _, _, .nil => rfl
  | _, _, .cons _ t => by rw [List.length_cons, List.length_cons, RpA.length t]
theorem RpA.get {B : Av} {H : Hp} : ∀ {vs : List V} {ds : List D} {i : Nat} {d : D}, RpA B H vs ds → ds[i]? = some d → ∃ v, vs[i]? = some v ∧ Rp B H v d
  | _, _, _, _, .nil, h => by cases h
  | _, _, 0, _, .cons r _, h => by cases h; exact ⟨_, rfl, r⟩
  | _, _, i + 1, _, .cons _ t, h => RpA.get (i := i) t h
theorem RpA.at {B : Av} {H : Hp} : ∀ {vs : List V} {ds : List D} {i : Nat} {v : V}, RpA B H vs ds → vs[i]? = some v → ∃ d, ds[i]? = some d ∧ Rp B H v d
  | _, _, _, _, .nil, h => by cases h
  | _, _, 0, _, .cons r _, h => by cases h; exact ⟨_, rfl, r⟩
  | _, _, i + 1, _, .cons _ t, h => RpA.at (i := i) t h
theorem RpA.append {B : Av} {H : Hp} : ∀ {vs ws : List V} {ds es : List D}, RpA B H vs ds → RpA B H ws es → RpA B H (vs ++ ws) (ds ++ es)
  | _, _, _, _, .nil, s => s
  | _, _, _, _, .cons r t, s => .cons r (RpA.append t s)
theorem RpA.snoc {B : Av} {H : Hp} {vs : List V} {ds : List D} {v : V} {d : D} (r : RpA B H vs ds) (q : Rp B H v d) : RpA B H (vs ++ [v]) (ds ++ [d]) := r.append (.cons q .nil)
theorem RpA.set {B : Av} {H : Hp} {v : V} {d : D} (q : Rp B H v d) : ∀ {vs : List V} {ds : List D} (i : Nat), RpA B H vs ds → RpA B H (vs.set i v) (ds.set i d)
  | _, _, _, .nil => .nil
  | _, _, 0, .cons _ t => .cons q t
  | _, _, i + 1, .cons r t => .cons r (RpA.set q i t)
theorem RpA.take {B : Av} {H : Hp} : ∀ {vs : List V} {ds : List D} (n : Nat), RpA B H vs ds → RpA B H (vs.take n) (ds.take n)
  | _, _, 0, _ => .nil
  | _, _, _ + 1, .nil => .nil
  | _, _, n + 1, .cons r t => .cons r (RpA.take n t)
theorem RpA.drop {B : Av} {H : Hp} : ∀ {vs : List V} {ds : List D} (n : Nat), RpA B H vs ds → RpA B H (vs.drop n) (ds.drop n)
  | _, _, 0, r => r
  | _, _, _ + 1, .nil => .nil
  | _, _, n + 1, .cons _ t => RpA.drop n t
theorem RpA.eraseIdx {B : Av} {H : Hp} : ∀ {vs : List V} {ds : List D} (n : Nat), RpA B H vs ds → RpA B H (vs.eraseIdx n) (ds.eraseIdx n)
  | _, _, _, .nil => .nil
  | _, _, 0, .cons _ t => t
  | _, _, n + 1, .cons r t => .cons r (RpA.eraseIdx n t)
theorem RpA.reverse {B : Av} {H : Hp} : ∀ {vs : List V} {ds : List D}, RpA B H vs ds → RpA B H vs.reverse ds.reverse
  | _, _, .nil => .nil
  | _, _, .cons r t => by rw [List.reverse_cons, List.reverse_cons]; exact (RpA.reverse t).snoc r
theorem RpA.map_int {B : Av} {H : Hp} : ∀ {vs : List V} {ns : List Int}, RpA B H vs (ns.map D.int) → vs = ns.map V.int
  | _, [], h => by cases h; rfl
  | _, n :: ns, h => by
    cases h with
    | cons r t => cases r; rw [RpA.map_int t]; rfl
theorem RpA.of_int {B : Av} {H : Hp} : ∀ (ns : List Int), RpA B H (ns.map V.int) (ns.map D.int)
  | [] => .nil
  | n :: ns => .cons (.int n) (RpA.of_int ns)
theorem RpA.map_bool {B : Av} {H : Hp} : ∀ {vs : List V} {ns : List Bool}, RpA B H vs (ns.map D.bool) → vs = ns.map V.bl
  | _, [], h => by cases h; rfl
  | _, n :: ns, h => by
    cases h with
    | cons r t => cases r; rw [RpA.map_bool t]; rfl

/-! ### objects of one's own -/
inductive Ob where
  | lst (ds : List D)
  | dK (kvs : List (Int × D))
  | dT (kvs : List (List Int × D))
  | box (b : Addr) (i j k : Int)
/-- the entries of a dict -/
inductive KvR {κ κ' : Type} (f : κ → κ') (B : Av) (H : Hp) : List (κ × D) → List (κ' × V) → Prop
  | nil : KvR f B H [] []
  | cons {k : κ} {d : D} {v : V} {r : List (κ × D)} {s : List (κ' × V)} : Rp B H v d → KvR f B H r s → KvR f B H ((k, d) :: r) ((f k, v) :: s)
def kI : Int → Key := Sum.inl
def kT : List Int → List Key := fun l => l.map Sum.inl
def RpO (B : Av) (H : Hp) (b : Addr) : Ob → Prop
  | .lst ds => ∃ xs, H b = some (.lst xs) ∧ RpA B H xs ds
  | .dK kvs => ∃ kws, H b = some (.dK kws) ∧ KvR kI B H kvs kws
  | .dT kvs => ∃ kws, H b = some (.dT kws) ∧ KvR kT B H kvs kws
  | .box b0 i j k => b = b0 ∧ H b = some (.lst [.int i, .int j, .int k])
theorem KvR.tr {κ κ' : Type} {f : κ → κ'} {B B' : Av} {H H' : Hp} (x : Tr B H B' H') : ∀ {r : List (κ × D)} {s : List (κ' × V)}, KvR f B H r s → KvR f B' H' r s
  | _, _, .nil => .nil
  | _, _, .cons r t => .cons (r.tr x) (KvR.tr x t)
theorem RpO.some {B : Av} {H : Hp} {b : Addr} {o : Ob} (r : RpO B H b o) : ∃ u, H b = some u := by
  cases o with
  | lst ds => obtain ⟨xs, h, _⟩ := r; exact ⟨_, h⟩
  | dK ds => obtain ⟨xs, h, _⟩ := r; exact ⟨_, h⟩
  | dT ds => obtain ⟨xs, h, _⟩ := r; exact ⟨_, h⟩
  | box b0 i j k => obtain ⟨_, h⟩ := r; exact ⟨_, h⟩
/-- the object itself stands -/
theorem RpO.to {B B' : Av} {H H' : Hp} {b : Addr} {o : Ob} (r : RpO B H b o) (x : Tr B H B' H') (e : H' b = H b) : RpO B' H' b o := by
  cases o with
  | lst ds => obtain ⟨xs, h, r⟩ := r; exact ⟨xs, e.trans h, r.tr x⟩
  | dK ds => obtain ⟨xs, h, r⟩ := r; exact ⟨xs, e.trans h, r.tr x⟩
  | dT ds => obtain ⟨xs, h, r⟩ := r; exact ⟨xs, e.trans h, r.tr x⟩
  | box b0 i j k => obtain ⟨h, r⟩ := r; exact ⟨h, e.trans r⟩
theorem RpO.ext {B : Av} {H H' : Hp} {b : Addr} {o : Ob} (r : RpO B H b o) (x : Ext H H') : RpO B H' b o := by
  obtain ⟨u, h⟩ := r.some
  exact r.to x.tr ((x _ _ h).trans h.symm)

/-! ### the state -/
inductive Sl where
  | any | val (d : D) | own (o : Ob)
abbrev Gm := List Sl
structure Sto (H0 : Hp) (B0 B : Av) (σ : St) (H : Hp) (Γ : Gm) : Prop where
  ex : ∀ a o, H0 a = some o → H a = some o
  sub : ∀ b, B0 b → B b
  old : ∀ b, B0 b → ∃ o, H0 b = some o
  inH : ∀ b, B b → ∃ o, H b = some o
  len : σ.length = Γ.length
  val : ∀ (i : Nat) (d : D), Γ[i]? = some (.val d) → ∃ v, σ[i]? = some (some v) ∧ Rp B H v d
  own : ∀ (i : Nat) (o : Ob), Γ[i]? = some (.own o) → ∃ b, σ[i]? = some (some (.ref b)) ∧ B b ∧ H0 b = none ∧ RpO B H b o
  sep : ∀ (i j : Nat) (o u : Ob), Γ[i]? = some (.own o) → Γ[j]? = some (.own u) → σ[i]? = σ[j]? → i = j
theorem Sto.ext {H0 : Hp} {B0 B : Av} {σ : St} {H H' : Hp} {Γ : Gm} (S : Sto H0 B0 B σ H Γ) (e : Ext H H') : Sto H0 B0 B σ H' Γ where
  ex := fun a o h => e _ _ (S.ex a o h)
  sub := S.sub
  old := S.old
  inH := fun b h => let ⟨o, q⟩ := S.inH b h; ⟨o, e _ _ q⟩
  len := S.len
  val := fun i d h => let ⟨v, a, b⟩ := S.val i d h; ⟨v, a, b.ext e⟩
  own := fun i o h => let ⟨b, a1, a2, a3, a4⟩ := S.own i o h; ⟨b, a1, a2, a3, a4.ext e⟩
  sep := S.sep

structure En where
  nx : Gm → Prop := fun _ => False
  rt : Gm → D → Prop := fun _ _ => False
  ro : Gm → Ob → Prop := fun _ _ => False
  bk : Gm → Prop := fun _ => False
  ct : Gm → Prop := fun _ => False
structure Lift (H0 : Hp) (B0 : Av) (E : En) (Dn : Ends) (B : Av) (H : Hp) : Prop where
  nx : ∀ B' σ' H' Γ', Sto H0 B0 B' σ' H' Γ' → Tr B H B' H' → E.nx Γ' → Dn.nx σ' H'
  rt : ∀ B' σ' H' Γ' v d, Sto H0 B0 B' σ' H' Γ' → Tr B H B' H' → Rp B' H' v d → E.rt Γ' d → Dn.rt v H'
  ro : ∀ B' σ' H' Γ' p o, Sto H0 B0 B' σ' H' Γ' → Tr B H B' H' → B' p → H0 p = none → RpO B' H' p o → E.ro Γ' o → Dn.rt (.ref p) H'
  bk : ∀ B' σ' H' Γ', Sto H0 B0 B' σ' H' Γ' → Tr B H B' H' → E.bk Γ' → Dn.bk σ' H'
  ct : ∀ B' σ' H' Γ', Sto H0 B0 B' σ' H' Γ' → Tr B H B' H' → E.ct Γ' → Dn.ct σ' H'
theorem Lift.tr {H0 : Hp} {B0 : Av} {E : En} {Dn : Ends} {B B1 : Av} {H H1 : Hp} (L : Lift H0 B0 E Dn B H) (x : Tr B H B1 H1) : Lift H0 B0 E Dn B1 H1 where
  nx := fun B' σ' H' Γ' S t q => L.nx B' σ' H' Γ' S (x.trans t) q
  rt := fun B' σ' H' Γ' v d S t r q => L.rt B' σ' H' Γ' v d S (x.trans t) r q
  ro := fun B' σ' H' Γ' p o S t h1 h2 r q => L.ro B' σ' H' Γ' p o S (x.trans t) h1 h2 r q
  bk := fun B' σ' H' Γ' S t q => L.bk B' σ' H' Γ' S (x.trans t) q
  ct := fun B' σ' H' Γ' S t q => L.ct B' σ' H' Γ' S (x.trans t) q

/-! ### contexts, and what a piece of text does in each of them -/
structure Cp where
  P : Program
  w : World
  K : PySem.W.Frag
  mg : Str → Option Value
  base : Heap
  N : List Str
  sc : Scope
  k : Nat
  fn : Str → Bool
structure Cp.Is (c : Cp) (X : Cx) : Prop where
  prog : X.prog = c.P
  w : X.w = c.w
  K : X.K = c.K
  mg : X.mg = c.mg
  base : X.base = c.base
  N : X.N = c.N
  sc : X.env.scope = c.sc
  fn : X.fn = c.fn
  calm : X.calm = true
  room : Room c.k X.A
  xe : X.xe = fun _ _ => False
  nd : c.N.Nodup
def Cp.blk (c : Cp) (scope : Scope) : Cp := { c with sc := relS scope c.sc, fn := fun x => scope.names.lookup x == some .cell }
theorem Cp.Is.blk {c : Cp} {X : Cx} (h : c.Is X) {scope : Scope} {s : Shared} {H : Hp} {C : Addr} {cl : List (Str × Addr)} {fp : List Addr} : (c.blk scope).Is (X.blk s H scope (compEnvC scope cl C X.env) fp) :=
  ⟨h.prog, h.w, h.K, h.mg, h.base, h.N, by show relabel scope X.env = relS scope c.sc; rw [← h.sc]; rfl, rfl, h.calm, h.room, rfl, h.nd⟩
theorem Cp.Is.never {c : Cp} {X : Cx} (h : c.Is X) : PassesOwn (model X.prog X.w) X.A X.env X.xe := by
  rw [h.xe]; exact PassesOwn.never
theorem Cp.Is.hu {c : Cp} {X : Cx} (h : c.Is X) : X.A.units + 1 < cLine := hu_of h.room

@[irreducible] def eOf (X : Cx) (e : Expr) : TE := fun σ H Q => ∀ pins s, Inv X pins σ H s → wpAny (model X.prog X.w) X.A (eval e X.env) (EP X pins σ Q) X.xe s
@[irreducible] def tOf (X : Cx) (e : Expr) : TT := fun σ H Q => ∀ pins s, Inv X pins σ H s → wpAny (model X.prog X.w) X.A (isTrue e X.env (eval e X.env)) (TP X pins σ Q) X.xe s
@[irreducible] def wOf (X : Cx) (e : Expr) : TT := fun σ H Q => ∀ whole pins s, Inv X pins σ H s → wpAny (model X.prog X.w) X.A (isTrue e X.env whole) (TP X pins σ Q) X.xe s
@[irreducible] def aOf (X : Cx) (es : List Expr) : TA := fun σ H Q => ∀ pos pins s, Inv X pins σ H s → wpAny (model X.prog X.w) X.A (spliced (backTo pos (starEach es X.env))) (AP X pins σ Q) X.xe s
@[irreducible] def sOf (X : Cx) (st : Stmt) : TS := fun D σ H => ∀ pins s, Inv X pins σ H s → wpAny (model X.prog X.w) X.A (exec st X.env) (SP X pins D) X.xe s
@[irreducible] def bOf (X : Cx) (st : List Stmt) : TS := fun D σ H => ∀ pins s, Inv X pins σ H s → wpAny (model X.prog X.w) X.A (execs st X.env) (SP X pins D) X.xe s
@[irreducible] def iOf (X : Cx) (tg iter : Expr) : TI := fun σ H R => ∀ pins s, Inv X pins σ H s → wpAny (model X.prog X.w) X.A (eval iter X.env) (fun v s1 => wpAny (model X.prog X.w) X.A (pyIter v) (PIE X pins σ tg R) X.xe s1) X.xe s
@[irreducible] def gOf (X : Cx) (tg : Expr) : TG := fun v σ H Q => ∀ pins s u, Inv X pins σ H s → RelV v u → wpAny (model X.prog X.w) X.A (assign tg X.env u) (fun _ s' => ∃ σ' H', Inv X pins σ' H' s' ∧ Q σ' H') X.xe s
theorem pe_of (X : Cx) (e : Expr) : PE X e (eOf X e) := ⟨fun pins s _ _ _ I h => by unfold eOf at h; exact h pins s I⟩
theorem pt_of (X : Cx) (e : Expr) : PT X e (tOf X e) := ⟨fun pins s _ _ _ I h => by unfold tOf at h; exact h pins s I⟩
theorem pw_of (X : Cx) (e : Expr) : PW X e (wOf X e) := ⟨fun wh pins s _ _ _ I h => by unfold wOf at h; exact h wh pins s I⟩
theorem pa_of (X : Cx) (e : List Expr) : PA X e (aOf X e) := ⟨fun pos pins s _ _ _ I h => by unfold aOf at h; exact h pos pins s I⟩
theorem ps_of (X : Cx) (e : Stmt) : PS X e (sOf X e) := ⟨fun pins s _ _ _ I h => by unfold sOf at h; exact h pins s I⟩
theorem pb_of (X : Cx) (e : List Stmt) : PSs X e (bOf X e) := ⟨fun pins s _ _ _ I h => by unfold bOf at h; exact h pins s I⟩
theorem pi_of (X : Cx) (tg e : Expr) : PI X tg e (iOf X tg e) := ⟨fun pins s _ _ _ I h => by unfold iOf at h; exact h pins s I⟩
theorem pg_of (X : Cx) (tg : Expr) : PG X tg (gOf X tg) := ⟨fun pins s _ _ _ u _ I r h => by unfold gOf at h; exact h pins s u I r⟩
theorem go_e {X : Cx} {e : Expr} {t : TE} (p : PE X e t) {σ : St} {H : Hp} {Q : VK} (h : t σ H Q) : eOf X e σ H Q := by unfold eOf; exact fun pins s I => p.run pins s σ H Q I h
theorem go_t {X : Cx} {e : Expr} {t : TT} (p : PT X e t) {σ : St} {H : Hp} {Q : Bool → Hp → Prop} (h : t σ H Q) : tOf X e σ H Q := by unfold tOf; exact fun pins s I => p.run pins s σ H Q I h
theorem go_w {X : Cx} {e : Expr} {t : TT} (p : PW X e t) {σ : St} {H : Hp} {Q : Bool → Hp → Prop} (h : t σ H Q) : wOf X e σ H Q := by unfold wOf; exact fun wh pins s I => p.run wh pins s σ H Q I h
theorem go_a {X : Cx} {e : List Expr} {t : TA} (p : PA X e t) {σ : St} {H : Hp} {Q : List V → Hp → Prop} (h : t σ H Q) : aOf X e σ H Q := by unfold aOf; exact fun pos pins s I => p.run pos pins s σ H Q I h
theorem go_s {X : Cx} {e : Stmt} {t : TS} (p : PS X e t) {σ : St} {H : Hp} {D : Ends} (h : t D σ H) : sOf X e D σ H := by unfold sOf; exact fun pins s I => p.run pins s σ H D I h
theorem go_b {X : Cx} {e : List Stmt} {t : TS} (p : PSs X e t) {σ : St} {H : Hp} {D : Ends} (h : t D σ H) : bOf X e D σ H := by unfold bOf; exact fun pins s I => p.run pins s σ H D I h
theorem go_i {X : Cx} {tg e : Expr} {t : TI} (p : PI X tg e t) {σ : St} {H : Hp} {R : It → Hp → Prop} (h : t σ H R) : iOf X tg e σ H R := by unfold iOf; exact fun pins s I => p.run pins s σ H R I h
theorem go_g {X : Cx} {tg : Expr} {t : TG} (p : PG X tg t) {v : V} {σ : St} {H : Hp} {Q : St → Hp → Prop} (h : t v σ H Q) : gOf X tg v σ H Q := by unfold gOf; exact fun pins s u I r => p.run pins s σ H v u Q I r h
/-- a reading is monotone in what follows -/
theorem eOf.mono {X : Cx} {e : Expr} {σ : St} {H : Hp} {Q Q' : VK} (h : eOf X e σ H Q) (q : ∀ v H', Q v H' → Q' v H') : eOf X e σ H Q' := by
  unfold eOf at *
  exact fun pins s I =>
  thn (h pins s I) fun u s' ⟨v, H', I', r, x⟩ => ⟨v, H', I', r, q v H' x⟩

/-! ### the judgements -/
/-- pure: it gives d, nothing else is changed -/
def EP (c : Cp) (e : Expr) (Γ : Gm) (d : D) : Prop := ∀ (H0 : Hp) (B0 B : Av) (σ : St) (H : Hp) (Q : VK), Sto H0 B0 B σ H Γ → (∀ v H', Ext H H' → Rp B H' v d → Q v H') → ∀ X, c.Is X → eOf X e σ H Q
/-- pure, its top object at any address -/
def EW (c : Cp) (e : Expr) (Γ : Gm) (d : D) : Prop := ∀ (H0 : Hp) (B0 B : Av) (σ : St) (H : Hp) (Q : VK), Sto H0 B0 B σ H Γ → (∀ v H', Ext H H' → Rw B H' v d → Q v H') → ∀ X, c.Is X → eOf X e σ H Q
/-- pure, a new object that nothing else holds -/
def EO (c : Cp) (e : Expr) (Γ : Gm) (o : Ob) : Prop := ∀ (H0 : Hp) (B0 B : Av) (σ : St) (H : Hp) (Q : VK), Sto H0 B0 B σ H Γ →
  (∀ p H', H p = none → Ext H H' → RpO (fun a => a = p ∨ B a) H' p o → Q (.ref p) H') → ∀ X, c.Is X → eOf X e σ H Q
/-- objects of one's own may change: a value d and a state Γ' with P d Γ' -/
def EX (c : Cp) (e : Expr) (Γ : Gm) (P : D → Gm → Prop) : Prop := ∀ (H0 : Hp) (B0 B : Av) (σ : St) (H : Hp) (Q : VK), Sto H0 B0 B σ H Γ →
  (∀ v H' d Γ', P d Γ' → Sto H0 B0 B σ H' Γ' → Tr B H B H' → Rp B H' v d → Q v H') → ∀ X, c.Is X → eOf X e σ H Q
def TP (c : Cp) (e : Expr) (Γ : Gm) (b : Bool) : Prop := ∀ (H0 : Hp) (B0 B : Av) (σ : St) (H : Hp) (Q : Bool → Hp → Prop), Sto H0 B0 B σ H Γ → (∀ H', Ext H H' → Q b H') → ∀ X, c.Is X → tOf X e σ H Q
def WP (c : Cp) (e : Expr) (Γ : Gm) (b : Bool) : Prop := ∀ (H0 : Hp) (B0 B : Av) (σ : St) (H : Hp) (Q : Bool → Hp → Prop), Sto H0 B0 B σ H Γ → (∀ H', Ext H H' → Q b H') → ∀ X, c.Is X → wOf X e σ H Q
def TX (c : Cp) (e : Expr) (Γ : Gm) (P : Bool → Gm → Prop) : Prop := ∀ (H0 : Hp) (B0 B : Av) (σ : St) (H : Hp) (Q : Bool → Hp → Prop), Sto H0 B0 B σ H Γ → (∀ k H' Γ', P k Γ' → Sto H0 B0 B σ H' Γ' → Tr B H B H' → Q k H') → ∀ X, c.Is X → tOf X e σ H Q
def WX (c : Cp) (e : Expr) (Γ : Gm) (P : Bool → Gm → Prop) : Prop := ∀ (H0 : Hp) (B0 B : Av) (σ : St) (H : Hp) (Q : Bool → Hp → Prop), Sto H0 B0 B σ H Γ → (∀ k H' Γ', P k Γ' → Sto H0 B0 B σ H' Γ' → Tr B H B H' → Q k H') → ∀ X, c.Is X → wOf X e σ H Q
/-- arguments -/
def AP (c : Cp) (es : List Expr) (Γ : Gm) (ds : List D) : Prop := ∀ (H0 : Hp) (B0 B : Av) (σ : St) (H : Hp) (Q : List V → Hp → Prop), Sto H0 B0 B σ H Γ → (∀ vs H', Ext H H' → RpA B H' vs ds → Q vs H') → ∀ X, c.Is X → aOf X es σ H Q
/-- a target: ts the slots that it may store -/
def GT (c : Cp) (tg : Expr) (ts : List Nat) (Γ : Gm) (d : D) (Γ' : Gm) : Prop := ∀ (H0 : Hp) (B0 B : Av) (σ : St) (H : Hp) (v : V) (Q : St → Hp → Prop), Sto H0 B0 B σ H Γ → Rp B H v d →
  (∀ σ', σ'.length = σ.length → (∀ k, k ∉ ts → σ'[k]? = σ[k]?) → Sto H0 B0 B σ' H Γ' → Q σ' H) → ∀ X, c.Is X → gOf X tg v σ H Q
def SX (c : Cp) (st : Stmt) (Γ : Gm) (E : En) : Prop := ∀ (H0 : Hp) (B0 B : Av) (σ : St) (H : Hp) (Dn : Ends), Sto H0 B0 B σ H Γ → Lift H0 B0 E Dn B H → ∀ X, c.Is X → sOf X st Dn σ H
def BX (c : Cp) (sts : List Stmt) (Γ : Gm) (E : En) : Prop := ∀ (H0 : Hp) (B0 B : Av) (σ : St) (H : Hp) (Dn : Ends), Sto H0 B0 B σ H Γ → Lift H0 B0 E Dn B H → ∀ X, c.Is X → bOf X sts Dn σ H
end GL
end
/-! ## G2 -/
section
namespace GL
open PySem PySem.Spec PyProof.Rows L2
section
variable {c : Cp} {Γ Γ' Γ1 Γ2 : Gm} {e a b t : Expr} {es : List Expr} {d x y z : D} {pos p : Pos}

theorem Cp.Is.gl {X : Cx} (cx : c.Is X) {x : Str} (h : c.sc.names.lookup x = some .globalImplicit) : Gl X x := by
  show X.env.scope.names.lookup x = _
  rw [cx.sc]; exact h
theorem Sto.off {H0 : Hp} {B0 B : Av} {σ : St} {H : Hp} (S : Sto H0 B0 B σ H Γ) {p : Addr} (h : H p = none) : ¬ B p := fun q => by
  obtain ⟨o, e⟩ := S.inH p q
  rw [h] at e; cases e
theorem EP.w (h : EP c e Γ d) : EW c e Γ d := fun H0 B0 B σ H Q S k X cx => h H0 B0 B σ H Q S (fun v H' x r => k v H' x r.w) X cx
theorem EO.ep {ds : List D} (h : EO c e Γ (.lst ds)) : EP c e Γ (.list ds) := fun H0 B0 B σ H Q S k X cx => h H0 B0 B σ H Q S (fun p H' hp x r => by
  obtain ⟨xs, h1, h2⟩ := r
  exact k _ _ x (.lst (S.off hp) h1 (h2.sub fun a q => .inr q))) X cx
theorem EP.toX (h : EP c e Γ d) : EX c e Γ (fun d' Γ' => d' = d ∧ Γ' = Γ) := fun H0 B0 B σ H Q S k X cx => h H0 B0 B σ H Q S (fun v H' x r => k v H' d Γ ⟨rfl, rfl⟩ (S.ext x) x.tr r) X cx
theorem TP.toX {k : Bool} (h : TP c e Γ k) : TX c e Γ (fun k' Γ' => k' = k ∧ Γ' = Γ) := fun H0 B0 B σ H Q S q X cx => h H0 B0 B σ H Q S (fun H' x => q k H' Γ ⟨rfl, rfl⟩ (S.ext x) x.tr) X cx
theorem EX.mono {P P' : D → Gm → Prop} (h : EX c e Γ P) (q : ∀ d Γ', P d Γ' → P' d Γ') : EX c e Γ P' := fun H0 B0 B σ H Q S k X cx => h H0 B0 B σ H Q S (fun v H' d Γ' pp => k v H' d Γ' (q d Γ' pp)) X cx
theorem TX.mono {P P' : Bool → Gm → Prop} (h : TX c e Γ P) (q : ∀ d Γ', P d Γ' → P' d Γ') : TX c e Γ P' := fun H0 B0 B σ H Q S k X cx => h H0 B0 B σ H Q S (fun d H' Γ' pp => k d H' Γ' (q d Γ' pp)) X cx
theorem WP.toT {k : Bool} (h : WP c e Γ k) : TP c e Γ k := fun H0 B0 B σ H Q S q X cx => go_t (pw_of X e).pt (h H0 B0 B σ H Q S q X cx)
theorem WX.toT {P : Bool → Gm → Prop} (h : WX c e Γ P) : TX c e Γ P := fun H0 B0 B σ H Q S q X cx => go_t (pw_of X e).pt (h H0 B0 B σ H Q S q X cx)
theorem EP.is {d' : D} (h : EP c e Γ d) (q : d = d') : EP c e Γ d' := q ▸ h
theorem EW.is {d' : D} (h : EW c e Γ d) (q : d = d') : EW c e Γ d' := q ▸ h
theorem TP.is {k k' : Bool} (h : TP c e Γ k) (q : k = k') : TP c e Γ k' := q ▸ h
theorem EO.is {d d' : Ob} (h : EO c e Γ d) (q : d = d') : EO c e Γ d' := q ▸ h

/-! ### names, constants -/
theorem ep_name {i : Nat} {n : Str} (hN : c.N[i]? = some n) (hv : Vis c.sc n) (hg : Γ[i]? = some (.val d)) (hd : (n == ("__debug__" : Str)) = false := by decide) (hcd : (n == ("__classdict__" : Str)) = false := by decide) : EP c (.Name n pos) Γ d :=
  fun H0 B0 B σ H Q S k X cx => by
    obtain ⟨v, h1, h2⟩ := S.val i d hg
    exact go_e (pe_var (by rw [cx.N]; exact hN) (by rw [cx.sc]; exact hv) hd hcd) ⟨v, h1, k v H (Ext.refl H) h2⟩
theorem ew_own {i : Nat} {n : Str} {ds : List D} (hN : c.N[i]? = some n) (hv : Vis c.sc n) (hg : Γ[i]? = some (.own (.lst ds))) (hd : (n == ("__debug__" : Str)) = false := by decide) (hcd : (n == ("__classdict__" : Str)) = false := by decide) : EW c (.Name n pos) Γ (.list ds) :=
  fun H0 B0 B σ H Q S k X cx => by
    obtain ⟨b, h1, h2, h3, xs, h4, h5⟩ := S.own i _ hg
    exact go_e (pe_var (by rw [cx.N]; exact hN) (by rw [cx.sc]; exact hv) hd hcd) ⟨_, h1, k _ H (Ext.refl H) (.lst h4 h5)⟩
theorem ep_int {i j} : EP c (.Constant (.int i) j pos) Γ (.int i) := fun _ _ _ _ H _ _ k _ _ => go_e pe_int (k _ H (Ext.refl H) (.int i))
theorem ep_bool {i j} : EP c (.Constant (.bool i) j pos) Γ (.bool i) := fun _ _ _ _ H _ _ k _ _ => go_e pe_bl (k _ H (Ext.refl H) (.bl i))
theorem ep_none {j} : EP c (.Constant .none j pos) Γ .none := fun _ _ _ _ H _ _ k _ _ => go_e pe_non (k _ H (Ext.refl H) .non)
theorem ep_str {i j} : EP c (.Constant (.str i) j pos) Γ (.str i) := fun _ _ _ _ H _ _ k _ _ => go_e pe_str (k _ H (Ext.refl H) (.str i))

/-! ### operators -/
def RvD (r : R2) (x y z : D) : Prop := ∀ (B : Av) (H : Hp) (v w : V) (Q : VK), (∀ b, B b → ∃ o, H b = some o) → Rw B H v x → Rw B H w y → (∀ u H', Ext H H' → Rp B H' u z → Q u H') → r v w H Q
theorem rvd_i {C : Int → Int → Prop} {g : Int → Int → Int} {i j : Int} (hc : C i j) : RvD (rI C fun i j => .int (g i j)) (.int i) (.int j) (.int (g i j)) := fun B H v w Q _ r1 r2 k => by
  cases r1; cases r2; exact ⟨i, j, rfl, rfl, hc, k _ H (Ext.refl H) (.int _)⟩
theorem rvd_i0 {g : Int → Int → Int} {i j : Int} : RvD (rI0 fun i j => .int (g i j)) (.int i) (.int j) (.int (g i j)) := fun B H v w Q _ r1 r2 k => by
  cases r1; cases r2; exact ⟨i, j, rfl, rfl, k _ H (Ext.refl H) (.int _)⟩
theorem rvd_b0 {g : Int → Int → Bool} {i j : Int} : RvD (rI0 fun i j => .bl (g i j)) (.int i) (.int j) (.bool (g i j)) := fun B H v w Q _ r1 r2 k => by
  cases r1; cases r2; exact ⟨i, j, rfl, rfl, k _ H (Ext.refl H) (.bl _)⟩
theorem rvd_eqI {i j : Int} : RvD rEq (.int i) (.int j) (.bool (decide (i = j))) := fun B H v w Q _ r1 r2 k => by
  cases r1; cases r2
  refine ⟨rfl, ?_⟩
  rw [show decide (V.int i = V.int j) = decide (i = j) by rw [dec_int]; rfl]
  exact k _ H (Ext.refl H) (.bl _)
theorem rvd_neI {i j : Int} : RvD rNe (.int i) (.int j) (.bool (!decide (i = j))) := fun B H v w Q _ r1 r2 k => by
  cases r1; cases r2
  refine ⟨rfl, ?_⟩
  rw [show decide (V.int i = V.int j) = decide (i = j) by rw [dec_int]; rfl]
  exact k _ H (Ext.refl H) (.bl _)
theorem rvd_eqB {i j : Bool} : RvD rEq (.bool i) (.bool j) (.bool (i == j)) := fun B H v w Q _ r1 r2 k => by
  cases r1; cases r2
  refine ⟨rfl, ?_⟩
  rw [show decide (V.bl i = V.bl j) = (i == j) by cases i <;> cases j <;> rfl]
  exact k _ H (Ext.refl H) (.bl _)
theorem rvd_neB {i j : Bool} : RvD rNe (.bool i) (.bool j) (.bool (i != j)) := fun B H v w Q _ r1 r2 k => by
  cases r1; cases r2
  refine ⟨rfl, ?_⟩
  rw [show (!decide (V.bl i = V.bl j)) = (i != j) by cases i <;> cases j <;> rfl]
  exact k _ H (Ext.refl H) (.bl _)
def D.eq (d e : D) : Bool := PyData.eqv d.py e.py
def D.ok (d : D) : Prop := SeqAt.shaped d.py = true
theorem rvd_eq {K : PySem.W.Frag} {d e : D} (hd : d.ok) (he : e.ok) : RvD (rEqD K) d e (.bool (d.eq e)) := fun B H v w Q _ r1 r2 k => ⟨_, _, r1.dp, r2.dp, hd, he, k _ H (Ext.refl H) (.bl _)⟩
theorem rvd_ne {K : PySem.W.Frag} {d e : D} (hd : d.ok) (he : e.ok) : RvD (rNeD K) d e (.bool (!d.eq e)) := fun B H v w Q _ r1 r2 k => ⟨_, _, r1.dp, r2.dp, hd, he, k _ H (Ext.refl H) (.bl _)⟩
theorem rvd_isN {d : D} : RvD (fun x y H Q => y = .non ∧ Q (.bl (decide (x = .non))) H) d .none (.bool (match d with | .none => true | _ => false)) := fun B H v w Q _ r1 r2 k => by
  cases r2
  refine ⟨rfl, ?_⟩
  cases r1 with
  | non => exact k _ H (Ext.refl H) (.bl _)
  | bl b => exact k _ H (Ext.refl H) (.bl _)
  | int b => exact k _ H (Ext.refl H) (.bl _)
  | str b => exact k _ H (Ext.refl H) (.bl _)
  | lst h r => exact k _ H (Ext.refl H) (.bl _)
  | tup h r => exact k _ H (Ext.refl H) (.bl _)
theorem eqI_any {i : Int} : ∀ {ns : List Int}, (ns.map V.int).any (fun y => eqV y (.int i)) = decide (i ∈ ns)
  | [] => by simp
  | n :: ns => by
    rw [List.map_cons, List.any_cons, eqI_any (ns := ns)]
    have e : eqV (.int n) (.int i) = decide (i = n) := by
      show (n == i) = decide (i = n)
      rw [Bool.eq_iff_iff]; simp; exact ⟨fun h => h.symm, fun h => h.symm⟩
    rw [e, Bool.eq_iff_iff]
    simp
theorem flat_ints : ∀ ns : List Int, (ns.map V.int).all flatV = true
  | [] => rfl
  | n :: ns => by rw [List.map_cons, List.all_cons, flat_ints ns]; rfl
theorem rvd_inLI {K : PySem.W.Frag} {neg : Bool} {i : Int} {ns : List Int} : RvD (rIn K neg) (.int i) (.list (ns.map .int)) (.bool (if neg then !decide (i ∈ ns) else decide (i ∈ ns))) := fun B H v w Q _ r1 r2 k => by
  cases r1
  cases r2 with
  | lst h r =>
    have e := r.map_int
    subst e
    refine ⟨_, _, rfl, .inl h.sq, rfl, flat_ints ns, ?_⟩
    rw [show inV (.int i) (ns.map V.int) = decide (i ∈ ns) from eqI_any]
    exact k _ H (Ext.refl H) (.bl _)
theorem rvd_inTI {K : PySem.W.Frag} {neg kk : Bool} {i : Int} {ns : List Int} : RvD (rIn K neg) (.int i) (.tup kk (ns.map .int)) (.bool (if neg then !decide (i ∈ ns) else decide (i ∈ ns))) := fun B H v w Q _ r1 r2 k => by
  cases r1
  cases r2 with
  | tup h r =>
    have e := r.map_int
    subst e
    refine ⟨_, _, rfl, .inr h.sq, rfl, flat_ints ns, ?_⟩
    rw [show inV (.int i) (ns.map V.int) = decide (i ∈ ns) from eqI_any]
    exact k _ H (Ext.refl H) (.bl _)
theorem any_py {d : D} : ∀ ds : List D, (D.pyAll ds).any (fun z => PyData.eqv z d.py) = ds.any fun z => z.eq d
  | [] => rfl
  | x :: xs => by rw [D.pyAll, List.any_cons, List.any_cons, any_py xs]; rfl
theorem rvd_inD {K : PySem.W.Frag} {d : D} {ds : List D} (hd : d.ok) (hs : (D.list ds).ok) : RvD (rInD K) d (.list ds) (.bool (ds.any fun z => z.eq d)) := fun B H v w Q _ r1 r2 k => ⟨_, _, r1.dp, r2.dp, hd, hs, by
  rw [any_py]; exact k _ H (Ext.refl H) (.bl _)⟩
theorem rvd_ninD {K : PySem.W.Frag} {d : D} {ds : List D} (hd : d.ok) (hs : (D.list ds).ok) : RvD (rNotInD K) d (.list ds) (.bool (!ds.any fun z => z.eq d)) := fun B H v w Q _ r1 r2 k => ⟨_, _, r1.dp, r2.dp, hd, hs, by
  rw [any_py]; exact k _ H (Ext.refl H) (.bl _)⟩
theorem rvd_cat {xs ys : List D} (hz : xs.length + ys.length ≤ sizeLine) : RvD rCat (.list xs) (.list ys) (.list (xs ++ ys)) := fun B H v w Q hB r1 r2 k => by
  cases r1 with
  | lst h r =>
    cases r2 with
    | lst h2 r2 =>
      refine ⟨_, _, _, _, rfl, rfl, h, h2, by rw [r.length, r2.length]; exact hz, fun p hp => ?_⟩
      exact k _ _ (Ext.new hp) (.lst (fun q => by obtain ⟨o, e⟩ := hB p q; rw [hp] at e; cases e) upd_same ((r.append r2).ext (Ext.new hp)))

theorem ep_bin {op : Operator} {r : R2} (ho : ∀ X, c.Is X → OpR X (binaryOp op) r) (ha : EW c a Γ x) (hb : EW c b Γ y) (hr : RvD r x y z) : EP c (.BinOp a op b pos) Γ z := fun H0 B0 B σ H Q S k X cx =>
  go_e (pe_op (ho X cx) (pe_of X a) (pe_of X b)) (ha H0 B0 B σ H _ S (fun v H1 e1 r1 => hb H0 B0 B σ H1 _ (S.ext e1) (fun w H2 e2 r2 => hr B H2 v w Q (S.ext (e1.trans e2)).inH (r1.ext e2) r2 fun u H3 e3 q => k u H3 ((e1.trans e2).trans e3) q) X cx) X cx)
theorem ep_cmp {op : CmpOp} {r : R2} (ho : ∀ X, c.Is X → OpR X (compareOp op) r) (ha : EW c a Γ x) (hb : EW c b Γ y) (hr : RvD r x y z) (hm : behindInMarks op b = false := by first | exact nomark _ | rfl) : EP c (.Compare a [op] [b] pos) Γ z := fun H0 B0 B σ H Q S k X cx =>
  go_e (pe_cmpR (ho X cx) (pe_of X a) (pe_of X b) hm) (ha H0 B0 B σ H _ S (fun v H1 e1 r1 => hb H0 B0 B σ H1 _ (S.ext e1) (fun w H2 e2 r2 => hr B H2 v w Q (S.ext (e1.trans e2)).inH (r1.ext e2) r2 fun u H3 e3 q => k u H3 ((e1.trans e2).trans e3) q) X cx) X cx)
theorem tp_cmp {op : CmpOp} {r : R2} {k : Bool} (ho : ∀ X, c.Is X → OpR X (compareOp op) r) (ha : EW c a Γ x) (hb : EW c b Γ y) (hr : RvD r x y (.bool k)) (hm : behindInMarks op b = false := by first | exact nomark _ | rfl) : TP c (.Compare a [op] [b] pos) Γ k := fun H0 B0 B σ H Q S q X cx =>
  go_t (pt_cmpR (ho X cx) (pe_of X a) (pe_of X b) hm) (ha H0 B0 B σ H _ S (fun v H1 e1 r1 => hb H0 B0 B σ H1 _ (S.ext e1) (fun w H2 e2 r2 => hr B H2 v w _ (S.ext (e1.trans e2)).inH (r1.ext e2) r2 fun u H3 e3 rr => by
    cases rr; exact ⟨k, rfl, q H3 ((e1.trans e2).trans e3)⟩) X cx) X cx)
/-- a chain of two -/
theorem ep_chain {op op' : CmpOp} {r r' : R2} {x3 : Expr} {k k' : Bool} {w : D} (ho : ∀ X, c.Is X → OpR X (compareOp op) r) (ho' : ∀ X, c.Is X → OpR X (compareOp op') r') (ha : EW c a Γ x) (hb : EW c b Γ y) (hr : RvD r x y (.bool k)) (hc : k = true → EW c x3 Γ w ∧ RvD r' y w (.bool k')) (hk : k = false → k' = false)
    (hm : ∀ X, PE X a (eOf X a) → PE X b (eOf X b) → PE X x3 (eOf X x3) → OpR X (compareOp op) r → OpR X (compareOp op') r' → PE X (.Compare a [op, op'] [b, x3] pos) (tChain r r' (eOf X a) (eOf X b) (eOf X x3)) := by exact fun X p1 p2 p3 o1 o2 => pe_chain o1 o2 p1 p2 p3) :
    EP c (.Compare a [op, op'] [b, x3] pos) Γ (.bool k') := fun H0 B0 B σ H Q S q X cx =>
  go_e (hm X (pe_of X a) (pe_of X b) (pe_of X x3) (ho X cx) (ho' X cx)) (ha H0 B0 B σ H _ S (fun v H1 e1 r1 => hb H0 B0 B σ H1 _ (S.ext e1) (fun w' H2 e2 r2 => hr B H2 v w' _ (S.ext (e1.trans e2)).inH (r1.ext e2) r2 fun u H3 e3 rr => by
    cases rr
    refine ⟨k, rfl, ?_⟩
    have e123 := (e1.trans e2).trans e3
    cases hkk : k with
    | true =>
      obtain ⟨h3, hr'⟩ := hc hkk
      refine iteT (h3 H0 B0 B σ H3 _ (S.ext e123) (fun w3 H4 e4 r4 => hr' B H4 _ w3 Q (S.ext (e123.trans e4)).inH (r2.ext (e3.trans e4)) r4 fun u H5 e5 q5 => q u H5 ((e123.trans e4).trans e5) q5) X cx)
    | false =>
      refine iteF (q _ H3 e123 ?_)
      rw [hk hkk]
      exact .bl false) X cx) X cx)
theorem tp_chain {op op' : CmpOp} {r r' : R2} {x3 : Expr} {k k' : Bool} {w : D} (ho : ∀ X, c.Is X → OpR X (compareOp op) r) (ho' : ∀ X, c.Is X → OpR X (compareOp op') r') (ha : EW c a Γ x) (hb : EW c b Γ y) (hr : RvD r x y (.bool k)) (hc : k = true → EW c x3 Γ w ∧ RvD r' y w (.bool k')) (hk : k = false → k' = false)
    (hm : ∀ X, PE X a (eOf X a) → PE X b (eOf X b) → PE X x3 (eOf X x3) → OpR X (compareOp op) r → OpR X (compareOp op') r' → PT X (.Compare a [op, op'] [b, x3] pos) (tTest (tChain r r' (eOf X a) (eOf X b) (eOf X x3))) := by exact fun X p1 p2 p3 o1 o2 => pt_chain o1 o2 p1 p2 p3) :
    TP c (.Compare a [op, op'] [b, x3] pos) Γ k' := fun H0 B0 B σ H Q S q X cx =>
  go_t (hm X (pe_of X a) (pe_of X b) (pe_of X x3) (ho X cx) (ho' X cx)) (ha H0 B0 B σ H _ S (fun v H1 e1 r1 => hb H0 B0 B σ H1 _ (S.ext e1) (fun w' H2 e2 r2 => hr B H2 v w' _ (S.ext (e1.trans e2)).inH (r1.ext e2) r2 fun u H3 e3 rr => by
    cases rr
    refine ⟨k, rfl, ?_⟩
    have e123 := (e1.trans e2).trans e3
    cases hkk : k with
    | true =>
      obtain ⟨h3, hr'⟩ := hc hkk
      refine iteT (h3 H0 B0 B σ H3 _ (S.ext e123) (fun w3 H4 e4 r4 => hr' B H4 _ w3 _ (S.ext (e123.trans e4)).inH (r2.ext (e3.trans e4)) r4 fun u H5 e5 q5 => by
        cases q5; exact ⟨k', rfl, q H5 ((e123.trans e4).trans e5)⟩) X cx)
    | false =>
      refine iteF ⟨false, rfl, ?_⟩
      have z := q H3 e123
      rw [hk hkk] at z
      exact z) X cx) X cx)

/-! ### tests, and, or, not -/
theorem tp_val {k : Bool} (h : EP c e Γ (.bool k)) (he : ∀ (env : Env) whole, isTrue e env whole = (do let v ← whole; standAt e.pos; holding [v] (truthy v)) := by intro _ _; rfl) : TP c e Γ k := fun H0 B0 B σ H Q S q X cx =>
  go_t (pt_val (pe_of X e) (he X.env)) (h H0 B0 B σ H _ S (fun v H' x r => by cases r; exact ⟨k, rfl, q H' x⟩) X cx)
theorem tp_not {k : Bool} (h : TP c a Γ k) : TP c (.UnaryOp .Not a pos) Γ (!k) := fun H0 B0 B σ H Q S q X cx => go_t (pt_not (pt_of X a)) (h H0 B0 B σ H _ S (fun H' x => q H' x) X cx)
theorem wp_and1 {k : Bool} (h : TP c a Γ k) : WP c (.BoolOp .And [a] pos) Γ k := fun H0 B0 B σ H Q S q X cx => go_w (pw_and1 (pt_of X a)) (h H0 B0 B σ H _ S q X cx)
theorem wp_or1 {k : Bool} (h : TP c a Γ k) : WP c (.BoolOp .Or [a] pos) Γ k := fun H0 B0 B σ H Q S q X cx => go_w (pw_or1 (pt_of X a)) (h H0 B0 B σ H _ S q X cx)
theorem wp_and {k k' : Bool} {rest : List Expr} (h : TP c a Γ k) (h' : k = true → WP c (.BoolOp .And (b :: rest) pos) Γ k') (hk : k = false → k' = false) : WP c (.BoolOp .And (a :: b :: rest) pos) Γ k' := fun H0 B0 B σ H Q S q X cx =>
  go_w (pw_and (pt_of X a) (pw_of X _)) (h H0 B0 B σ H _ S (fun H' x => by
    cases hkk : k with
    | true => exact iteT (h' hkk H0 B0 B σ H' _ (S.ext x) (fun H2 x2 => q H2 (x.trans x2)) X cx)
    | false =>
      have z := q H' x
      rw [hk hkk] at z
      exact iteF z) X cx)
theorem wp_or {k k' : Bool} {rest : List Expr} (h : TP c a Γ k) (h' : k = false → WP c (.BoolOp .Or (b :: rest) pos) Γ k') (hk : k = true → k' = true) : WP c (.BoolOp .Or (a :: b :: rest) pos) Γ k' := fun H0 B0 B σ H Q S q X cx =>
  go_w (pw_or (pt_of X a) (pw_of X _)) (h H0 B0 B σ H _ S (fun H' x => by
    cases hkk : k with
    | true =>
      have z := q H' x
      rw [hk hkk] at z
      exact iteT z
    | false => exact iteF (h' hkk H0 B0 B σ H' _ (S.ext x) (fun H2 x2 => q H2 (x.trans x2)) X cx)) X cx)
theorem wx_and1 {P : Bool → Gm → Prop} (h : TX c a Γ P) : WX c (.BoolOp .And [a] pos) Γ P := fun H0 B0 B σ H Q S q X cx => go_w (pw_and1 (pt_of X a)) (h H0 B0 B σ H _ S q X cx)
theorem wx_or1 {P : Bool → Gm → Prop} (h : TX c a Γ P) : WX c (.BoolOp .Or [a] pos) Γ P := fun H0 B0 B σ H Q S q X cx => go_w (pw_or1 (pt_of X a)) (h H0 B0 B σ H _ S q X cx)
theorem tx_not {P : Bool → Gm → Prop} (h : TX c a Γ fun k Γ' => P (!k) Γ') : TX c (.UnaryOp .Not a pos) Γ P := fun H0 B0 B σ H Q S q X cx => go_t (pt_not (pt_of X a)) (h H0 B0 B σ H _ S (fun k H' Γ' pp S' x => q (!k) H' Γ' pp S' x) X cx)
theorem wx_and {P1 P : Bool → Gm → Prop} {rest : List Expr} (h : TX c a Γ P1) (h' : ∀ Γ1, P1 true Γ1 → WX c (.BoolOp .And (b :: rest) pos) Γ1 P) (hk : ∀ Γ1, P1 false Γ1 → P false Γ1) : WX c (.BoolOp .And (a :: b :: rest) pos) Γ P := fun H0 B0 B σ H Q S q X cx =>
  go_w (pw_and (pt_of X a) (pw_of X _)) (h H0 B0 B σ H _ S (fun k H' Γ1 pp S1 x => by
    cases k with
    | true => exact iteT (h' Γ1 pp H0 B0 B σ H' _ S1 (fun k2 H2 Γ2 p2 S2 x2 => q k2 H2 Γ2 p2 S2 (x.trans x2)) X cx)
    | false => exact iteF (q false H' Γ1 (hk Γ1 pp) S1 x)) X cx)
theorem wx_or {P1 P : Bool → Gm → Prop} {rest : List Expr} (h : TX c a Γ P1) (h' : ∀ Γ1, P1 false Γ1 → WX c (.BoolOp .Or (b :: rest) pos) Γ1 P) (hk : ∀ Γ1, P1 true Γ1 → P true Γ1) : WX c (.BoolOp .Or (a :: b :: rest) pos) Γ P := fun H0 B0 B σ H Q S q X cx =>
  go_w (pw_or (pt_of X a) (pw_of X _)) (h H0 B0 B σ H _ S (fun k H' Γ1 pp S1 x => by
    cases k with
    | true => exact iteT (q true H' Γ1 (hk Γ1 pp) S1 x)
    | false => exact iteF (h' Γ1 pp H0 B0 B σ H' _ S1 (fun k2 H2 Γ2 p2 S2 x2 => q k2 H2 Γ2 p2 S2 (x.trans x2)) X cx)) X cx)
theorem ep_one {op} (h : EP c a Γ d) : EP c (.BoolOp op [a] pos) Γ d := fun H0 B0 B σ H Q S q X cx => go_e (pe_one (pe_of X a)) (h H0 B0 B σ H _ S q X cx)
theorem ep_and {k k' : Bool} {rest : List Expr} (h : EP c a Γ (.bool k)) (h' : k = true → EP c (.BoolOp .And (b :: rest) pos) Γ (.bool k')) (hk : k = false → k' = false) : EP c (.BoolOp .And (a :: b :: rest) pos) Γ (.bool k') := fun H0 B0 B σ H Q S q X cx =>
  go_e (pe_and (pe_of X a) (pe_of X _)) (h H0 B0 B σ H _ S (fun v H' x r => by
    cases r
    refine ⟨k, rfl, ?_⟩
    cases hkk : k with
    | true => exact iteT (h' hkk H0 B0 B σ H' _ (S.ext x) (fun v2 H2 x2 => q v2 H2 (x.trans x2)) X cx)
    | false => exact iteF (q _ H' x (by rw [hk hkk]; exact .bl false))) X cx)
theorem ep_or {k k' : Bool} {rest : List Expr} (h : EP c a Γ (.bool k)) (h' : k = false → EP c (.BoolOp .Or (b :: rest) pos) Γ (.bool k')) (hk : k = true → k' = true) : EP c (.BoolOp .Or (a :: b :: rest) pos) Γ (.bool k') := fun H0 B0 B σ H Q S q X cx =>
  go_e (pe_or (pe_of X a) (pe_of X _)) (h H0 B0 B σ H _ S (fun v H' x r => by
    cases r
    refine ⟨k, rfl, ?_⟩
    cases hkk : k with
    | true => exact iteT (q _ H' x (by rw [hk hkk]; exact .bl true))
    | false => exact iteF (h' hkk H0 B0 B σ H' _ (S.ext x) (fun v2 H2 x2 => q v2 H2 (x.trans x2)) X cx)) X cx)
theorem ep_not {k : Bool} (h : EP c a Γ (.bool k)) : EP c (.UnaryOp .Not a pos) Γ (.bool (!k)) := fun H0 B0 B σ H Q S q X cx =>
  go_e (pe_not (pe_of X a)) (h H0 B0 B σ H _ S (fun v H' x r => by cases r; exact ⟨k, rfl, q _ H' x (.bl _)⟩) X cx)
theorem ep_if {k : Bool} (h : TP c t Γ k) (h1 : k = true → EP c a Γ d) (h2 : k = false → EP c b Γ d) : EP c (.IfExp t a b pos) Γ d := fun H0 B0 B σ H Q S q X cx =>
  go_e (pe_ifExp (pt_of X t) (pe_of X a) (pe_of X b)) (h H0 B0 B σ H _ S (fun H' x => by
    cases hkk : k with
    | true => exact iteT (h1 hkk H0 B0 B σ H' _ (S.ext x) (fun v2 H2 x2 => q v2 H2 (x.trans x2)) X cx)
    | false => exact iteF (h2 hkk H0 B0 B σ H' _ (S.ext x) (fun v2 H2 x2 => q v2 H2 (x.trans x2)) X cx)) X cx)
end
end GL
end
/-! ## G3 -/
section
namespace GL
open PySem PySem.Spec PyProof.Rows L2
/-! ### rules that the layer lacks: tuples laid without a dict -/
section
variable {X : Cx} {e : Expr} {es : List Expr} {t : TA} {pos : Pos}
def tTupF (t : TA) : TE := fun σ H Q => t σ H fun xs H1 => xs.length ≤ sizeLine ∧ ∀ p (o : Obj), H1 p = none → o.dict = none → Q (.ref p) (upd H1 p (.frz o (.tup xs)))
theorem pe_tupF {x1} (h : PA X es t) : PE X (.Tuple es x1 pos) (tTupF t) := by
  refine ⟨fun pins s σ H Q I hq => ?_⟩
  refine wpAny_Tuple_spliced (thn (h.run pos pins s σ H _ I hq) fun us s1 ⟨xs, H1, I1, r, z, q⟩ => ⟨by rw [← r.length]; exact z, ?_⟩)
  have hf : H1 s1.heap.objs.size = none := I1.hok.fresh (Nat.le_refl _)
  have ho := Heap.get?_push_size s1.heap (o := { cls := .type "tuple", data := .seq us.toArray }) rfl
  refine ⟨.ref s1.heap.objs.size, _, I1.laid (o := .frz { cls := .type "tuple", data := .seq us.toArray } (.tup xs)) (t' := s1.toks) (fun b u e => Heap.get?_push_of_some _ e) (Nat.le_refl _) ?_, rfl, q _ { cls := .type "tuple", data := .seq us.toArray } hf rfl⟩
  exact ⟨ho, z, us, r, ⟨_, ho, rfl, _, rfl⟩⟩
theorem call_tupleF : CallR X (.type "tuple") (fun xs H Q => ∃ p ys, xs = [.ref p] ∧ SqL X.K H p ys ∧ ∀ l (o : Obj), H l = none → o.dict = none → Q (.ref l) (upd H l (.frz o (.tup ys)))) := by
  intro pins s σ H xs us Q I r h
  obtain ⟨p, ys, rfl, hq, q⟩ := h
  obtain ⟨u, rfl, rx⟩ := vals1 r
  cases rx
  obtain ⟨its, r', pl, hz⟩ := I.list hq
  have hlen := r'.length
  refine call_tuple_list pl.isList (fun h' kp => ?_) (by simp only [List.size_toArray] <;> omega)
  have I1 : Inv X pins σ H { s with heap := h' } := I.kept (t' := s.toks) kp
  have ho := Heap.get?_push_size h' (o := { cls := .type "tuple", data := .seq its.toArray }) rfl
  have I2 : Inv X pins σ (upd H h'.objs.size (.frz { cls := .type "tuple", data := .seq its.toArray } (.tup ys))) { s with heap := h'.push { cls := .type "tuple", data := .seq its.toArray } } :=
    I1.laid (t' := s.toks) (fun b o e => Heap.get?_push_of_some _ e) (Nat.le_refl _) ⟨ho, hz, its, r', ⟨_, ho, rfl, _, rfl⟩⟩
  exact ⟨.ref h'.objs.size, _, I2, rfl, q _ _ (I1.hok.fresh (Nat.le_refl _)) rfl⟩
def rCatF (K : PySem.W.Frag) : R2 := fun x y H Q => ∃ a b xs ys, x = .ref a ∧ y = .ref b ∧ SqT K H a xs ∧ SqT K H b ys ∧ xs ≠ [] ∧ ys ≠ [] ∧ xs.length + ys.length ≤ sizeLine ∧
  ∀ p (o : Obj), H p = none → o.dict = none → Q (.ref p) (upd H p (.frz o (.tup (xs ++ ys))))
theorem op_catF : OpR X (binaryOp .Add) (rCatF X.K) := by
  intro pins s σ H x y v u Q I rx ry h
  obtain ⟨a, b, xs, ys, rfl, rfl, ha, hb, hx, hy, hz, q⟩ := h
  cases rx
  cases ry
  obtain ⟨its, r1, p1, _⟩ := I.tuple ha
  obtain ⟨its2, r2, p2, _⟩ := I.tuple hb
  refine HT.cat_tup p1 p2 (fun z => hx (r1.nil_iff.mp z)) (fun z => absurd (r2.nil_iff.mp z) hy) (fun z => ?_) (by rw [← r1.length, ← r2.length]; exact hz)
  have ho := Heap.get?_push_size s.heap (o := { cls := .type "tuple", data := .seq (its ++ its2).toArray }) rfl
  refine ⟨.ref s.heap.objs.size, _, I.laid (t' := s.toks) (o := .frz { cls := .type "tuple", data := .seq (its ++ its2).toArray } (.tup (xs ++ ys))) (fun b ob q => Heap.get?_push_of_some _ q) (Nat.le_refl _) ?_, rfl, q _ _ (I.hok.fresh (Nat.le_refl _)) rfl⟩
  exact ⟨ho, by rw [List.length_append]; exact hz, _, r1.append r2, ⟨_, ho, rfl, _, rfl⟩⟩

/-! ### max of a tuple of ints -/
theorem max_rawT {A : Around} {P : Program} {w : World} {E : Value → Shared → Prop} {s : Shared} {l : Addr} {its : List Value} {ns : List Int} {Q : Value → Shared → Prop} (hh : A.handled = none) (hl : s.heap.IsTuple l its.toArray) (hi : IntsAre its ns) (hne : 0 < ns.length)
    (h : ∀ h' tk M t', (∀ b o, s.heap.get? b = some o → h'.get? b = some o) → M ∈ ns → (∀ a, a ∈ ns → a ≤ M) → Q (.int M t') { s with heap := h', toks := tk }) : wpAny (model P w) A (call (.builtin "max") [.ref l]) Q E s := by
  obtain ⟨xs, e⟩ := hi.allInts.items
  have hn : numsOf (intItems xs).toList = ns := by rw [← e]; exact hi.numsOf
  rw [nums_intItems] at hn
  subst hn
  rw [e] at hl
  have hsz : 0 < xs.size := by simpa using hne
  have hlt : l < s.heap.objs.size := by obtain ⟨_, e, _⟩ := hl; exact Heap.lt_size e
  refine call_max_walk (wpAny_pyIter_tuple hl ?_)
  refine ⟨_, _, _, _, _, _, _, rfl, Walks.tuple (A := A.in1) hh _ l (Nat.ne_of_lt hlt) (intItems xs), ⟨⟨_, Heap.get?_push_size _ rfl, rfl, rfl⟩, Heap.IsTuple.at hl fun o e => Heap.get?_push_of_some _ e⟩, fun b hb => ?_, by simpa [intItems] using hsz, CmpOf.ints_gt (numAt xs) (fun _ _ => intItems_at), fun v h' tk hP hk => ?_⟩
  · show b < (s.heap.push _).objs.size
    rw [Heap.size_push]
    rcases List.mem_cons.mp hb with rfl | hb
    · exact Nat.lt_succ_self _
    · rcases List.mem_cons.mp hb with rfl | hb
      · exact Nat.lt_succ_of_lt hlt
      · cases hb
  · have hv : (intItems xs)[argBest (fun i j => decide (numAt xs i > numAt xs j)) (xs.size - 1)]? = some v := by simpa [intItems] using hP
    obtain ⟨t, rfl⟩ := intItems_at hv
    obtain ⟨h1, h2⟩ := argBest_gt (numAt xs) (xs.size - 1)
    refine h h' tk _ t (fun b o e => hk b o (fun hm => ?_) (Heap.get?_push_of_some _ e)) ?_ fun a ha => ?_
    · rcases List.mem_cons.mp hm with e1 | hm
      · exact absurd (e1 ▸ Heap.lt_size e) (Nat.lt_irrefl _)
      · cases hm
    · rw [numAt_eq]; exact PySem.getD_mem (by rw [List.length_map, Array.length_toList]; omega)
    · obtain ⟨j, hj, rfl⟩ := mem_getD ha
      rw [List.length_map, Array.length_toList] at hj
      rw [← numAt_eq]; exact h2 j (by omega)
theorem cr_maxT (hc : X.calm = true) : CallR X (.builtin "max") (fun vs H Q => ∃ (a : Addr) (ns : List Int), vs = [V.ref a] ∧ SqT X.K H a (ns.map V.int) ∧ 0 < ns.length ∧ ∀ M, M ∈ ns → (∀ a, a ∈ ns → a ≤ M) → Q (.int M) H) := by
  intro pins s σ H vs us Q I r h
  obtain ⟨a, ns, rfl, hs, hne, q⟩ := h
  obtain ⟨its, rv, hl, _⟩ := I.tuple hs
  rw [Vals.ref1 r]
  exact max_rawT (I.ok.hd hc) hl rv.ints hne fun h' tk m t' hk h1 h2 => ⟨.int _, H, I.kept hk, ⟨_, rfl⟩, q m h1 h2⟩

/-! ### sets of ints -/
def rSetTI (K : PySem.W.Frag) (w : World) : List V → Hp → VK → Prop := fun xs H Q => ∃ (l : Addr) (ns : List Int), xs = [V.ref l] ∧ SqT K H l (ns.map V.int) ∧ ns.length < 1000 ∧
  ∀ a n, H a = none → n ≤ ns.length → Q (.ref a) (upd H a (SetO w a (fun j => decide (j ∈ ns)) n))
theorem cr_setTI (hc : X.calm = true) : CallR X (.type "set") (rSetTI X.K X.w) := by
  intro pins s σ H vs us Q I r h
  obtain ⟨a, ns, rfl, hs, hn, q⟩ := h
  obtain ⟨its, rv, pt, hz⟩ := I.tuple hs
  rw [Vals.ref1 r]
  have hi : IntsAre its.toArray.toList ns := ints_of_vals rv
  refine call_set_tupI ns (I.ok.hd hc) (show s.heap.IsTuple a its.toArray from pt) hi (by unfold scanBound; omega) fun h' tk n R1 hcn k => ?_
  have hf : H s.heap.objs.size = none := I.hok.fresh (Nat.le_refl _)
  have I2 := I.laid (o := SetO X.w s.heap.objs.size (fun j => decide (j ∈ ns)) n) (t' := tk) k (Nat.le_refl _) (setO_new R1)
  exact ⟨.ref s.heap.objs.size, _, I2, rfl, q _ n hf hcn⟩
end
end GL
end
/-! ## G4 -/
section
open PySem PySem.Spec PyProof.Rows
namespace L2
theorem Paired.elim_get {α β : Type} {F : α → β → Prop} : ∀ {xs : List α} {ys : List β}, Paired F xs ys → ∀ (j : Nat) (y : β), ys[j]? = some y → ∃ x, xs[j]? = some x ∧ F x y
  | _, _, .nil, j, y, h => by cases h
  | _, _, .cons r t, 0, y, h => by cases h; exact ⟨_, rfl, r⟩
  | _, _, .cons r t, j + 1, y, h => Paired.elim_get t j y h
theorem Paired.of_get {α β : Type} {F : α → β → Prop} : ∀ {xs : List α} {ys : List β}, xs.length = ys.length → (∀ (j : Nat) (x : α) (y : β), xs[j]? = some x → ys[j]? = some y → F x y) → Paired F xs ys
  | [], [], _, _ => .nil
  | [], _ :: _, h, _ => by cases h
  | _ :: _, [], h, _ => by cases h
  | x :: xs, y :: ys, h, f => .cons (f 0 x y rfl rfl) (Paired.of_get (Nat.succ.inj h) fun j a b ha hb => f (j + 1) a b ha hb)
end L2
namespace GL
open PySem PySem.Spec PyProof.Rows L2
section
variable {X : Cx} {e a : Expr} {te ta : TE} {p p2 q apos cpos pos : Pos}
/-- list(e.values()) -/
def tListValues (te : TE) : TE := fun σ H Q => te σ H fun x H1 => ∃ (d : Addr) (kvs : List (Key × V)), x = .ref d ∧ H1 d = some (.dK kvs) ∧ ∀ p, H1 p = none → Q (.ref p) (upd H1 p (.lst (kvs.map (·.2))))
theorem items_vals : ∀ {kvs : List (Key × V)} {vs : List (Key × Value)} (l : List Value), KV kvs vs → l.length = vs.length → (∀ (j : Nat) (v : Value), l[j]? = some v → ∃ k, vs[j]? = some (k, v)) → Vals (kvs.map (·.2)) l
  | _, _, [], .nil, _, _ => .nil
  | _, _, [], .cons _ _, h, _ => by cases h
  | _, _, _ :: _, .nil, h, _ => by cases h
  | _, _, x :: l, .cons (b := kv) r t, h, hv => by
    obtain ⟨k, e⟩ := hv 0 x rfl
    cases e
    exact .cons r.2 (items_vals l t (Nat.succ.inj h) fun j v e => hv (j + 1) v e)
theorem pe_listValues (hc : X.calm = true) (he : PE X e te) (hg : Gl X "list") (hm : X.mg "list" = none) (hv : bootBuiltins "list" = some (.type "list")) (hbase : attributeBase e "values" X.env (eval e X.env) = eval e X.env := by rfl) (hline : (apos.endLine == cpos.line) = true := by rfl)
    (hs : starEach [.Call (.Attribute e "values" apos) [] [] cpos] X.env = (false, eval (.Call (.Attribute e "values" apos) [] [] cpos) X.env) :: starEach [] X.env := by rfl) :
    PE X (.Call (.Name "list" p) [.Call (.Attribute e "values" apos) [] [] cpos] [] pos) (tListValues te) := by
  refine ⟨fun pins s σ H Q I hq => ?_⟩
  refine wpAny_Call_Name_kw (ld_blt I hg hm hv ?_)
  refine PyProof.Rows.callWith_type1 ?_ hs rfl
  rw [hs]
  show wpAny _ _ (spliced ((false, eval (.Call (.Attribute e "values" apos) [] [] cpos) X.env) :: backTo pos (starEach [] X.env))) _ _ s
  refine Calls.spliced_cons ?_
  refine wpAny_Call_method (T := "dict") (id := "dict.values") hbase rfl hline F.plainAttrs_dict F.slot_dict_values F.type_dict_values (thn (he.run pins s σ H _ I hq) fun u s1 ⟨x, H1, I1, rx, d, kvs, ex, hd, q⟩ => ?_)
  subst ex
  obtain rfl : u = Value.ref d := rx
  obtain ⟨hz, hs0, vs, kv, hdo⟩ := I1.hok d _ hd
  obtain ⟨ep, hat⟩ := hdo.dictAt
  have lk : kvs.length = vs.length := Paired.length kv
  have I2 : Inv X pins σ H1 { s1 with heap := s1.heap.push { cls := .type "dict_values", data := .fields #[.ref d] } } := I1.kept (t' := s1.toks) fun b ob q => Heap.get?_push_of_some _ q
  refine ⟨hdo.typeIs, hdo.mapOf.noDict, ?_⟩
  show wpAny _ _ (callWith cpos (.builtin "dict.values") [.ref d] [] []) _ X.xe s1
  refine method_meetsIn F.slot_dict_values F.entry_dict_values rfl (PySem.evalArgs_none ⟨rfl, hdo.typeIs, F.args_dict_values_1 _, _, meets_dict_values (mixKind X.prog X.w) d hs0, ⟨vs, hdo⟩, ?_⟩)
  refine Calls.spliced_nil ?_
  refine PySem.W.kdl_call (PySem.W.kdl_values (knd := mixKind X.prog X.w) (kvs := vs) (ep := ep) (d := d) (r := s1.heap.objs.size)) (I1.ok.hd hc) ⟨⟨_, Heap.get?_push_size _ rfl, rfl, rfl⟩, hat.push _⟩ (by omega) fun h' tk acc c hk hS hacc => ?_
  have hval : Vals (kvs.map (·.2)) acc.toList := items_vals acc.toList kv (by rw [Array.length_toList]; exact hacc.1) fun j v e => hacc.2 j v (by rw [← Array.getElem?_toList]; exact e)
  have J := I2.laid (o := .lst (kvs.map (·.2))) (t' := tk) hk (Nat.le_refl _) ⟨by rw [List.length_map]; exact hz, acc.toList, c, hval, by rw [Array.toArray_toList]; exact hS⟩
  exact ⟨.ref _, _, J, rfl, q _ (I2.hok.fresh (Nat.le_refl _))⟩

/-- len(set(xs)), ints -/
def tLenSetG (K : PySem.W.Frag) (ta : TE) : TE := fun σ H Q => ta σ H fun x H1 => ∃ (l : Addr) (ns : List Int), x = V.ref l ∧ SqL K H1 l (ns.map V.int) ∧ ns.length < 64 ∧ Q (.int (firstMet (fun i => ns.getD i 0) ns.length).length) H1
theorem firstMet_len (f : Nat → Int) : ∀ n, (firstMet f n).length ≤ n
  | 0 => Nat.le_refl _
  | n + 1 => by
    have ih := firstMet_len f n
    rw [firstMet_succ]
    unfold step_dedup
    split
    · omega
    · rw [List.length_append]; simp; omega
theorem pe_lenSetG (hc : X.calm = true) (hg : Gl X "len") (hm : X.mg "len" = none) (hg2 : Gl X "set") (hm2 : X.mg "set" = none) (ha : PE X a ta)
    (na : starEach [a] X.env = (false, eval a X.env) :: starEach [] X.env := by rfl) : PE X (.Call (.Name "len" p) [.Call (.Name "set" p2) [a] [] q] [] pos) (tLenSetG X.K ta) := by
  refine ⟨fun pins s σ H Q I h => ?_⟩
  refine Call_ (ld_blt I hg hm PySem.boot_len ?_)
  refine PyProof.Rows.callWith_builtin1 (PyProof.Rows.args_cons ?_ rfl) rfl rfl
  refine Call_ (ld_blt I hg2 hm2 PyProof.Rows.boot_set ?_)
  refine PyProof.Rows.callWith_type1 (PyProof.Rows.args_cons (thn (ha.run pins s σ H _ I h) fun v s1 ⟨x, H1, I1, r1, q1⟩ => PyProof.Rows.args_nil ?_) na) na rfl
  obtain ⟨l, ns, rfl, hq, h1, q1⟩ := q1
  cases r1
  obtain ⟨its, r, pl, hz⟩ := I1.list hq
  have hl : its.toArray.size = ns.length := by rw [List.size_toArray, ← r.length, List.length_map]
  refine call_set_list (I1.ok.hd hc) pl.isList (ns := ns) (by simpa using r.ints) (by unfold scanBound; omega) fun h' tk hS hk => ?_
  rw [hl] at hS
  refine PyProof.Rows.args_nil ?_
  obtain ⟨o, es, ep, t, ho, hex, hd, _, _, _, hf, hn⟩ := hS
  have I2 : Inv X pins σ H1 { s1 with heap := h', toks := tk } := I1.kept fun b o e => hk b o (Heap.lt_size e) e
  have hle := firstMet_len (fun i => ns.getD i 0) ns.length
  refine call_len_set ho hex hd hf (by rw [hn] <;> omega) ⟨.int (firstMet (fun i => ns.getD i 0) ns.length).length, H1, I2.tok _, ⟨_, by rw [hn]⟩, q1⟩

/-- dict(xs), xs a list of pairs whose keys are tuples of ints, all different -/
def rDictT (K : PySem.W.Frag) : List V → Hp → VK → Prop := fun xs H Q => ∃ (a : Addr) (ps : List Addr) (es : List (List Int × Addr × V)), xs = [.ref a] ∧ SqL K H a (ps.map V.ref) ∧
  Paired (fun p (e : List Int × Addr × V) => SqT K H p [.ref e.2.1, e.2.2] ∧ H e.2.1 = some (.tup (e.1.map V.int))) ps es ∧ (es.map (·.1)).Nodup ∧ ∀ p, H p = none → Q (.ref p) (upd H p (.dT (es.map fun e => (kT e.1, e.2.2))))
theorem kT_V (l : List Int) : (kT l).map kV = l.map V.int := by
  show ((l.map Sum.inl).map kV) = _
  rw [List.map_map]; rfl
theorem kT_inj {l m : List Int} (h : kT l = kT m) : l = m := by
  have e : (kT l).map kV = (kT m).map kV := by rw [h]
  rw [kT_V, kT_V] at e
  exact (List.map_inj_right (fun a b q => V.int.inj q)).mp e
theorem storedAll_nodup {κ : Type} [DecidableEq κ] : ∀ (ps xs : List (κ × Addr × Value)), ((xs ++ ps).map (·.1)).Nodup → PySem.storedAllH xs ps = xs ++ ps
  | [], xs, _ => by rw [List.append_nil]; rfl
  | x :: ps, xs, h => by
    show PySem.storedAllH (storedH xs x.1 x.2.1 x.2.2) ps = _
    have hn : atKey xs x.1 = none := by
      unfold atKey
      rw [List.find?_eq_none.mpr (fun y hy => ?_)]
      · rfl
      · intro e
        have e' := of_decide_eq_true e
        rw [List.map_append, List.nodup_append] at h
        exact h.2.2 y.1 (List.mem_map.mpr ⟨y, hy, rfl⟩) x.1 (by rw [List.map_cons]; exact List.mem_cons_self) e'
    rw [storedH_new hn]
    have e : xs ++ [(x.1, x.2.1, x.2.2)] ++ ps = xs ++ x :: ps := by rw [List.append_assoc]; rfl
    rw [storedAll_nodup ps _ (by rw [e]; exact h), e]
theorem pairsT_of {pins : List (Addr × Obj)} {σ : St} {H : Hp} {s : Shared} (I : Inv X pins σ H s) : ∀ {ps : List Addr} {es : List (List Int × Addr × V)}, Paired (fun p (e : List Int × Addr × V) => SqT X.K H p [.ref e.2.1, e.2.2] ∧ H e.2.1 = some (.tup (e.1.map V.int))) ps es →
    ∃ vs : List Value, vs.length = es.length ∧ ps.length = es.length ∧ ∀ (j : Nat) (e : List Int × Addr × V), es[j]? = some e → ∃ b v, ps[j]? = some b ∧ vs[j]? = some v ∧ RelV e.2.2 v ∧ IsTup s.heap b #[.ref e.2.1, v]
  | _, _, .nil => ⟨[], rfl, rfl, fun j e h => by cases h⟩
  | _, _, .cons (a := p) (b := e) h t => by
    obtain ⟨vs, hl, hl2, hp⟩ := pairsT_of I t
    obtain ⟨its, rv, ht, _⟩ := I.tuple h.1
    obtain ⟨u, y, ei, ru, ry⟩ := vals2 rv
    subst ei
    cases ru
    refine ⟨y :: vs, by rw [List.length_cons, List.length_cons, hl], by rw [List.length_cons, List.length_cons, hl2], fun j e' he => ?_⟩
    cases j with
    | zero => cases he; exact ⟨p, y, rfl, rfl, ry, ht⟩
    | succ j => exact hp j e' he
theorem cr_dictT (hc : X.calm = true) (hu : X.A.units + 64 < cLine) : CallR X (.type "dict") (rDictT X.K) := by
  intro pins s σ H xs us Q I r q
  obtain ⟨a, ps, es, ex, hq, hp, hnd, q⟩ := q
  subst ex
  obtain ⟨u, eu, rx⟩ := vals1 r
  subst eu
  cases rx
  obtain ⟨its, rv, pl, hz⟩ := I.list hq
  have ei := refs_at rv
  subst ei
  rw [List.length_map] at hz
  obtain ⟨vs, hl, hl2, hpr⟩ := pairsT_of I hp
  obtain ⟨o, n, ho, hcl, hd, hdat⟩ := pl
  obtain ⟨qs, hqs⟩ : ∃ qs : List (List Key × Addr × Value), qs = (es.zip vs).map fun z => (kT z.1.1, z.1.2.1, z.2) := ⟨_, rfl⟩
  have lq : qs.length = es.length := by simp [hqs, hl]
  have atq : ∀ (j : Nat) (e : List Int × Addr × V), es[j]? = some e → ∃ v, vs[j]? = some v ∧ qs[j]? = some (kT e.1, e.2.1, v) ∧ RelV e.2.2 v := fun j e he => by
    obtain ⟨b, v, e1, e2, e3, e4⟩ := hpr j e he
    refine ⟨v, e2, ?_, e3⟩
    have hz : (es.zip vs)[j]? = some (e, v) := List.getElem?_zip_eq_some.mpr ⟨he, e2⟩
    rw [hqs, List.getElem?_map, hz]; rfl
  have keyq : qs.map (·.1) = (es.map (·.1)).map kT := by
    refine List.ext_getElem? fun j => ?_
    rw [List.getElem?_map, List.getElem?_map]
    rw [List.getElem?_map]
    cases he : es[j]? with
    | none =>
      have : qs[j]? = none := by rw [List.getElem?_eq_none_iff] at he ⊢; omega
      rw [this]; rfl
    | some e => obtain ⟨v, _, e2, _⟩ := atq j e he; rw [e2]; rfl
  have ndq : (qs.map (·.1)).Nodup := by
    rw [keyq]
    exact List.Pairwise.map _ (fun a b hne e => hne (kT_inj e)) hnd
  have keyIs : ∀ x ∈ qs, (tupleKind (mixKind X.prog X.w)).is s.heap x.1 x.2.1 := fun x hx => by
    obtain ⟨j, hj, e⟩ := List.getElem_of_mem hx
    have hj' : j < es.length := by omega
    obtain ⟨v, _, e2, _⟩ := atq j es[j] (List.getElem?_eq_getElem hj')
    rw [List.getElem?_eq_getElem hj] at e2
    have e3 := Option.some.inj e2
    rw [e] at e3
    subst e3
    obtain ⟨b, p', q1⟩ := Paired.elim_get hp j es[j] (List.getElem?_eq_getElem hj')
    exact key_of I.hok (by rw [kT_V]; exact q1.2)
  have hlt : (ps.map Value.ref).toArray.size = (es.zip vs).length := by simp [hl, hl2]
  refine PySem.call_dict_pairsH (knd := tupleKind (mixKind X.prog X.w)) (ps := qs) (PySem.PairArg.list a (ps.map Value.ref).toArray (fun j => ps.getD j 0) ((es.zip vs).map fun z => (Value.ref z.1.2.1, z.2))) (I.ok.hd hc) (show X.A.units + 1 + 1 < cLine by omega)
    ⟨⟨o, n, ho, hcl, hd, hdat⟩, by simp [hl, hl2], fun j k v hj => ?_⟩ ⟨by simp [hqs], fun i key v hr => ?_⟩ (fun h' hk x hx => ?_) (by rw [List.length_map, ← hlt]; simpa using hz) fun h' tk hd' hk => ?_
  · rw [List.getElem?_map] at hj
    obtain ⟨z, hz1, hz2⟩ := Option.map_eq_some_iff.mp hj
    obtain ⟨e, w'⟩ := z
    obtain ⟨he, hw⟩ := List.getElem?_zip_eq_some.mp hz1
    cases hz2
    obtain ⟨b, v', e1, e2, e3, e4⟩ := hpr j e he
    rw [hw] at e2; cases e2
    refine ⟨?_, ?_⟩
    · have : ps.getD j 0 = b := by rw [List.getD_eq_getElem?_getD, e1]; rfl
      show (List.map Value.ref ps).toArray[j]? = some (Value.ref (ps.getD j 0))
      rw [this]; simp [e1]
    · have : ps.getD j 0 = b := by rw [List.getD_eq_getElem?_getD, e1]; rfl
      show PySem.PairAt s.heap (ps.getD j 0) _ _
      rw [this]; exact .inl e4
  · have hr' : ((es.zip vs).map fun z => (Value.ref z.1.2.1, z.2))[i]? = some (key, v) := hr
    rw [List.getElem?_map] at hr'
    obtain ⟨z, hz1, hz2⟩ := Option.map_eq_some_iff.mp hr'
    cases hz2
    refine ⟨kT z.1.1, z.1.2.1, ?_, rfl⟩
    rw [hqs, List.getElem?_map, hz1]; rfl
  · have k0 := keyIs x hx
    have hlt' : ∀ b o, s.heap.get? b = some o → b ≠ s.heap.objs.size := fun b o e => Nat.ne_of_lt (Heap.lt_size e)
    obtain ⟨o', items, n', h1, h2, h3, h4⟩ := k0
    exact ⟨o', items, n', hk _ _ (hlt' _ _ h1) (by simp) h1, h2, h3, h4⟩
  · have hst : PySem.storedAllH [] qs = qs := by
      have z := storedAll_nodup qs [] (by simpa using ndq)
      simpa using z
    rw [hst] at hd'
    have hm : (s.heap.objs.size == sysModules) = false := beq_eq_false_iff_ne.mpr (Nat.ne_of_gt I.big)
    obtain ⟨o', es', ep, g1, g2, g3, g4, g5, g6⟩ := hd'
    have hf : H s.heap.objs.size = none := I.hok.fresh (Nat.le_refl _)
    have kt : ∀ (H' : Hp), (∀ e ∈ es, H' e.2.1 = some (.tup (e.1.map V.int))) → Paired (fun (p : List Key × V) (q : List Key × Addr × Value) => p.1 = q.1 ∧ H' q.2.1 = some (.tup (p.1.map kV)) ∧ RelV p.2 q.2.2) (es.map fun e => (kT e.1, e.2.2)) qs := fun H' hH => by
      refine Paired.of_get (by simp [lq]) fun j p q' hp' hq' => ?_
      rw [List.getElem?_map] at hp'
      obtain ⟨e, he, e2⟩ := Option.map_eq_some_iff.mp hp'
      cases e2
      obtain ⟨v, _, e3, e4⟩ := atq j e he
      rw [hq'] at e3; cases e3
      exact ⟨rfl, by rw [kT_V]; exact hH e (List.mem_of_getElem? he), e4⟩
    refine ⟨.ref s.heap.objs.size, _, I.laid (o := .dT (es.map fun e => (kT e.1, e.2.2))) (t' := tk) (fun b o' e => hk b o' (by simp) e) (Nat.le_refl _) ⟨by rw [List.length_map, ← hl2]; exact hz, hm, qs, kt _ (fun e he => ?_), o', es', ep, g1, g2, g3, g4, g6⟩, rfl, q _ hf⟩
    obtain ⟨j, hj, ee⟩ := List.getElem_of_mem he
    obtain ⟨b, p', q1⟩ := Paired.elim_get hp j e (by rw [← ee]; exact List.getElem?_eq_getElem hj)
    rw [upd_ne (ne_of_none q1.2 hf)]
    exact q1.2
end
end GL
end
/-! ## G5 -/
section
namespace PySem
open Sem (wp)
open AutoSeq1 (wpAny_loadPart')
theorem glMeetsEnumT (l : Addr) (items : Array Value) (n : Nat) (dct : Option Addr) (sl : Array (Option Value)) :
    Meets (Builtin.«enumerate.__new__» ⟨[.type "enumerate", .ref l], []⟩) (fun _ R s => s.heap.get? l = some { cls := .type "tuple", dict := dct, data := .seq items n, slots := sl } ∧
      R (.ok (.ret (.ref (s.heap.push { cls := .type "tuple_iterator", data := .fields #[.ref l, .int 0 0] }).objs.size)))
        { s with heap := (s.heap.push { cls := .type "tuple_iterator", data := .fields #[.ref l, .int 0 0] }).push { cls := .type "enumerate", data := .fields #[.none, .bool false, .ref s.heap.objs.size, rawInt 0, .none, .none] } }) :=
  .of_wp fun prog w A R s h => by
    obtain ⟨hp, g, d, tk, os⟩ := s; obtain ⟨hl, h⟩ := h
    have hsub := sub_enumerate
    have hL : Heap.IsTuple (Shared.heap ⟨hp, g, d, tk, os⟩) l items := ⟨_, hl, rfl, n, rfl⟩
    wp_walk using wpAny_loadPart' hl
    refine wpAny_stack_any fun st => wpAny_pure ?_
    split
    · rename_i c _ _ _ _ _
      cases (c == Value.type "enumerate")
      · wp_walk using wpAny_loadPart' hl, wpAny_pyIter_tuple hL
        exact ⟨_, rfl, h⟩
      · wp_walk using wpAny_loadPart' hl, wpAny_pyIter_tuple hL
        exact ⟨_, rfl, h⟩
    · wp_walk using wpAny_loadPart' hl, wpAny_pyIter_tuple hL
      exact ⟨_, rfl, h⟩
theorem glCallEnumT {prog : Program} {w : World} {A : Around} {E : Value → Shared → Prop} {s : Shared} {l : Addr} {items : Array Value} {Q : Value → Shared → Prop} (hL : s.heap.IsTuple l items)
    (h : ∀ h', IsEnum h' (s.heap.objs.size + 1) s.heap.objs.size 0 .none → h'.IsTupleIter s.heap.objs.size l 0 → h'.objs.size = s.heap.objs.size + 2 →
      (∀ b o, s.heap.get? b = some o → h'.get? b = some o) → Q (.ref (s.heap.objs.size + 1)) { s with heap := h' }) :
    wpAny (model prog w) A (call (.type "enumerate") [.ref l]) Q E s := by
  obtain ⟨⟨c, dct, dt, sl⟩, hl, hc, n, hd⟩ := hL
  replace hc : c = .type "tuple" := hc
  replace hd : dt = .seq items n := hd
  subst hc hd
  refine callType_new F.called_enumerate (by decide) (F.typeCall_enumerate_1 _) (F.newCall_enumerate_1 _) (fun obj => F.args_object_init_2 obj _) F.entry_enumerate_new
    (glMeetsEnumT l items n dct sl) ⟨hl, ?_⟩
  have hz : (s.heap.push { cls := .type "tuple_iterator", data := .fields #[.ref l, .int 0 0] }).objs.size = s.heap.objs.size + 1 := Heap.size_push ..
  show _ ∧ _
  rw [hz]
  have he : IsEnum ((s.heap.push { cls := .type "tuple_iterator", data := .fields #[.ref l, .int 0 0] }).push
      { cls := .type "enumerate", data := .fields #[.none, .bool false, .ref s.heap.objs.size, rawInt 0, .none, .none] }) (s.heap.objs.size + 1) s.heap.objs.size 0 .none := by
    have := Heap.get?_push_size (s.heap.push { cls := .type "tuple_iterator", data := .fields #[.ref l, .int 0 0] })
      (o := { cls := .type "enumerate", data := .fields #[.none, .bool false, .ref s.heap.objs.size, rawInt 0, .none, .none] }) rfl
    rw [hz] at this; exact this
  refine ⟨⟨_, he, rfl⟩, h _ he ⟨_, Heap.get?_push_of_some _ (Heap.get?_push_size _ rfl), rfl, rfl⟩ (by rw [Heap.size_push, hz]) fun b o x => Heap.get?_push_of_some _ (Heap.get?_push_of_some _ x)⟩
end PySem
namespace GL
open PySem PySem.Spec PyProof.Rows L2
/-! ### enumerate(tuple) -/
def IteT (K : PySem.W.Frag) (a : Addr) : It :=
  ⟨fun i H => ∃ xs x, SqT K H a xs ∧ xs[i]? = some x, fun i H v H' => ∃ T x, v = .ref T ∧ H T = none ∧ H' = upd H T (.tup [.int (i : Nat), x]) ∧ ∀ xs, SqT K H a xs → xs[i]? = some x, fun i H => ∃ xs, SqT K H a xs ∧ xs.length ≤ i⟩
theorem turn_enumT {P : Program} {w : World} {K : PySem.W.Frag} {elts : List Expr} {kk : Nat} {tpos : Pos} (a e it : Addr) (hai : a ≠ it) :
    Turn P w K (.Tuple elts kk tpos) (IteT K a) [e, it] e (fun i h => (∃ old, IsEnum h e it ((i : Nat) : Int) old) ∧ h.IsTupleIter it a i ∧ e ≠ it) where
  mem := by simp
  obj := fun i h st b hb => by
    obtain ⟨⟨old, he⟩, ⟨o, ho, hc, hd⟩, _⟩ := st
    have e' : b = e ∨ b = it := by simpa using hb
    rcases e' with z | z
    · rw [z]; exact ⟨_, he, fun v q => nomatch q⟩
    · rw [z]; exact ⟨o, ho, fun v q => by rw [hd] at q; cases q⟩
  keep := fun i h h' st k => let ⟨⟨old, he⟩, hi, hne⟩ := st; ⟨⟨old, k e (by simp) _ he⟩, hi.at fun o q => k it (by simp) o q, hne⟩
  item := by
    intro X hP hw hK hc i pins s σ H E I hf st hg
    subst hP hw hK
    obtain ⟨⟨old, he⟩, hit, hne⟩ := st
    obtain ⟨xs, x, hq, hx⟩ := hg
    obtain ⟨its, rv, p, hz⟩ := I.tuple hq
    obtain ⟨u, hu, ru⟩ := rv.get hx
    have hel : e < s.heap.objs.size := Heap.lt_size he
    have hil : it < s.heap.objs.size := by obtain ⟨_, q, _⟩ := hit; exact Heap.lt_size q
    have hea : e ≠ a := fun z => by
      obtain ⟨o, ho, hcl, _⟩ := p
      rw [← z, he] at ho
      cases ho
      exact absurd hcl (by intro q; injection q with q; exact absurd q (by decide))
    have hlen : i < its.toArray.size := by
      have := (List.getElem?_eq_some_iff.mp hu).1
      simpa using this
    refine wpAny_pyNext_enum_itemD (Draws.tuple (A := X.A.in1) (I.ok.hd hc) it a hai its.toArray) he ⟨hit, show s.heap.IsTuple a its.toArray from p⟩ hlen hne (by simp [hne, hea]) fun x' h' tk hx' ho st' hT hsz hk => ?_
    have ex : x' = u := by
      have z : its[i]? = some x' := by simpa using hx'
      rw [hu] at z
      exact (Option.some.inj z).symm
    subst ex
    refine ⟨_, rfl, wpAny_letOwnedTupleGo_enum (s := { s with heap := h', toks := tk + 1 }) ho fun h'' he' sb => ?_⟩
    have hT2 : h''.get? s.heap.objs.size = some { cls := .type "tuple", data := .seq #[.int i tk, x'] } := (sb.2 _ (Nat.ne_of_gt hel)).trans hT
    have new : ObjOk X.prog X.w (upd H s.heap.objs.size (.tup [.int (i : Nat), x])) h'' s.heap.objs.size (.tup [.int (i : Nat), x]) :=
      ⟨by show 2 ≤ sizeLine; decide, [.int i tk, x'], .cons ⟨_, rfl⟩ (.cons ru .nil), ⟨_, hT2, rfl, _, rfl⟩⟩
    have I1 : Inv X pins σ (upd H s.heap.objs.size (.tup [.int (i : Nat), x])) { s with heap := h'', toks := tk + 1 } :=
      I.turnedNew (ch := [e, it]) (fun b ob hb q => (sb.2 b (fun z => hb (by simp [z]))).trans (hk b ob (fun z => hb (by simp [z])) (fun z => hb (by simp [z])) q)) hf (Nat.le_refl _) new
    refine ⟨.ref s.heap.objs.size, _, I1, rfl, ⟨_, x, rfl, I.hok.fresh (Nat.le_refl _), rfl, fun ys hy => by rw [I.tuple_inj hy hq]; exact hx⟩, ⟨⟨x', ?_⟩, st'.1.at fun o q => (sb.2 it (Ne.symm hne)).trans q, hne⟩, fun b hb => ?_⟩
    · have e1 : ((i + 1 : Nat) : Int) = (i : Int) + 1 := by omega
      rw [e1]; exact he'
    · have hb' : b < s.heap.objs.size := by
        have e' : b = e ∨ b = it := by simpa using hb
        rcases e' with z | z
        · rw [z]; exact hel
        · rw [z]; exact hil
      rw [upd_ne (Nat.ne_of_lt hb')]
      exact (hf b hb).1
  done := by
    intro X hP hw hK hc i pins s σ H E I hf st hg
    subst hP hw hK
    obtain ⟨⟨old, he⟩, hit, hne⟩ := st
    obtain ⟨xs, hq, hx⟩ := hg
    obtain ⟨its, rv, p, hz⟩ := I.tuple hq
    obtain ⟨f0, f1, f2, f3, f4, f5⟩ := hf it (by simp)
    have hl := rv.length
    have D : Draws X.prog X.w X.A.in1 it [it, a] i (fun _ _ => True) (fun j h => j = i ∧ h.IsTupleIter it a i ∧ h.IsTuple a its.toArray) := {
      live := fun j h st => let ⟨_, ⟨o, ho, _⟩, _⟩ := st; ⟨o, ho⟩
      frame := fun j h h' st hk => ⟨st.1, st.2.1.at fun o e => hk it (show it ∈ [it, a] by simp) o e, st.2.2.at fun o e => hk a (show a ∈ [it, a] by simp) o e⟩
      item := fun j s Q E hj st => absurd hj (by rw [st.1]; exact Nat.lt_irrefl _)
      done := fun s Q E st hE => wpAny_nextOf_tuple_end (A := X.A.in1) (I.ok.hd hc) st.2.1 st.2.2 (by simp; omega) hE }
    exact wpAny_pyNext_enum_endD D he ⟨rfl, hit, show s.heap.IsTuple a its.toArray from p⟩ fun h' eb => ⟨rfl, I.turned (t' := s.toks) (fun b o hb q => eb b o hb q) f0 f1 f3 f4 f5⟩
  self := fun A i s Q E st h => let ⟨⟨_, he⟩, _⟩ := st; wpAny_pyIter_enum he h
def iEnumT (K : PySem.W.Frag) (ta : TA) : TI := fun σ H R => ta σ H fun vs H1 => ∃ a xs, vs = [.ref a] ∧ SqT K H1 a xs ∧ R (IteT K a) H1
theorem pi_enumT {X : Cx} {e : Expr} {ta : TA} {p pos tpos : Pos} {elts : List Expr} {kk : Nat} (hg : Gl X "enumerate") (hm : X.mg "enumerate" = none) (ha : PA X [e] ta) (hs : starEach [e] X.env = [(false, eval e X.env)] := by rfl) :
    PI X (.Tuple elts kk tpos) (.Call (.Name "enumerate" p) [e] [] pos) (iEnumT X.K ta) := by
  refine ⟨fun pins s σ H R I h => ?_⟩
  refine Call_ (ld_blt I hg hm boot_enumerate (PyProof.Rows.callWith_type1 (thn (ha.run pos pins s σ H _ I h) fun us s1 ⟨vs, H1, I1, r1, q1⟩ => ?_) hs rfl))
  obtain ⟨a, xs, ex, hq, q⟩ := q1
  subst ex
  cases r1 with
  | cons r rr =>
    cases rr
    cases r
    obtain ⟨its, rv, p', hz⟩ := I1.tuple hq
    have hlt : a < s1.heap.objs.size := by obtain ⟨_, e, _⟩ := id p'; exact Heap.lt_size e
    refine glCallEnumT (show s1.heap.IsTuple a its.toArray from p') fun h' he hit hsz hk => wpAny_pyIter_enum he ?_
    have I2 : Inv X pins σ H1 { s1 with heap := h' } := I1.kept (t' := s1.toks) hk
    refine ⟨s1.heap.objs.size + 1, [s1.heap.objs.size + 1, s1.heap.objs.size], _, _, H1, rfl, I2, turn_enumT a (s1.heap.objs.size + 1) s1.heap.objs.size (Nat.ne_of_lt hlt), ⟨⟨.none, he⟩, hit, Nat.succ_ne_self _⟩, fun b hb => ?_, q⟩
    have e' : b = s1.heap.objs.size + 1 ∨ b = s1.heap.objs.size := by simpa using hb
    have hle : s1.heap.objs.size ≤ b := by
      rcases e' with z | z
      · rw [z]; exact Nat.le_add_right _ _
      · rw [z]; exact Nat.le_refl _
    exact I1.fpOk hle (I1.hok.fresh hle)
theorem walk_enumT {K : PySem.W.Frag} {a : Addr} {xs : List V} : Walk (IteT K a) xs.length (fun H => SqT K H a xs) (YPair (fun i => some (.int (i : Nat))) (fun i => xs[i]?)) := by
  refine ⟨fun i _ hi q => ⟨xs, xs[i], q, by simp [hi]⟩, fun _ q => ⟨xs, q, Nat.le_refl _⟩, fun i H v H' _ q y => ?_⟩
  obtain ⟨T, x, h1, h2, h3, h4⟩ := y
  exact ⟨T, .int (i : Nat), x, h1, h2, h3, rfl, h4 xs q⟩
end GL
end
/-! ## G6 -/
section
namespace GL
open PySem PySem.Spec PyProof.Rows L2
section
variable {c : Cp} {Γ Γ' Γ1 Γ2 : Gm} {e a b t : Expr} {es : List Expr} {d x y z : D} {pos p p2 : Pos} {n : Str}
abbrev InH (B : Av) (H : Hp) : Prop := ∀ b, B b → ∃ o, H b = some o
theorem InH.off {B : Av} {H : Hp} (h : InH B H) {p : Addr} (hp : H p = none) : ¬ B p := fun q => by
  obtain ⟨o, e⟩ := h p q
  rw [hp] at e; cases e
/-! ### argument lists, displays -/
theorem ap_nil : AP c [] Γ [] := fun H0 B0 B σ H Q S k X cx => go_a pa_nil (k [] H (Ext.refl H) .nil)
theorem ap_cons {ds : List D} (h : EP c e Γ d) (hr : AP c es Γ ds) (hs : ∀ env : Env, starEach (e :: es) env = (false, eval e env) :: starEach es env := by intro _; rfl) : AP c (e :: es) Γ (d :: ds) := fun H0 B0 B σ H Q S k X cx =>
  go_a (pa_cons (pe_of X e) (pa_of X es) (hs X.env)) (h H0 B0 B σ H _ S (fun v H1 e1 r1 => hr H0 B0 B σ H1 _ (S.ext e1) (fun vs H2 e2 r2 => k _ H2 (e1.trans e2) (.cons (r1.ext e2) r2)) X cx) X cx)
def D.items : D → Option (List D)
  | .list ds => some ds
  | .tup _ ds => some ds
  | _ => Option.none
def Cp.gl (c : Cp) (n : Str) : Prop := c.sc.names.lookup n = some .globalImplicit
theorem ap_star {xs ds : List D} (h : EW c e Γ d) (hx : d.items = some xs) (hr : AP c es Γ ds) (hs : ∀ env : Env, starEach (.Starred e p :: es) env = (true, eval e env) :: starEach es env := by intro _; rfl) : AP c (.Starred e p :: es) Γ (xs ++ ds) := fun H0 B0 B σ H Q S k X cx =>
  go_a (StX.pa_star (pe_of X e) (pa_of X es) (hs X.env)) (h H0 B0 B σ H _ S (fun v H1 e1 r1 => by
    cases r1 with
    | non => cases hx
    | bl _ => cases hx
    | int _ => cases hx
    | str _ => cases hx
    | lst hl r => cases hx; exact ⟨_, _, rfl, .inr hl.sq, hr H0 B0 B σ H1 _ (S.ext e1) (fun vs H2 e2 r2 => k _ H2 (e1.trans e2) ((r.ext e2).append r2)) X cx⟩
    | tup hl r => cases hx; exact ⟨_, _, rfl, .inl hl.sq, hr H0 B0 B σ H1 _ (S.ext e1) (fun vs H2 e2 r2 => k _ H2 (e1.trans e2) ((r.ext e2).append r2)) X cx⟩) X cx)
theorem eo_lst {ds : List D} (h : AP c es Γ ds) (hz : ds.length ≤ sizeLine) : EO c (.List es pos) Γ (.lst ds) := fun H0 B0 B σ H Q S k X cx =>
  go_e (pe_lst (pa_of X es)) (h H0 B0 B σ H _ S (fun vs H1 e1 r1 => ⟨by rw [r1.length]; exact hz, fun p hp => k p _ (e1.back hp) (e1.trans (Ext.new hp)) ⟨vs, upd_same, r1.tr ⟨fun a o h _ => Ext.new hp a o h, fun a q => q.elim (fun e => .inr (e ▸ hp)) .inl⟩⟩⟩) X cx)
/-- a tuple as it is: a key of a dict -/
theorem ep_tup0 {x1} {ds : List D} (h : AP c es Γ ds) (hz : ds.length ≤ sizeLine) : EP c (.Tuple es x1 pos) Γ (.tup false ds) := fun H0 B0 B σ H Q S k X cx =>
  go_e (pe_tup (pa_of X es)) (h H0 B0 B σ H _ S (fun vs H1 e1 r1 => ⟨by rw [r1.length]; exact hz, fun p hp => k _ _ (e1.trans (Ext.new hp)) (.tup (k := false) (S.off (e1.back hp)) upd_same (r1.ext (Ext.new hp)))⟩) X cx)
theorem ep_tup {x1} {ds : List D} (h : AP c es Γ ds) (hz : ds.length ≤ sizeLine) : EP c (.Tuple es x1 pos) Γ (.tup true ds) := fun H0 B0 B σ H Q S k X cx =>
  go_e (pe_tupF (pa_of X es)) (h H0 B0 B σ H _ S (fun vs H1 e1 r1 => ⟨by rw [r1.length]; exact hz, fun p o hp ho => k _ _ (e1.trans (Ext.new hp)) (.tup (k := true) (S.off (e1.back hp)) ⟨o, upd_same, ho⟩ (r1.ext (Ext.new hp)))⟩) X cx)

/-! ### built-in functions -/
def RcD (r : List V → Hp → VK → Prop) (d z : D) : Prop := ∀ (B : Av) (H : Hp) (v : V) (Q : VK), InH B H → Rw B H v d → (∀ u H', Ext H H' → Rp B H' u z → Q u H') → r [v] H Q
def RcO (r : List V → Hp → VK → Prop) (d : D) (o : Ob) : Prop := ∀ (B : Av) (H : Hp) (v : V) (Q : VK), InH B H → Rw B H v d → (∀ p H', H p = none → Ext H H' → RpO (fun a => a = p ∨ B a) H' p o → Q (.ref p) H') → r [v] H Q
def RcD2 (r : List V → Hp → VK → Prop) (d d' z : D) : Prop := ∀ (B : Av) (H : Hp) (v w : V) (Q : VK), InH B H → Rw B H v d → Rw B H w d' → (∀ u H', Ext H H' → Rp B H' u z → Q u H') → r [v, w] H Q
theorem ep_callB {id : String} (r : PySem.W.Frag → List V → Hp → VK → Prop) (hc : ∀ X, c.Is X → CallR X (.builtin id) (r X.K)) (hg : c.gl n) (hm : c.mg n = none) (hv : bootBuiltins n = some (.builtin id)) (ha : EW c a Γ d) (hr : RcD (r c.K) d z)
    (hn : n ≠ "__name__" := by decide) (hdb : (n == ("__debug__" : Str)) = false := by decide) (he : ∀ env : Env, starEach [a] env = (false, eval a env) :: starEach [] env := by intro _; rfl) : EP c (.Call (.Name n p) [a] [] pos) Γ z := fun H0 B0 B σ H Q S k X cx =>
  go_e (pe_callB (cx.K ▸ hc X cx) (cx.gl hg) (by rw [cx.mg]; exact hm) hv (pa_cons (pe_of X a) pa_nil (he X.env)) hn hdb (he X.env) rfl) (ha H0 B0 B σ H _ S (fun v H1 e1 r1 => hr B H1 v Q (S.ext e1).inH r1 fun u H2 e2 q => k u H2 (e1.trans e2) q) X cx)
theorem ep_callT {id : String} (r : PySem.W.Frag → List V → Hp → VK → Prop) (hc : ∀ X, c.Is X → CallR X (.type id) (r X.K)) (hg : c.gl n) (hm : c.mg n = none) (hv : bootBuiltins n = some (.type id)) (ha : EW c a Γ d) (hr : RcD (r c.K) d z)
    (hn : n ≠ "__name__" := by decide) (hdb : (n == ("__debug__" : Str)) = false := by decide) (he : ∀ env : Env, starEach [a] env = (false, eval a env) :: starEach [] env := by intro _; rfl) : EP c (.Call (.Name n p) [a] [] pos) Γ z := fun H0 B0 B σ H Q S k X cx =>
  go_e (pe_callTy (cx.K ▸ hc X cx) (cx.gl hg) (by rw [cx.mg]; exact hm) hv (pa_cons (pe_of X a) pa_nil (he X.env)) hn hdb (he X.env) rfl) (ha H0 B0 B σ H _ S (fun v H1 e1 r1 => hr B H1 v Q (S.ext e1).inH r1 fun u H2 e2 q => k u H2 (e1.trans e2) q) X cx)
theorem eo_callB {id : String} (r : PySem.W.Frag → List V → Hp → VK → Prop) {o : Ob} (hc : ∀ X, c.Is X → CallR X (.builtin id) (r X.K)) (hg : c.gl n) (hm : c.mg n = none) (hv : bootBuiltins n = some (.builtin id)) (ha : EW c a Γ d) (hr : RcO (r c.K) d o)
    (hn : n ≠ "__name__" := by decide) (hdb : (n == ("__debug__" : Str)) = false := by decide) (he : ∀ env : Env, starEach [a] env = (false, eval a env) :: starEach [] env := by intro _; rfl) : EO c (.Call (.Name n p) [a] [] pos) Γ o := fun H0 B0 B σ H Q S k X cx =>
  go_e (pe_callB (cx.K ▸ hc X cx) (cx.gl hg) (by rw [cx.mg]; exact hm) hv (pa_cons (pe_of X a) pa_nil (he X.env)) hn hdb (he X.env) rfl) (ha H0 B0 B σ H _ S (fun v H1 e1 r1 => hr B H1 v Q (S.ext e1).inH r1 fun u H2 hp e2 q => k u H2 (e1.back hp) (e1.trans e2) q) X cx)
theorem eo_callT {id : String} (r : PySem.W.Frag → List V → Hp → VK → Prop) {o : Ob} (hc : ∀ X, c.Is X → CallR X (.type id) (r X.K)) (hg : c.gl n) (hm : c.mg n = none) (hv : bootBuiltins n = some (.type id)) (ha : EW c a Γ d) (hr : RcO (r c.K) d o)
    (hn : n ≠ "__name__" := by decide) (hdb : (n == ("__debug__" : Str)) = false := by decide) (he : ∀ env : Env, starEach [a] env = (false, eval a env) :: starEach [] env := by intro _; rfl) : EO c (.Call (.Name n p) [a] [] pos) Γ o := fun H0 B0 B σ H Q S k X cx =>
  go_e (pe_callTy (cx.K ▸ hc X cx) (cx.gl hg) (by rw [cx.mg]; exact hm) hv (pa_cons (pe_of X a) pa_nil (he X.env)) hn hdb (he X.env) rfl) (ha H0 B0 B σ H _ S (fun v H1 e1 r1 => hr B H1 v Q (S.ext e1).inH r1 fun u H2 hp e2 q => k u H2 (e1.back hp) (e1.trans e2) q) X cx)
theorem ep_callB2 {id : String} (r : PySem.W.Frag → List V → Hp → VK → Prop) (hc : ∀ X, c.Is X → CallR X (.builtin id) (r X.K)) (hg : c.gl n) (hm : c.mg n = none) (hv : bootBuiltins n = some (.builtin id)) (ha : EW c a Γ d) (hb : EW c b Γ x) (hr : RcD2 (r c.K) d x z)
    (hn : n ≠ "__name__" := by decide) (hdb : (n == ("__debug__" : Str)) = false := by decide) (he : ∀ env : Env, starEach [a, b] env = (false, eval a env) :: starEach [b] env := by intro _; rfl) (he2 : ∀ env : Env, starEach [b] env = (false, eval b env) :: starEach [] env := by intro _; rfl) (hpl : ∀ env : Env, (backTo pos (starEach [b] env)).any (·.1) = false := by intro _; rfl) :
    EP c (.Call (.Name n p) [a, b] [] pos) Γ z := fun H0 B0 B σ H Q S k X cx =>
  go_e (pe_callB (cx.K ▸ hc X cx) (cx.gl hg) (by rw [cx.mg]; exact hm) hv (pa_cons (pe_of X a) (pa_cons (pe_of X b) pa_nil (he2 X.env)) (he X.env)) hn hdb (he X.env) (hpl X.env))
    (ha H0 B0 B σ H _ S (fun v H1 e1 r1 => hb H0 B0 B σ H1 _ (S.ext e1) (fun w H2 e2 r2 => hr B H2 v w Q (S.ext (e1.trans e2)).inH (r1.ext e2) r2 fun u H3 e3 q => k u H3 ((e1.trans e2).trans e3) q) X cx) X cx)
/-- len -/
theorem rcd_len {K : PySem.W.Frag} {ds : List D} (h : d.items = some ds) : RcD (fun xs H Q => ∃ x n, xs = [x] ∧ LenV K x H n ∧ Q (.int n) H) d (.int (ds.length : Nat)) := fun B H v Q _ r k => by
  cases r with
  | non => cases h
  | bl _ => cases h
  | int _ => cases h
  | str _ => cases h
  | lst hl r => cases h; exact ⟨_, ds.length, rfl, .inl ⟨_, hl.sq, r.length.symm⟩, k _ H (Ext.refl H) (.int _)⟩
  | tup hl r => cases h; exact ⟨_, ds.length, rfl, .inr ⟨_, hl.sq, r.length.symm⟩, k _ H (Ext.refl H) (.int _)⟩
theorem ep_len {ds : List D} (hg : c.gl "len") (hm : c.mg "len" = none) (ha : EW c a Γ d) (h : d.items = some ds) (he : ∀ env : Env, starEach [a] env = (false, eval a env) :: starEach [] env := by intro _; rfl) : EP c (.Call (.Name "len" p) [a] [] pos) Γ (.int (ds.length : Nat)) :=
  ep_callB (fun K xs H Q => ∃ x n, xs = [x] ∧ LenV K x H n ∧ Q (.int n) H) (fun X _ => call_len) hg hm PySem.boot_len ha (rcd_len h) (by decide) (by decide) he
/-- list(x), tuple(list) -/
theorem RpA.new {B : Av} {H : Hp} {p : Addr} {o : HO} {vs : List V} {ds : List D} (r : RpA B H vs ds) (hp : H p = none) : RpA (fun a => a = p ∨ B a) (upd H p o) vs ds := r.tr ⟨fun a o h _ => Ext.new hp a o h, fun a q => q.elim (fun e => .inr (e ▸ hp)) .inl⟩
theorem rco_list {K : PySem.W.Frag} {ds : List D} (h : d.items = some ds) : RcO (fun xs H Q => ∃ p ys, xs = [.ref p] ∧ (SqL K H p ys ∨ SqT K H p ys) ∧ ∀ l, H l = none → Q (.ref l) (upd H l (.lst ys))) d (.lst ds) := fun B H v Q _ r k => by
  cases r with
  | non => cases h
  | bl _ => cases h
  | int _ => cases h
  | str _ => cases h
  | lst hl r => cases h; exact ⟨_, _, rfl, .inl hl.sq, fun l hl' => k l _ hl' (Ext.new hl') ⟨_, upd_same, r.new hl'⟩⟩
  | tup hl r => cases h; exact ⟨_, _, rfl, .inr hl.sq, fun l hl' => k l _ hl' (Ext.new hl') ⟨_, upd_same, r.new hl'⟩⟩
theorem eo_list {ds : List D} (hg : c.gl "list") (hm : c.mg "list" = none) (ha : EW c a Γ d) (h : d.items = some ds) (he : ∀ env : Env, starEach [a] env = (false, eval a env) :: starEach [] env := by intro _; rfl) : EO c (.Call (.Name "list" p) [a] [] pos) Γ (.lst ds) :=
  eo_callT (fun K xs H Q => ∃ p ys, xs = [.ref p] ∧ (SqL K H p ys ∨ SqT K H p ys) ∧ ∀ l, H l = none → Q (.ref l) (upd H l (.lst ys))) (fun X _ => call_list_of) hg hm (by decide +kernel) ha (rco_list h) (by decide) (by decide) he
theorem rcd_tuple {K : PySem.W.Frag} {ds : List D} : RcD (fun xs H Q => ∃ p ys, xs = [.ref p] ∧ SqL K H p ys ∧ ∀ l (o : Obj), H l = none → o.dict = none → Q (.ref l) (upd H l (.frz o (.tup ys)))) (.list ds) (.tup true ds) := fun B H v Q hB r k => by
  cases r with
  | lst hl r => exact ⟨_, _, rfl, hl.sq, fun l o hl' ho => k _ _ (Ext.new hl') (.tup (hB.off hl') ⟨o, upd_same, ho⟩ (r.ext (Ext.new hl')))⟩
theorem ep_tupleOf {ds : List D} (hg : c.gl "tuple") (hm : c.mg "tuple" = none) (ha : EW c a Γ (.list ds)) (he : ∀ env : Env, starEach [a] env = (false, eval a env) :: starEach [] env := by intro _; rfl) : EP c (.Call (.Name "tuple" p) [a] [] pos) Γ (.tup true ds) :=
  ep_callT (fun K xs H Q => ∃ p ys, xs = [.ref p] ∧ SqL K H p ys ∧ ∀ l (o : Obj), H l = none → o.dict = none → Q (.ref l) (upd H l (.frz o (.tup ys)))) (fun X _ => call_tupleF) hg hm (by decide +kernel) ha rcd_tuple (by decide) (by decide) he
/-- int(n), int(flag), abs -/
theorem ep_intI {i : Int} (hg : c.gl "int") (hm : c.mg "int" = none) (ha : EW c a Γ (.int i)) (he : ∀ env : Env, starEach [a] env = (false, eval a env) :: starEach [] env := by intro _; rfl) : EP c (.Call (.Name "int" p) [a] [] pos) Γ (.int i) :=
  ep_callT (fun _ xs H Q => (∃ i, xs = [.int i] ∧ Q (.int i) H) ∨ ∃ k, xs = [.bl k] ∧ Q (.int (if k then 1 else 0)) H) (fun X _ => call_int1) hg hm (by decide +kernel) ha (fun B H v Q _ r k => by cases r; exact .inl ⟨i, rfl, k _ H (Ext.refl H) (.int i)⟩) (by decide) (by decide) he
theorem ep_intB {i : Bool} (hg : c.gl "int") (hm : c.mg "int" = none) (ha : EW c a Γ (.bool i)) (he : ∀ env : Env, starEach [a] env = (false, eval a env) :: starEach [] env := by intro _; rfl) : EP c (.Call (.Name "int" p) [a] [] pos) Γ (.int (if i then 1 else 0)) :=
  ep_callT (fun _ xs H Q => (∃ i, xs = [.int i] ∧ Q (.int i) H) ∨ ∃ k, xs = [.bl k] ∧ Q (.int (if k then 1 else 0)) H) (fun X _ => call_int1) hg hm (by decide +kernel) ha (fun B H v Q _ r k => by cases r; exact .inr ⟨i, rfl, k _ H (Ext.refl H) (.int _)⟩) (by decide) (by decide) he
theorem ep_abs {i : Int} (hg : c.gl "abs") (hm : c.mg "abs" = none) (ha : EW c a Γ (.int i)) (he : ∀ env : Env, starEach [a] env = (false, eval a env) :: starEach [] env := by intro _; rfl) : EP c (.Call (.Name "abs" p) [a] [] pos) Γ (.int (if i < 0 then -i else i)) :=
  ep_callB (fun _ xs H Q => ∃ i, xs = [.int i] ∧ Q (.int (if i < 0 then -i else i)) H) (fun X _ => call_abs) hg hm (by decide +kernel) ha (fun B H v Q _ r k => by cases r; exact ⟨i, rfl, k _ H (Ext.refl H) (.int _)⟩) (by decide) (by decide) he
theorem ep_max2 {i j : Int} (hg : c.gl "max") (hm : c.mg "max" = none) (ha : EW c a Γ (.int i)) (hb : EW c b Γ (.int j)) (he : ∀ env : Env, starEach [a, b] env = (false, eval a env) :: starEach [b] env := by intro _; rfl) (he2 : ∀ env : Env, starEach [b] env = (false, eval b env) :: starEach [] env := by intro _; rfl) (hpl : ∀ env : Env, (backTo pos (starEach [b] env)).any (·.1) = false := by intro _; rfl) :
    EP c (.Call (.Name "max" p) [a, b] [] pos) Γ (.int (if j > i then j else i)) :=
  ep_callB2 (fun _ xs H Q => ∃ i j, xs = [.int i, .int j] ∧ Q (.int (if j > i then j else i)) H) (fun X cx => call_max2 cx.calm) hg hm (by decide +kernel) ha hb (fun B H v w Q _ r r2 k => by cases r; cases r2; exact ⟨i, j, rfl, k _ H (Ext.refl H) (.int _)⟩) (by decide) (by decide) he he2 hpl
theorem ep_min2 {i j : Int} (hg : c.gl "min") (hm : c.mg "min" = none) (ha : EW c a Γ (.int i)) (hb : EW c b Γ (.int j)) (he : ∀ env : Env, starEach [a, b] env = (false, eval a env) :: starEach [b] env := by intro _; rfl) (he2 : ∀ env : Env, starEach [b] env = (false, eval b env) :: starEach [] env := by intro _; rfl) (hpl : ∀ env : Env, (backTo pos (starEach [b] env)).any (·.1) = false := by intro _; rfl) :
    EP c (.Call (.Name "min" p) [a, b] [] pos) Γ (.int (if j < i then j else i)) :=
  ep_callB2 (fun _ xs H Q => ∃ i j, xs = [.int i, .int j] ∧ Q (.int (if j < i then j else i)) H) (fun X cx => call_min2 cx.calm) hg hm (by decide +kernel) ha hb (fun B H v w Q _ r r2 k => by cases r; cases r2; exact ⟨i, j, rfl, k _ H (Ext.refl H) (.int _)⟩) (by decide) (by decide) he he2 hpl
/-- the least of a list, the greatest of a tuple: m is it -/
theorem ep_minL {ns : List Int} {m : Int} (hg : c.gl "min") (hm : c.mg "min" = none) (ha : EW c a Γ (.list (ns.map .int))) (h1 : m ∈ ns) (h2 : ∀ k ∈ ns, m ≤ k) (he : ∀ env : Env, starEach [a] env = (false, eval a env) :: starEach [] env := by intro _; rfl) : EP c (.Call (.Name "min" p) [a] [] pos) Γ (.int m) :=
  ep_callB rMin (fun X cx => cr_min cx.calm) hg hm (by decide +kernel) ha (fun B H v Q _ r k => by
    cases r with
    | lst hl r =>
      rw [r.map_int] at hl
      exact ⟨_, ns, rfl, hl.sq, List.length_pos_of_mem h1, fun m' q1 q2 => by
        have e : m' = m := Int.le_antisymm (q2 m h1) (h2 m' q1)
        rw [e]; exact k _ H (Ext.refl H) (.int m)⟩) (by decide) (by decide) he
theorem ep_maxT {ns : List Int} {m : Int} {kk : Bool} (hg : c.gl "max") (hm : c.mg "max" = none) (ha : EW c a Γ (.tup kk (ns.map .int))) (h1 : m ∈ ns) (h2 : ∀ k ∈ ns, k ≤ m) (he : ∀ env : Env, starEach [a] env = (false, eval a env) :: starEach [] env := by intro _; rfl) : EP c (.Call (.Name "max" p) [a] [] pos) Γ (.int m) :=
  ep_callB (fun K vs H Q => ∃ (a : Addr) (ns : List Int), vs = [V.ref a] ∧ SqT K H a (ns.map V.int) ∧ 0 < ns.length ∧ ∀ M, M ∈ ns → (∀ a, a ∈ ns → a ≤ M) → Q (.int M) H) (fun X cx => cr_maxT cx.calm) hg hm (by decide +kernel) ha (fun B H v Q _ r k => by
    cases r with
    | tup hl r =>
      rw [r.map_int] at hl
      exact ⟨_, ns, rfl, hl.sq, List.length_pos_of_mem h1, fun m' q1 q2 => by
        have e : m' = m := Int.le_antisymm (h2 m' q1) (q2 m h1)
        rw [e]; exact k _ H (Ext.refl H) (.int m)⟩) (by decide) (by decide) he
/-- all, any of a list of truth values -/
theorem ep_all {bs : List Bool} (hg : c.gl "all") (hm : c.mg "all" = none) (ha : EW c a Γ (.list (bs.map .bool))) (he : ∀ env : Env, starEach [a] env = (false, eval a env) :: starEach [] env := by intro _; rfl) : EP c (.Call (.Name "all" p) [a] [] pos) Γ (.bool (bs.all id)) :=
  ep_callB rAll (fun X cx => cr_all cx.calm) hg hm (by decide +kernel) ha (fun B H v Q _ r k => by
    cases r with
    | lst hl r => rw [r.map_bool] at hl; exact ⟨_, bs, rfl, hl.sq, k _ H (Ext.refl H) (.bl _)⟩) (by decide) (by decide) he
theorem ep_any {bs : List Bool} (hg : c.gl "any") (hm : c.mg "any" = none) (ha : EW c a Γ (.list (bs.map .bool))) (he : ∀ env : Env, starEach [a] env = (false, eval a env) :: starEach [] env := by intro _; rfl) : EP c (.Call (.Name "any" p) [a] [] pos) Γ (.bool (bs.any id)) :=
  ep_callB rAny (fun X cx => cr_any cx.calm) hg hm (by decide +kernel) ha (fun B H v Q _ r k => by
    cases r with
    | lst hl r => rw [r.map_bool] at hl; exact ⟨_, bs, rfl, hl.sq, k _ H (Ext.refl H) (.bl _)⟩) (by decide) (by decide) he
/-- sorted of a list of ints: ms is that -/
theorem eo_sortedI {ns ms : List Int} (hg : c.gl "sorted") (hm : c.mg "sorted" = none) (ha : EW c a Γ (.list (ns.map .int))) (h1 : ms.Perm ns) (h2 : ms.Pairwise (· ≤ ·)) (he : ∀ env : Env, starEach [a] env = (false, eval a env) :: starEach [] env := by intro _; rfl) : EO c (.Call (.Name "sorted" p) [a] [] pos) Γ (.lst (ms.map .int)) :=
  eo_callB rSortedI (fun X cx => cr_sortedI) hg hm (by decide +kernel) ha (fun B H v Q _ r k => by
    cases r with
    | lst hl r =>
      rw [r.map_int] at hl
      refine ⟨_, ns, rfl, hl.sq, fun ns' p q1 q2 hp => ?_⟩
      have e : ns' = ms := PySem.W.ksm_same (q1.trans h1.symm) q2 h2
      rw [e]; exact k p _ hp (Ext.new hp) ⟨_, upd_same, RpA.of_int ms⟩) (by decide) (by decide) he
/-! ### subscripts -/
theorem rvd_ix {K : PySem.W.Frag} {ds : List D} {i : Int} {j : Nat} (hi : i = (j : Int)) (hd : ds[j]? = some d) : RvD (rIxL K) (.list ds) (.int i) d := fun B H v w Q _ r1 r2 k => by
  cases r2
  cases r1 with
  | lst hl r =>
    obtain ⟨u, e, q⟩ := r.get hd
    exact ⟨_, _, _, u, rfl, rfl, hl.sq, by rw [hi]; exact atI_nat e, k u H (Ext.refl H) q⟩
theorem rvd_ixT {K : PySem.W.Frag} {ds : List D} {kk : Bool} {i : Int} {j : Nat} (hi : i = (j : Int)) (hd : ds[j]? = some d) : RvD (rIxT K) (.tup kk ds) (.int i) d := fun B H v w Q _ r1 r2 k => by
  cases r2
  cases r1 with
  | tup hl r =>
    obtain ⟨u, e, q⟩ := r.get hd
    exact ⟨_, _, _, u, rfl, rfl, hl.sq, by rw [hi]; exact atI_nat e, k u H (Ext.refl H) q⟩
theorem ep_ixL {ds : List D} {i : Int} {j : Nat} (ha : EW c a Γ (.list ds)) (hb : EW c b Γ (.int i)) (hi : i = (j : Int)) (hd : ds[j]? = some d) (hs : PlainIx b := by exact fun _ _ => rfl) : EP c (.Subscript a b pos) Γ d := fun H0 B0 B σ H Q S k X cx =>
  go_e (pe_ix ix_list (pe_of X a) (pe_of X b) hs) (ha H0 B0 B σ H _ S (fun v H1 e1 r1 => hb H0 B0 B σ H1 _ (S.ext e1) (fun w H2 e2 r2 => rvd_ix hi hd B H2 v w Q (S.ext (e1.trans e2)).inH (r1.ext e2) r2 fun u H3 e3 q => k u H3 ((e1.trans e2).trans e3) q) X cx) X cx)
theorem ep_ixT {ds : List D} {kk : Bool} {i : Int} {j : Nat} (ha : EW c a Γ (.tup kk ds)) (hb : EW c b Γ (.int i)) (hi : i = (j : Int)) (hd : ds[j]? = some d) (hs : PlainIx b := by exact fun _ _ => rfl) : EP c (.Subscript a b pos) Γ d := fun H0 B0 B σ H Q S k X cx =>
  go_e (pe_ix ix_tup (pe_of X a) (pe_of X b) hs) (ha H0 B0 B σ H _ S (fun v H1 e1 r1 => hb H0 B0 B σ H1 _ (S.ext e1) (fun w H2 e2 r2 => rvd_ixT hi hd B H2 v w Q (S.ext (e1.trans e2)).inH (r1.ext e2) r2 fun u H3 e3 q => k u H3 ((e1.trans e2).trans e3) q) X cx) X cx)
/-! ### slices of lists -/
def cutD (xs : List D) (lo hi : Option Int) : List D := (xs.drop (HT.sIx xs.length 0 lo)).take (HT.sIx xs.length xs.length hi - HT.sIx xs.length 0 lo)
theorem RpA.cut {B : Av} {H : Hp} {vs : List V} {ds : List D} (r : RpA B H vs ds) (lo hi : Option Int) : RpA B H (cutV vs lo hi) (cutD ds lo hi) := by
  unfold cutV cutD
  rw [r.length]
  exact (r.drop _).take _
theorem eo_sliceLo {ds : List D} {i : Int} (ha : EW c a Γ (.list ds)) (hb : EW c b Γ (.int i)) : EO c (.Subscript a (.Slice (some b) none none p2) pos) Γ (.lst (cutD ds (some i) none)) := fun H0 B0 B σ H Q S k X cx =>
  go_e (pe_slice sl_list (pe_of X a) (po_some (pe_of X b)) po_none) (ha H0 B0 B σ H _ S (fun v H1 e1 r1 => hb H0 B0 B σ H1 _ (S.ext e1) (fun w H2 e2 r2 => by
    cases r2
    cases r1 with
    | lst hl r => exact ⟨i, rfl, _, _, rfl, (e2 _ _ hl |> LstAt.sq), fun p hp => k p _ (e1.back (e2.back hp)) ((e1.trans e2).trans (Ext.new hp)) ⟨_, upd_same, ((r.ext e2).cut _ _).new hp⟩⟩) X cx) X cx)
theorem eo_sliceHi {ds : List D} {i : Int} (ha : EW c a Γ (.list ds)) (hb : EW c b Γ (.int i)) : EO c (.Subscript a (.Slice none (some b) none p2) pos) Γ (.lst (cutD ds none (some i))) := fun H0 B0 B σ H Q S k X cx =>
  go_e (pe_slice sl_list (pe_of X a) po_none (po_some (pe_of X b))) (ha H0 B0 B σ H _ S (fun v H1 e1 r1 => hb H0 B0 B σ H1 _ (S.ext e1) (fun w H2 e2 r2 => by
    cases r2
    cases r1 with
    | lst hl r => exact ⟨i, rfl, _, _, rfl, (e2 _ _ hl |> LstAt.sq), fun p hp => k p _ (e1.back (e2.back hp)) ((e1.trans e2).trans (Ext.new hp)) ⟨_, upd_same, ((r.ext e2).cut _ _).new hp⟩⟩) X cx) X cx)
/-! ### tuples put together -/
theorem rvd_catF {K : PySem.W.Frag} {xs ys : List D} {k1 k2 : Bool} (hx : xs ≠ []) (hy : ys ≠ []) (hz : xs.length + ys.length ≤ sizeLine) : RvD (rCatF K) (.tup k1 xs) (.tup k2 ys) (.tup true (xs ++ ys)) := fun B H v w Q hB r1 r2 k => by
  cases r1 with
  | tup h r =>
    cases r2 with
    | tup h2 r2 =>
      refine ⟨_, _, _, _, rfl, rfl, h.sq, h2.sq, fun z => hx (List.eq_nil_of_length_eq_zero (by rw [← r.length, z]; rfl)), fun z => hy (List.eq_nil_of_length_eq_zero (by rw [← r2.length, z]; rfl)), by rw [r.length, r2.length]; exact hz, fun p o hp ho => ?_⟩
      exact k _ _ (Ext.new hp) (.tup (InH.off hB hp) ⟨o, upd_same, ho⟩ ((r.append r2).ext (Ext.new hp)))
end
end GL
end
/-! ## G7 -/
section
namespace GL
open PySem PySem.Spec PyProof.Rows L2
section
variable {c : Cp} {Γ Γ' Γ1 Γ2 : Gm} {e a b t : Expr} {es : List Expr} {d x y z : D} {pos p p2 : Pos} {n : Str}
/-! ### the state behind a store -/
theorem Sto.set_val {H0 : Hp} {B0 B : Av} {σ : St} {H : Hp} (S : Sto H0 B0 B σ H Γ) {v : V} (r : Rp B H v d) (i : Nat) : Sto H0 B0 B (σ.set i (some v)) H (Γ.set i (.val d)) where
  ex := S.ex
  sub := S.sub
  old := S.old
  inH := S.inH
  len := by rw [List.length_set, List.length_set]; exact S.len
  val := fun j d' h => by
    by_cases e : i = j
    · subst e
      rw [List.getElem?_set_self' ] at h
      have hl : i < σ.length := by
        cases q : Γ[i]? with
        | none => rw [q] at h; cases h
        | some _ => rw [S.len]; exact (List.getElem?_eq_some_iff.mp q).1
      cases q : Γ[i]? with
      | none => rw [q] at h; cases h
      | some _ => rw [q] at h; cases h; exact ⟨v, List.getElem?_set_self hl, r⟩
    · rw [List.getElem?_set_ne e] at h
      obtain ⟨w, h1, h2⟩ := S.val j d' h
      exact ⟨w, by rw [List.getElem?_set_ne e]; exact h1, h2⟩
  own := fun j o h => by
    by_cases e : i = j
    · subst e
      rw [List.getElem?_set_self'] at h
      cases q : Γ[i]? with
      | none => rw [q] at h; cases h
      | some _ => rw [q] at h; cases h
    · rw [List.getElem?_set_ne e] at h
      obtain ⟨w, h1, h2⟩ := S.own j o h
      exact ⟨w, by rw [List.getElem?_set_ne e]; exact h1, h2⟩
  sep := fun j k o u h1 h2 h3 => by
    have ne : ∀ {j : Nat} {o : Ob}, (Γ.set i (.val d))[j]? = some (.own o) → i ≠ j ∧ Γ[j]? = some (.own o) := fun {j o} h => by
      by_cases e : i = j
      · subst e
        rw [List.getElem?_set_self'] at h
        cases q : Γ[i]? with
        | none => rw [q] at h; cases h
        | some _ => rw [q] at h; cases h
      · rw [List.getElem?_set_ne e] at h; exact ⟨e, h⟩
    obtain ⟨n1, q1⟩ := ne h1
    obtain ⟨n2, q2⟩ := ne h2
    rw [List.getElem?_set_ne n1, List.getElem?_set_ne n2] at h3
    exact S.sep j k o u q1 q2 h3
/-- forgetting -/
inductive SlLe : Sl → Sl → Prop
  | refl (s : Sl) : SlLe s s
  | any (s : Sl) : SlLe s .any
def wipeG (Γ : Gm) : List Nat → Gm
  | [] => Γ
  | v :: vs => (wipeG Γ vs).set v .any
theorem wipeG_some {s : Sl} (hs : s ≠ .any) {i : Nat} : ∀ {vs : List Nat}, (wipeG Γ vs)[i]? = some s → Γ[i]? = some s ∧ i ∉ vs
  | [], h => ⟨h, by simp⟩
  | v :: vs, h => by
    unfold wipeG at h
    by_cases e : v = i
    · subst e
      rw [List.getElem?_set_self'] at h
      cases q : (wipeG Γ vs)[v]? with
      | none => rw [q] at h; cases h
      | some _ => rw [q] at h; cases h; exact absurd rfl hs
    · rw [List.getElem?_set_ne e] at h
      obtain ⟨h1, h2⟩ := wipeG_some hs h
      exact ⟨h1, by simp only [List.mem_cons, not_or]; exact ⟨fun q => e q.symm, h2⟩⟩
theorem wipeG_length : ∀ vs : List Nat, (wipeG Γ vs).length = Γ.length
  | [] => rfl
  | v :: vs => by unfold wipeG; rw [List.length_set, wipeG_length vs]
theorem Sto.wipe {H0 : Hp} {B0 B : Av} {σ : St} {H : Hp} (S : Sto H0 B0 B σ H Γ) (vs : List Nat) : Sto H0 B0 B (L2.wipe σ vs) H (wipeG Γ vs) where
  ex := S.ex
  sub := S.sub
  old := S.old
  inH := S.inH
  len := by rw [wipe_length, wipeG_length]; exact S.len
  val := fun j d' h => by
    obtain ⟨h1, h2⟩ := wipeG_some (by simp) h
    obtain ⟨w, h3, h4⟩ := S.val j d' h1
    exact ⟨w, by rw [wipe_out h2]; exact h3, h4⟩
  own := fun j o h => by
    obtain ⟨h1, h2⟩ := wipeG_some (by simp) h
    obtain ⟨w, h3, h4⟩ := S.own j o h1
    exact ⟨w, by rw [wipe_out h2]; exact h3, h4⟩
  sep := fun j k o u h1 h2 h3 => by
    obtain ⟨q1, q2⟩ := wipeG_some (by simp) h1
    obtain ⟨q3, q4⟩ := wipeG_some (by simp) h2
    rw [wipe_out q2, wipe_out q4] at h3
    exact S.sep j k o u q1 q3 h3
/-- one more address to be kept off -/
theorem Sto.grow {H0 : Hp} {B0 B : Av} {σ : St} {H H' : Hp} (S : Sto H0 B0 B σ H Γ) (e : Ext H H') {p : Addr} (hp : H p = none) (h' : ∃ o, H' p = some o) : Sto H0 B0 (fun a => a = p ∨ B a) σ H' Γ where
  ex := fun a o h => e _ _ (S.ex a o h)
  sub := fun b h => .inr (S.sub b h)
  old := S.old
  inH := fun b h => h.elim (fun q => q ▸ h') fun q => let ⟨o, z⟩ := S.inH b q; ⟨o, e _ _ z⟩
  len := S.len
  val := fun i d h => let ⟨v, h1, h2⟩ := S.val i d h; ⟨v, h1, h2.tr ⟨fun a o q _ => e _ _ q, fun a q => q.elim (fun z => .inr (z ▸ hp)) .inl⟩⟩
  own := fun i o h => by
    obtain ⟨b, h1, h2, h3, h4⟩ := S.own i o h
    obtain ⟨u, hu⟩ := h4.some
    exact ⟨b, h1, .inr h2, h3, h4.to ⟨fun a o q _ => e _ _ q, fun a q => q.elim (fun z => .inr (z ▸ hp)) .inl⟩ ((e _ _ hu).trans hu.symm)⟩
  sep := S.sep
/-- an address that holds no slot's object is written, or one less is kept off -/
theorem Sto.other {H0 : Hp} {B0 B : Av} {σ : St} {H : Hp} (S : Sto H0 B0 B σ H Γ) {p : Addr} {o : HO} (hp : B p) (h0 : H0 p = none) (hno : ∀ (i : Nat) (o : Ob), Γ[i]? = some (.own o) → σ[i]? ≠ some (some (.ref p))) : Sto H0 B0 B σ (upd H p o) Γ := by
  have tr : Tr B H B (upd H p o) := ⟨fun a u h hb => by rw [upd_ne (fun e => hb (by rw [e]; exact hp))]; exact h, fun a h => .inl h⟩
  exact {
    ex := fun a u h => by rw [upd_ne (ne_of_none h h0)]; exact S.ex a u h
    sub := S.sub
    old := S.old
    inH := fun b h => by
      by_cases e : b = p
      · exact ⟨o, by rw [e]; exact upd_same⟩
      · obtain ⟨u, q⟩ := S.inH b h
        exact ⟨u, by rw [upd_ne e]; exact q⟩
    len := S.len
    val := fun i d h => let ⟨v, h1, h2⟩ := S.val i d h; ⟨v, h1, h2.tr tr⟩
    own := fun i u h => by
      obtain ⟨b, h1, h2, h3, h4⟩ := S.own i u h
      have ne : b ≠ p := fun e => hno i u h (by rw [← e]; exact h1)
      exact ⟨b, h1, h2, h3, h4.to tr (upd_ne ne)⟩
    sep := S.sep }
/-! ### targets -/
theorem gt_name {i : Nat} (hN : c.N[i]? = some n) (hx : Loc c.sc n) (hf : c.fn n = true ∨ c.sc.names.lookup n = some .local) : GT c (.Name n pos) [i] Γ d (Γ.set i (.val d)) := fun H0 B0 B σ H v Q S r k X cx =>
  go_g (pg_name (by rw [cx.N]; exact cx.nd) (by rw [cx.N]; exact hN) (by rw [cx.sc]; exact hx) (by rw [cx.fn, cx.sc]; exact hf)) (k _ (List.length_set ..) (fun j hj => List.getElem?_set_ne (fun e => hj (by simp [e]))) (S.set_val r i))
theorem gt_pair {i j : Nat} {n1 n2 : Str} {p1 p2 : Pos} {kk : Nat} {kb : Bool} {d1 d2 : D} (hN : c.N[i]? = some n1) (hx : Loc c.sc n1) (hf : c.fn n1 = true ∨ c.sc.names.lookup n1 = some .local) (hN2 : c.N[j]? = some n2) (hx2 : Loc c.sc n2) (hf2 : c.fn n2 = true ∨ c.sc.names.lookup n2 = some .local) :
    GT c (.Tuple [.Name n1 p1, .Name n2 p2] kk pos) [i, j] Γ (.tup kb [d1, d2]) ((Γ.set i (.val d1)).set j (.val d2)) := fun H0 B0 B σ H v Q S r k X cx =>
  go_g (pg_tup cx.calm (pgs_cons (pg_name (by rw [cx.N]; exact cx.nd) (by rw [cx.N]; exact hN) (by rw [cx.sc]; exact hx) (by rw [cx.fn, cx.sc]; exact hf)) (pgs_cons (pg_name (by rw [cx.N]; exact cx.nd) (by rw [cx.N]; exact hN2) (by rw [cx.sc]; exact hx2) (by rw [cx.fn, cx.sc]; exact hf2)) pgs_nil))) (by
    cases r with
    | tup hb ht r =>
      cases r with
      | cons r1 r =>
        cases r with
        | cons r2 r =>
          cases r
          exact ⟨_, _, rfl, ht.sq, rfl, _, _, rfl, _, _, rfl, rfl, k _ (by rw [List.length_set, List.length_set]) (fun m hm => by
            rw [List.getElem?_set_ne (fun e => hm (by simp [e])), List.getElem?_set_ne (fun e => hm (by simp [e]))]) ((S.set_val r1 i).set_val r2 j)⟩)

/-! ### what is walked -/
structure Src (J : It) (ds : List D) (Rl : Av → Hp → Prop) : Prop where
  ex : ∃ (G : Hp → Prop) (Y : Nat → Hp → V → Hp → Prop), Walk J ds.length G Y ∧ (∀ B2 H2, Rl B2 H2 → G H2) ∧ ∀ B2 H2 i x H3 d, Rl B2 H2 → InH B2 H2 → Y i H2 x H3 → ds[i]? = some d → Ext H2 H3 ∧ Rp B2 H3 x d
abbrev RlS (B : Av) (H : Hp) : Av → Hp → Prop := fun B2 H2 => Tr B H B2 H2
abbrev RlW (B : Av) (H : Hp) : Av → Hp → Prop := fun B2 H2 => Ext H H2 ∧ ∀ a, B2 a → B a ∨ H a = none
def IS (c : Cp) (tg e : Expr) (Γ : Gm) (ds : List D) : Prop := ∀ (H0 : Hp) (B0 B : Av) (σ : St) (H : Hp) (R : It → Hp → Prop), Sto H0 B0 B σ H Γ → (∀ J H', Ext H H' → Src J ds (RlS B H') → R J H') → ∀ X, c.Is X → iOf X tg e σ H R
def IW (c : Cp) (tg e : Expr) (Γ : Gm) (ds : List D) : Prop := ∀ (H0 : Hp) (B0 B : Av) (σ : St) (H : Hp) (R : It → Hp → Prop), Sto H0 B0 B σ H Γ → (∀ J H', Ext H H' → Src J ds (RlW B H') → R J H') → ∀ X, c.Is X → iOf X tg e σ H R
theorem RlW.tr {B B2 : Av} {H H2 : Hp} (h : RlW B H B2 H2) : Tr B H B2 H2 := ⟨fun a o q _ => h.1 a o q, h.2⟩
theorem IS.w {tg : Expr} {ds : List D} (h : IS c tg e Γ ds) : IW c tg e Γ ds := fun H0 B0 B σ H R S k X cx => h H0 B0 B σ H R S (fun J H' x s => k J H' x ⟨by
  obtain ⟨G, Y, w, g, y⟩ := s.ex
  exact ⟨G, Y, w, fun B2 H2 r => g B2 H2 (RlW.tr r), fun B2 H2 i x H3 d r => y B2 H2 i x H3 d (RlW.tr r)⟩⟩) X cx
theorem IS.is {tg : Expr} {ds ds' : List D} (h : IS c tg e Γ ds) (q : ds = ds') : IS c tg e Γ ds' := q ▸ h
theorem IW.is {tg : Expr} {ds ds' : List D} (h : IW c tg e Γ ds) (q : ds = ds') : IW c tg e Γ ds' := q ▸ h
theorem is_list {tg : Expr} {ds : List D} (h : EP c e Γ (.list ds)) : IS c tg e Γ ds := fun H0 B0 B σ H R S k X cx =>
  go_i (pi_list (pe_of X e)) (h H0 B0 B σ H _ S (fun v H1 e1 r => by
    cases r with
    | @lst a xs _ hb hl r =>
      refine ⟨a, rfl, ⟨_, hl.sq⟩, k _ H1 e1 ⟨fun H => SqL X.K H a xs, YAt xs, by rw [← r.length]; exact walk_list, fun B2 H2 t => LstAt.sq (t.keep _ _ hl hb), fun B2 H2 i x H3 d t _ y hd => ?_⟩⟩
      obtain ⟨rfl, hx⟩ := y
      obtain ⟨d', hd', q⟩ := (r.tr t).at hx
      rw [hd] at hd'; cases hd'
      exact ⟨Ext.refl _, q⟩) X cx)
theorem is_tup {tg : Expr} {ds : List D} {kk : Bool} (h : EP c e Γ (.tup kk ds)) : IS c tg e Γ ds := fun H0 B0 B σ H R S k X cx =>
  go_i (pi_tup (pe_of X e)) (h H0 B0 B σ H _ S (fun v H1 e1 r => by
    cases r with
    | @tup _ a xs _ hb hl r =>
      refine ⟨a, rfl, ⟨_, hl.sq⟩, k _ H1 e1 ⟨fun H => SqT X.K H a xs, YAt xs, by rw [← r.length]; exact walk_tup, fun B2 H2 t => TupAt.sq (hl.to fun u q => t.keep _ _ q hb), fun B2 H2 i x H3 d t _ y hd => ?_⟩⟩
      obtain ⟨rfl, hx⟩ := y
      obtain ⟨d', hd', q⟩ := (r.tr t).at hx
      rw [hd] at hd'; cases hd'
      exact ⟨Ext.refl _, q⟩) X cx)
theorem iw_list {tg : Expr} {ds : List D} (h : EW c e Γ (.list ds)) : IW c tg e Γ ds := fun H0 B0 B σ H R S k X cx =>
  go_i (pi_list (pe_of X e)) (h H0 B0 B σ H _ S (fun v H1 e1 r => by
    cases r with
    | @lst a xs _ hl r =>
      refine ⟨a, rfl, ⟨_, hl.sq⟩, k _ H1 e1 ⟨fun H => SqL X.K H a xs, YAt xs, by rw [← r.length]; exact walk_list, fun B2 H2 t => LstAt.sq (t.1 _ _ hl), fun B2 H2 i x H3 d t _ y hd => ?_⟩⟩
      obtain ⟨rfl, hx⟩ := y
      obtain ⟨d', hd', q⟩ := (r.tr (RlW.tr t)).at hx
      rw [hd] at hd'; cases hd'
      exact ⟨Ext.refl _, q⟩) X cx)
def rangeD (lo : Int) (m : Nat) : List D := (List.range m).map fun (i : Nat) => D.int (lo + i)
theorem rangeD_get {lo : Int} {m i : Nat} {d : D} (h : (rangeD lo m)[i]? = some d) : d = .int (lo + i) := by
  unfold rangeD at h
  rw [List.getElem?_map] at h
  obtain ⟨j, h1, h2⟩ := Option.map_eq_some_iff.mp h
  have e := (List.getElem?_eq_some_iff.mp h1).2
  rw [List.getElem_range] at e
  rw [← h2, ← e]
theorem is_range1 {tg : Expr} {j : Int} (hg : c.gl "range") (hm : c.mg "range" = none) (h : EP c e Γ (.int j)) (h1 : -(2 ^ 62) ≤ j) (h2 : j < 2 ^ 62) (he : ∀ env : Env, starEach [e] env = (false, eval e env) :: starEach [] env := by intro _; rfl) : IS c tg (.Call (.Name "range" p) [e] [] pos) Γ (rangeD 0 j.toNat) := fun H0 B0 B σ H R S k X cx =>
  go_i (pi_range1 (cx.gl hg) (by rw [cx.mg]; exact hm) (pa_cons (pe_of X e) pa_nil (he X.env)) (he X.env)) (h H0 B0 B σ H _ S (fun v H1 e1 r => by
    cases r
    refine ⟨j, rfl, h1, h2, k _ H1 e1 ⟨fun _ => True, YFn fun i => .int (0 + i), by unfold rangeD; rw [List.length_map, List.length_range]; exact walk_range, fun _ _ _ => trivial, fun B2 H2 i x H3 d _ _ y hd => ?_⟩⟩
    obtain ⟨rfl, rfl⟩ := y
    rw [rangeD_get hd]
    exact ⟨Ext.refl _, .int _⟩) X cx)
theorem is_range2 {tg : Expr} {i j : Int} (hg : c.gl "range") (hm : c.mg "range" = none) (ha : EP c a Γ (.int i)) (h : EP c b Γ (.int j)) (hb : -(2 ^ 62) ≤ i ∧ i < 2 ^ 62 ∧ -(2 ^ 62) ≤ j ∧ j < 2 ^ 62) (he : ∀ env : Env, starEach [a, b] env = (false, eval a env) :: starEach [b] env := by intro _; rfl) (he2 : ∀ env : Env, starEach [b] env = (false, eval b env) :: starEach [] env := by intro _; rfl) : IS c tg (.Call (.Name "range" p) [a, b] [] pos) Γ (rangeD i (j - i).toNat) := fun H0 B0 B σ H R S k X cx =>
  go_i (pi_range2 (cx.gl hg) (by rw [cx.mg]; exact hm) (pa_cons (pe_of X a) (pa_cons (pe_of X b) pa_nil (he2 X.env)) (he X.env)) (by rw [he, he2]; rfl) (by rw [he2]; rfl)) (ha H0 B0 B σ H _ S (fun v H1 e1 r => h H0 B0 B σ H1 _ (S.ext e1) (fun w H2 e2 r2 => by
    cases r
    cases r2
    refine ⟨i, j, rfl, hb, k _ H2 (e1.trans e2) ⟨fun _ => True, YFn fun q => .int (i + q), by unfold rangeD; rw [List.length_map, List.length_range]; exact walk_range, fun _ _ _ => trivial, fun B2 H3 m x H4 d _ _ y hd => ?_⟩⟩
    obtain ⟨rfl, rfl⟩ := y
    rw [rangeD_get hd]
    exact ⟨Ext.refl _, .int _⟩) X cx) X cx)
def enumD (ds : List D) : List D := ds.zipIdx.map fun z => D.tup false [.int (z.2 : Nat), z.1]
theorem enumD_get {ds : List D} {i : Nat} {d : D} (h : (enumD ds)[i]? = some d) : ∃ d', ds[i]? = some d' ∧ d = .tup false [.int (i : Nat), d'] := by
  unfold enumD at h
  rw [List.getElem?_map, List.getElem?_zipIdx] at h
  cases q : ds[i]? with
  | none => rw [q] at h; cases h
  | some d' => rw [q] at h; refine ⟨d', rfl, ?_⟩; have := Option.some.inj h; rw [← this]; simp
theorem enumD_len {ds : List D} : (enumD ds).length = ds.length := by simp [enumD]
theorem ypair_rp {B2 : Av} {H2 H3 : Hp} {xs ys : Nat → Option V} {i : Nat} {v : V} (y : YPair xs ys i H2 v H3) (hB : InH B2 H2) {d1 d2 : D} (r1 : ∀ x, xs i = some x → Rp B2 H2 x d1) (r2 : ∀ x, ys i = some x → Rp B2 H2 x d2) : Ext H2 H3 ∧ Rp B2 H3 v (.tup false [d1, d2]) := by
  obtain ⟨T, x, y, rfl, hT, rfl, hx, hy⟩ := y
  exact ⟨Ext.new hT, .tup (k := false) (hB.off hT) upd_same (.cons ((r1 x hx).ext (Ext.new hT)) (.cons ((r2 y hy).ext (Ext.new hT)) .nil))⟩
theorem is_enumT {kk : Nat} {tpos : Pos} {elts : List Expr} {ds : List D} {kb : Bool} (hg : c.gl "enumerate") (hm : c.mg "enumerate" = none) (h : EP c e Γ (.tup kb ds)) (he : ∀ env : Env, starEach [e] env = (false, eval e env) :: starEach [] env := by intro _; rfl) : IS c (.Tuple elts kk tpos) (.Call (.Name "enumerate" p) [e] [] pos) Γ (enumD ds) := fun H0 B0 B σ H R S k X cx =>
  go_i (pi_enumT (cx.gl hg) (by rw [cx.mg]; exact hm) (pa_cons (pe_of X e) pa_nil (he X.env)) (he X.env)) (h H0 B0 B σ H _ S (fun v H1 e1 r => by
    cases r with
    | @tup _ a xs _ hb hl r =>
      refine ⟨a, xs, rfl, hl.sq, k _ H1 e1 ⟨fun H => SqT X.K H a xs, _, by rw [enumD_len, ← r.length]; exact walk_enumT, fun B2 H2 t => TupAt.sq (hl.to fun u q => t.keep _ _ q hb), fun B2 H2 i x H3 d t hB y hd => ?_⟩⟩
      obtain ⟨d', hd', rfl⟩ := enumD_get hd
      refine ypair_rp y hB (fun x hx => by cases hx; exact .int _) fun x hx => ?_
      obtain ⟨d2, hd2, q⟩ := (r.tr t).at hx
      rw [hd'] at hd2; cases hd2
      exact q) X cx)
theorem iw_enumL {kk : Nat} {tpos : Pos} {elts : List Expr} {ds : List D} (hg : c.gl "enumerate") (hm : c.mg "enumerate" = none) (h : EW c e Γ (.list ds)) (he : ∀ env : Env, starEach [e] env = (false, eval e env) :: starEach [] env := by intro _; rfl) : IW c (.Tuple elts kk tpos) (.Call (.Name "enumerate" p) [e] [] pos) Γ (enumD ds) := fun H0 B0 B σ H R S k X cx =>
  go_i (pi_enum (cx.gl hg) (by rw [cx.mg]; exact hm) (pa_cons (pe_of X e) pa_nil (he X.env)) (he X.env)) (h H0 B0 B σ H _ S (fun v H1 e1 r => by
    cases r with
    | @lst a xs _ hl r =>
      refine ⟨a, xs, rfl, hl.sq, k _ H1 e1 ⟨fun H => SqL X.K H a xs, _, by rw [enumD_len, ← r.length]; exact walk_enum, fun B2 H2 t => LstAt.sq (t.1 _ _ hl), fun B2 H2 i x H3 d t hB y hd => ?_⟩⟩
      obtain ⟨d', hd', rfl⟩ := enumD_get hd
      refine ypair_rp y hB (fun x hx => by cases hx; exact .int _) fun x hx => ?_
      obtain ⟨d2, hd2, q⟩ := (r.tr (RlW.tr t)).at hx
      rw [hd'] at hd2; cases hd2
      exact q) X cx)
theorem is_enumL {kk : Nat} {tpos : Pos} {elts : List Expr} {ds : List D} (hg : c.gl "enumerate") (hm : c.mg "enumerate" = none) (h : EP c e Γ (.list ds)) (he : ∀ env : Env, starEach [e] env = (false, eval e env) :: starEach [] env := by intro _; rfl) : IS c (.Tuple elts kk tpos) (.Call (.Name "enumerate" p) [e] [] pos) Γ (enumD ds) := fun H0 B0 B σ H R S k X cx =>
  go_i (pi_enum (cx.gl hg) (by rw [cx.mg]; exact hm) (pa_cons (pe_of X e) pa_nil (he X.env)) (he X.env)) (h H0 B0 B σ H _ S (fun v H1 e1 r => by
    cases r with
    | @lst a xs _ hb hl r =>
      refine ⟨a, xs, rfl, hl.sq, k _ H1 e1 ⟨fun H => SqL X.K H a xs, _, by rw [enumD_len, ← r.length]; exact walk_enum, fun B2 H2 t => LstAt.sq (t.keep _ _ hl hb), fun B2 H2 i x H3 d t hB y hd => ?_⟩⟩
      obtain ⟨d', hd', rfl⟩ := enumD_get hd
      refine ypair_rp y hB (fun x hx => by cases hx; exact .int _) fun x hx => ?_
      obtain ⟨d2, hd2, q⟩ := (r.tr t).at hx
      rw [hd'] at hd2; cases hd2
      exact q) X cx)
theorem walk_zipT {K : PySem.W.Frag} {a b : Addr} {xs ys : List V} {n : Nat} (hn : n = min xs.length ys.length) : Walk (RZ.ItzT K a b) n (fun H => SqT K H a xs ∧ SqT K H b ys) (YPair (fun i => xs[i]?) (fun i => ys[i]?)) := by
  subst hn
  refine ⟨fun i _ hi q => ?_, fun _ q => ⟨xs, ys, q.1, q.2, by omega⟩, fun i H v H' _ q y => ?_⟩
  · have h1 : i < xs.length := by omega
    have h2 : i < ys.length := by omega
    exact ⟨xs, ys, xs[i], ys[i], q.1, q.2, by simp [h1], by simp [h2]⟩
  · obtain ⟨T, x, z, h1, h2, h3, h4, h5⟩ := y
    exact ⟨T, x, z, h1, h2, h3, h4 xs q.1, h5 ys q.2⟩
def zipD (ds es : List D) : List D := (ds.zip es).map fun z => D.tup false [z.1, z.2]
theorem zipD_get {ds es : List D} {i : Nat} {d : D} (h : (zipD ds es)[i]? = some d) : ∃ d1 d2, ds[i]? = some d1 ∧ es[i]? = some d2 ∧ d = .tup false [d1, d2] := by
  unfold zipD at h
  rw [List.getElem?_map] at h
  obtain ⟨z, h1, h2⟩ := Option.map_eq_some_iff.mp h
  obtain ⟨q1, q2⟩ := List.getElem?_zip_eq_some.mp h1
  exact ⟨z.1, z.2, q1, q2, h2.symm⟩
/-- both lists, or both tuples -/
theorem iw_zip {kk : Nat} {tpos : Pos} {elts : List Expr} {d1 d2 : D} {ds es : List D} (hg : c.gl "zip") (hm : c.mg "zip" = none) (ha : EW c a Γ d1) (h : EW c b Γ d2) (hk : (d1 = .list ds ∧ d2 = .list es) ∨ ∃ k1 k2, d1 = .tup k1 ds ∧ d2 = .tup k2 es)
    (he : ∀ env : Env, starEach [a, b] env = (false, eval a env) :: starEach [b] env := by intro _; rfl) (he2 : ∀ env : Env, starEach [b] env = (false, eval b env) :: starEach [] env := by intro _; rfl) (hpl : ∀ env : Env, (backTo pos (starEach [b] env)).any (·.1) = false := by intro _; rfl) : IW c (.Tuple elts kk tpos) (.Call (.Name "zip" p) [a, b] [] pos) Γ (zipD ds es) := fun H0 B0 B σ H R S k X cx =>
  go_i (RZ.pi_zipA (cx.gl hg) (by rw [cx.mg]; exact hm) (pa_cons (pe_of X a) (pa_cons (pe_of X b) pa_nil (he2 X.env)) (he X.env)) (he X.env) (hpl X.env)) (ha H0 B0 B σ H _ S (fun v H1 e1 r => h H0 B0 B σ H1 _ (S.ext e1) (fun w H2 e2 r2 => by
    have r' := r.ext e2
    rcases hk with ⟨rfl, rfl⟩ | ⟨k1, k2, rfl, rfl⟩
    · cases r' with
      | @lst a1 xs _ hl q1 =>
        cases r2 with
        | @lst a2 ys _ hl2 q2 =>
          refine ⟨a1, a2, xs, ys, rfl, .inl ⟨hl.sq, hl2.sq, k _ H2 (e1.trans e2) ⟨_, _, walk_zip (xs := xs) (ys := ys) (by unfold zipD; rw [List.length_map, List.length_zip, q1.length, q2.length]), fun B2 H3 t => ⟨LstAt.sq (t.1 _ _ hl), LstAt.sq (t.1 _ _ hl2)⟩, fun B2 H3 i x H4 d t hB y hd => ?_⟩⟩⟩
          obtain ⟨d1, d2, g1, g2, rfl⟩ := zipD_get hd
          refine ypair_rp y hB (fun x hx => ?_) fun x hx => ?_
          · obtain ⟨d', hd', q⟩ := (q1.tr (RlW.tr t)).at hx
            rw [g1] at hd'; cases hd'; exact q
          · obtain ⟨d', hd', q⟩ := (q2.tr (RlW.tr t)).at hx
            rw [g2] at hd'; cases hd'; exact q
    · cases r' with
      | @tup _ a1 xs _ hl q1 =>
        cases r2 with
        | @tup _ a2 ys _ hl2 q2 =>
          refine ⟨a1, a2, xs, ys, rfl, .inr ⟨hl.sq, hl2.sq, k _ H2 (e1.trans e2) ⟨_, _, walk_zipT (xs := xs) (ys := ys) (by unfold zipD; rw [List.length_map, List.length_zip, q1.length, q2.length]), fun B2 H3 t => ⟨(hl.to fun u q => t.1 _ _ q).sq, (hl2.to fun u q => t.1 _ _ q).sq⟩, fun B2 H3 i x H4 d t hB y hd => ?_⟩⟩⟩
          obtain ⟨d1, d2, g1, g2, rfl⟩ := zipD_get hd
          refine ypair_rp y hB (fun x hx => ?_) fun x hx => ?_
          · obtain ⟨d', hd', q⟩ := (q1.tr (RlW.tr t)).at hx
            rw [g1] at hd'; cases hd'; exact q
          · obtain ⟨d', hd', q⟩ := (q2.tr (RlW.tr t)).at hx
            rw [g2] at hd'; cases hd'; exact q) X cx) X cx)
end
end GL
end
/-! ## G8 -/
section
namespace GL
open PySem PySem.Spec PyProof.Rows L2
theorem Ext.mut {H H' : Hp} {p : Addr} {o : HO} (e : Ext H H') (h : H p = none) : Ext H (upd H' p o) := fun a u ha => by
  rw [upd_ne (ne_of_none ha h)]; exact e a u ha
theorem wipe_same {σ σ2 : St} {vs : List Nat} (hl : σ2.length = σ.length) (h : ∀ k, k ∉ vs → σ2[k]? = σ[k]?) : wipe σ2 vs = wipe σ vs := by
  refine List.ext_getElem? fun k => ?_
  by_cases hk : k ∈ vs
  · have z : ∀ (τ : St), k < τ.length → (wipe τ vs)[k]? = some none := fun τ hlt => by
      have hw : k < (wipe τ vs).length := by rw [wipe_length]; exact hlt
      cases q : (wipe τ vs)[k]? with
      | none => rw [List.getElem?_eq_none_iff] at q; omega
      | some v =>
        cases v with
        | none => rfl
        | some u => exact absurd hk (wipe_some q).2
    by_cases hlt : k < σ.length
    · rw [z σ hlt, z σ2 (by rw [hl]; exact hlt)]
    · rw [List.getElem?_eq_none (by rw [wipe_length]; omega), List.getElem?_eq_none (by rw [wipe_length]; omega)]
  · rw [wipe_out hk, wipe_out hk, h k hk]
theorem Sto.trNo {H0 : Hp} {B0 B : Av} {σ : St} {H H' : Hp} {Γ : Gm} (S : Sto H0 B0 B σ H Γ) (hno : ∀ (i : Nat) (o : Ob), Γ[i]? ≠ some (.own o)) (t : Tr B H B H') (ex : ∀ a o, H0 a = some o → H' a = some o) (hB : InH B H') : Sto H0 B0 B σ H' Γ where
  ex := ex
  sub := S.sub
  old := S.old
  inH := hB
  len := S.len
  val := fun i d h => let ⟨v, h1, h2⟩ := S.val i d h; ⟨v, h1, h2.tr t⟩
  own := fun i o h => absurd h (hno i o)
  sep := S.sep
section
variable {c : Cp} {Γ Γ' Γ1 Γ2 : Gm} {e a b t elt tg iter : Expr} {es ifs : List Expr} {d x y z : D} {pos p p2 : Pos} {n : Str} {scope : Scope} {vs ts : List Nat}
def gAll (c : Cp) (tg : Expr) : TG := fun v σ H Q => ∀ X, c.Is X → gOf X tg v σ H Q
def eAll (c : Cp) (e : Expr) : TE := fun σ H Q => ∀ X, c.Is X → eOf X e σ H Q
def fAll (c : Cp) (ifs : List Expr) : TT := fun σ H Q => ∀ X, c.Is X → ∃ t, PTs X ifs t ∧ t σ H Q
def iAll (c : Cp) (tg e : Expr) : TI := fun σ H R => ∀ X, c.Is X → iOf X tg e σ H R
theorem pg_all {X : Cx} (cx : c.Is X) : PG X tg (gAll c tg) := ⟨fun pins s σ H v u Q I r h => by have z := h X cx; unfold gOf at z; exact z pins s u I r⟩
theorem pe_all {X : Cx} (cx : c.Is X) : PE X e (eAll c e) := ⟨fun pins s σ H Q I h => by have z := h X cx; unfold eOf at z; exact z pins s I⟩
theorem pi_all {X : Cx} (cx : c.Is X) : PI X tg e (iAll c tg e) := ⟨fun pins s σ H R I h => by have z := h X cx; unfold iOf at z; exact z pins s I⟩
theorem pts_all {X : Cx} (cx : c.Is X) : PTs X ifs (fAll c ifs) := ⟨fun pins s σ H Q I h => by
  obtain ⟨t, pt, q⟩ := h X cx
  exact pt.run pins s σ H Q I q⟩
/-- a clause's tests -/
def FP (c : Cp) (ifs : List Expr) (Γ : Gm) (k : Bool) : Prop := ∀ (H0 : Hp) (B0 B : Av) (σ : St) (H : Hp) (Q : Bool → Hp → Prop), Sto H0 B0 B σ H Γ → (∀ H', Ext H H' → Q k H') → fAll c ifs σ H Q
theorem fp_nil : FP c [] Γ true := fun H0 B0 B σ H Q S k X cx => ⟨_, pts_nil, k H (Ext.refl H)⟩
theorem fp_one {k : Bool} (h : TP c t Γ k) : FP c [t] Γ k := fun H0 B0 B σ H Q S q X cx => ⟨_, pts_one (pt_of X t), h H0 B0 B σ H Q S q X cx⟩
/-- a comprehension's loop -/
def LC (c : Cp) (elt tg iter : Expr) (ifs : List Expr) (scope : Scope) (vs : List Nat) (Γ : Gm) (rs : List D) : Prop := ∀ (H0 : Hp) (B0 B : Av) (σ : St) (H : Hp) (Q : VK), Sto H0 B0 B σ H Γ →
  (∀ p H', H p = none → Ext H H' → RpO (fun a => a = p ∨ B a) H' p (.lst rs) → Q (.ref p) H') → ∀ X, c.Is X → tLc (iOf X tg iter) (gAll (c.blk scope) tg) (fAll (c.blk scope) ifs) (eAll (c.blk scope) elt) vs σ H Q
theorem lc_read {α : Type} (l : List α) (f : α → D) (pr : α → Bool) (g : α → D) (hsrc : IW c tg iter Γ (l.map f)) (hts : ∀ i ∈ ts, i ∈ vs) (hz : l.length ≤ 100000)
    (turn : ∀ x ∈ l, ∃ Γi, GT (c.blk scope) tg ts (wipeG Γ vs) (f x) Γi ∧ FP (c.blk scope) ifs Γi (pr x) ∧ (pr x = true → EP (c.blk scope) elt Γi (g x))) : LC c elt tg iter ifs scope vs Γ ((l.filter pr).map g) := fun H0 B0 B σ H Q S k X cx => by
  refine hsrc H0 B0 B σ H _ S (fun J H1 e1 src => ?_) X cx
  intro D hD
  obtain ⟨G, Y, w, hG, hY⟩ := src.ex
  have hHD : H D = none := e1.back hD
  refine lc_it w (Pv := fun i H' => Ext H1 H' ∧ ∃ acc, H' D = some (.lst acc) ∧ RpA (fun a => a = D ∨ B a) H' acc (((l.take i).filter pr).map g)) ⟨Ext.new hD, [], upd_same, by simp; exact .nil⟩ (fun i H' _ pv => hG (fun a => a = D ∨ B a) H' ⟨pv.1, fun a q => q.elim (fun z => .inr (by rw [z]; exact hD)) .inl⟩) (fun i xv H2 H3 hi pv y => ?_) (fun H' pv => ?_)
  · obtain ⟨ex, acc, hacc, racc⟩ := pv
    rw [List.length_map] at hi
    have hx : (l.map f)[i]? = some (f l[i]) := by rw [List.getElem?_map, List.getElem?_eq_getElem hi]; rfl
    have hB : InH (fun a => a = D ∨ B a) H2 := fun b q => q.elim (fun z => ⟨.lst acc, z ▸ hacc⟩) fun z => let ⟨o, q⟩ := S.inH b z; ⟨o, ex _ _ (e1 _ _ q)⟩
    obtain ⟨e3, rx⟩ := hY (fun a => a = D ∨ B a) H2 i xv H3 (f l[i]) ⟨ex, fun a q => q.elim (fun z => .inr (by rw [z]; exact hD)) .inl⟩ hB y hx
    have e0 : Ext H H3 := (e1.trans ex).trans e3
    have S1 : Sto H0 B0 (fun a => a = D ∨ B a) (wipe σ vs) H3 (wipeG Γ vs) := (S.grow e0 hHD ⟨_, e3 _ _ hacc⟩).wipe vs
    obtain ⟨Γi, hg, hf, he⟩ := turn l[i] (List.getElem_mem hi)
    have tk : l.take (i + 1) = l.take i ++ [l[i]] := by rw [List.take_add_one, List.getElem?_eq_getElem hi]; rfl
    intro Y' cy
    refine hg H0 B0 _ (wipe σ vs) H3 xv _ S1 rx (fun σ2 hl2 hk2 S2 => ⟨?_, ?_⟩) Y' cy
    · have z := wipe_same (vs := vs) hl2 fun k hk => hk2 k fun q => hk (hts k q)
      rw [z]
      refine wipe_same (wipe_length ..) fun k hk => wipe_out hk
    · refine hf H0 B0 _ σ2 H3 _ S2 fun H4 e4 => ?_
      cases hp : pr l[i] with
      | false =>
        refine iteF ⟨(ex.trans e3).trans e4, acc, e4 _ _ (e3 _ _ hacc), ?_⟩
        rw [tk, List.filter_append, List.map_append]
        have : List.filter pr [l[i]] = [] := by simp [hp]
        rw [this, List.map_nil, List.append_nil]
        exact (racc.ext e3).ext e4
      | true =>
        refine iteT (he hp H0 B0 _ σ2 H4 _ (S2.ext e4) fun yv H5 e5 ry => ?_)
        have h5 := e5 _ _ (e4 _ _ (e3 _ _ hacc))
        have racc5 := ((racc.ext e3).ext e4).ext e5
        refine ⟨acc, h5, ?_, Ext.mut (((ex.trans e3).trans e4).trans e5) hD, acc ++ [yv], upd_same, ?_⟩
        · have h1 := racc.length
          rw [List.length_map] at h1
          have h2 := List.length_filter_le pr (l.take i)
          rw [List.length_take] at h2
          rw [sizeLine_eq]; omega
        · rw [tk, List.filter_append, List.map_append]
          have : List.filter pr [l[i]] = [l[i]] := by simp [hp]
          rw [this]
          have tr : Tr (fun a => a = D ∨ B a) H5 (fun a => a = D ∨ B a) (upd H5 D (.lst (acc ++ [yv]))) := ⟨fun a o h hb => by rw [upd_ne (fun z => hb (.inl z))]; exact h, fun a h => .inl h⟩
          exact (racc5.tr tr).snoc (ry.tr tr)
  · obtain ⟨ex, acc, hacc, racc⟩ := pv
    rw [List.length_map, List.take_length] at racc
    exact k D H' hHD (e1.trans ex) ⟨acc, hacc, racc⟩
theorem eo_lc {own : List (Str × Nat)} {rs : List D} (h : LC c elt tg iter ifs scope (own.map (·.2)) Γ rs) (hok : blkC c.N c.sc scope own = true) (hs : ∀ (env : Env) x, foldedSetIterable iter env x = pure x := by intro _ _; rfl) :
    EO c (.ListComp elt [⟨tg, iter, ifs, 0⟩] scope pos) Γ (.lst rs) := fun H0 B0 B σ H Q S k X cx =>
  go_e (pe_lc (own := own) cx.calm (by rw [cx.N]; exact cx.nd) (pi_of X tg iter) (by rw [cx.N, cx.sc]; exact blkOk_by hok) (fun _ _ _ _ _ => pg_all cx.blk) (fun _ _ _ _ _ => pts_all cx.blk) (fun _ _ _ _ _ => pe_all cx.blk) (hs X.env)) (h H0 B0 B σ H Q S k X cx)
/-- two clauses, no tests -/
def LC2 (c : Cp) (elt tg iter tg1 iter1 : Expr) (scope : Scope) (vs vs1 : List Nat) (Γ : Gm) (rs : List D) : Prop := ∀ (H0 : Hp) (B0 B : Av) (σ : St) (H : Hp) (Q : VK), Sto H0 B0 B σ H Γ →
  (∀ p H', H p = none → Ext H H' → RpO (fun a => a = p ∨ B a) H' p (.lst rs) → Q (.ref p) H') → ∀ X, c.Is X → tLc2 (iOf X tg iter) (gAll (c.blk scope) tg) tYes (iAll (c.blk scope) tg1 iter1) (gAll (c.blk scope) tg1) tYes (eAll (c.blk scope) elt) vs vs1 σ H Q
theorem flat_take {α β : Type} (l : List α) (m : α → List β) {i : Nat} (h : i < l.length) : (l.take (i + 1)).flatMap m = (l.take i).flatMap m ++ m l[i] := by
  rw [List.take_add_one, List.getElem?_eq_getElem h, List.flatMap_append]; simp
theorem lc2_read {α β : Type} (l : List α) (f : α → D) (m : α → List β) (f1 : α → β → D) (g : α → β → D) {tg1 iter1 : Expr} {ts1 vs1 : List Nat} (hsrc : IW c tg iter Γ (l.map f)) (hts : ∀ i ∈ ts, i ∈ vs) (hts1 : ∀ i ∈ ts1, i ∈ vs1) (hz : (l.flatMap m).length ≤ 100000)
    (turn : ∀ x ∈ l, ∃ Γi, GT (c.blk scope) tg ts (wipeG Γ vs) (f x) Γi ∧ (∀ (i : Nat) (o : Ob), Γi[i]? ≠ some (.own o)) ∧ IS (c.blk scope) tg1 iter1 Γi ((m x).map (f1 x)) ∧ ∀ y ∈ m x, ∃ Γj, GT (c.blk scope) tg1 ts1 (wipeG Γi vs1) (f1 x y) Γj ∧ EP (c.blk scope) elt Γj (g x y)) :
    LC2 c elt tg iter tg1 iter1 scope vs vs1 Γ (l.flatMap fun x => (m x).map (g x)) := fun H0 B0 B σ H Q S k X cx => by
  refine hsrc H0 B0 B σ H _ S (fun J H1 e1 src => ?_) X cx
  intro D hD
  obtain ⟨G, Y, w, hG, hY⟩ := src.ex
  have hHD : H D = none := e1.back hD
  have fl : ∀ q : List α, (q.flatMap fun x => (m x).map (g x)).length = (q.flatMap m).length := fun q => by
    rw [List.length_flatMap, List.length_flatMap]; congr 1; refine List.map_congr_left fun x _ => by simp
  have lenle : ∀ i (hi : i < l.length), ((l.take i).flatMap m).length + (m l[i]).length ≤ 100000 := fun i hi => by
    have z : l = l.take (i + 1) ++ l.drop (i + 1) := (List.take_append_drop ..).symm
    have z2 : (l.flatMap m).length = ((l.take (i + 1)).flatMap m).length + ((l.drop (i + 1)).flatMap m).length := by
      rw [← List.length_append, ← List.flatMap_append, ← z]
    rw [flat_take l m hi, List.length_append] at z2
    omega
  let Pv : Nat → Hp → Prop := fun i H' => Ext H1 H' ∧ ∃ acc, H' D = some (.lst acc) ∧ RpA (fun a => a = D ∨ B a) H' acc ((l.take i).flatMap fun x => (m x).map (g x))
  have nw : ∀ a, (a = D ∨ B a) → B a ∨ H1 a = none := fun a q => q.elim (fun z => .inr (by rw [z]; exact hD)) .inl
  refine ⟨fun i k H' => k = l.length - i ∧ i ≤ l.length ∧ Pv i H', ⟨l.length, by simp, Nat.zero_le _, Ext.new hD, [], upd_same, by simp; exact .nil⟩, ?_⟩
  rintro i k' H2 ⟨rfl, hile, pv⟩
  have hGH := hG (fun a => a = D ∨ B a) H2 ⟨pv.1, nw⟩
  by_cases hi : i < l.length
  · refine .inr ⟨w.goes i H2 (by rw [List.length_map]; exact hi) hGH, Pv (i + 1), fun H' p' => ⟨l.length - (i + 1), by omega, rfl, hi, p'⟩, fun xv H3 y0 => ?_⟩
    have y := w.yields i H2 xv H3 (by rw [List.length_map]; exact hi) hGH y0
    obtain ⟨ex, acc, hacc, racc⟩ := pv
    have hx : (l.map f)[i]? = some (f l[i]) := by rw [List.getElem?_map, List.getElem?_eq_getElem hi]; rfl
    have inB : ∀ H', Ext H H' → (∃ o, H' D = some o) → InH (fun a => a = D ∨ B a) H' := fun H' e' o' b q => q.elim (fun z => z ▸ o') fun z => let ⟨o, q⟩ := S.inH b z; ⟨o, e' _ _ q⟩
    obtain ⟨e3, rx⟩ := hY (fun a => a = D ∨ B a) H2 i xv H3 (f l[i]) ⟨ex, nw⟩ (inB H2 (e1.trans ex) ⟨_, hacc⟩) y hx
    have e0 : Ext H H3 := (e1.trans ex).trans e3
    have S1 : Sto H0 B0 (fun a => a = D ∨ B a) (wipe σ vs) H3 (wipeG Γ vs) := (S.grow e0 hHD ⟨_, e3 _ _ hacc⟩).wipe vs
    obtain ⟨Γi, hg, hnoO, hi1, hin⟩ := turn l[i] (List.getElem_mem hi)
    intro Y' cy
    refine hg H0 B0 _ (wipe σ vs) H3 xv _ S1 rx (fun σ2 hl2 hk2 S2 => ⟨?_, ?_⟩) Y' cy
    · have z := wipe_same (vs := vs) hl2 fun k hk => hk2 k fun q => hk (hts k q)
      rw [z]
      refine wipe_same (wipe_length ..) fun k hk => wipe_out hk
    · refine iteT (B := Pv (i + 1) H3) ?_
      intro Z cz
      refine hi1 H0 B0 _ σ2 H3 _ S2 (fun J1 H4 e4 src1 => ?_) Z cz
      obtain ⟨G1, Y1, w1, hG1, hY1⟩ := src1.ex
      let Pw : Nat → Hp → Prop := fun j H' => Ext H1 H' ∧ Ext H H' ∧ Tr (fun a => a = D ∨ B a) H4 (fun a => a = D ∨ B a) H' ∧ ∃ acc, H' D = some (.lst acc) ∧ RpA (fun a => a = D ∨ B a) H' acc (((l.take i).flatMap fun x => (m x).map (g x)) ++ ((m l[i]).take j).map (g l[i]))
      have ex4 := (ex.trans e3).trans e4
      have e04 := e0.trans e4
      have base : Pw 0 H4 := ⟨ex4, e04, Tr.refl _ _, acc, e4 _ _ (e3 _ _ hacc), by simpa using (racc.ext e3).ext e4⟩
      refine ⟨fun j k H' => k = (m l[i]).length - j ∧ j ≤ (m l[i]).length ∧ Pw j H', ⟨(m l[i]).length, by simp, Nat.zero_le _, base⟩, ?_⟩
      rintro j k' H5 ⟨rfl, hjle, ex5, e05, tr5, acc5, hacc5, racc5⟩
      have hGH1 := hG1 _ H5 tr5
      by_cases hj : j < (m l[i]).length
      · refine .inr ⟨w1.goes j H5 (by rw [List.length_map]; exact hj) hGH1, Pw (j + 1), fun H' p' => ⟨(m l[i]).length - (j + 1), by omega, rfl, hj, p'⟩, fun yv H6 y1 => ?_⟩
        have y := w1.yields j H5 yv H6 (by rw [List.length_map]; exact hj) hGH1 y1
        have hy : ((m l[i]).map (f1 l[i]))[j]? = some (f1 l[i] (m l[i])[j]) := by rw [List.getElem?_map, List.getElem?_eq_getElem hj]; rfl
        obtain ⟨e6, ry⟩ := hY1 _ H5 j yv H6 _ tr5 (inB H5 e05 ⟨_, hacc5⟩) y hy
        obtain ⟨Γj, hg1, he⟩ := hin _ (List.getElem_mem hj)
        have S5 : Sto H0 B0 (fun a => a = D ∨ B a) σ2 H6 Γi :=
          S2.trNo hnoO ((e4.tr.trans tr5).trans e6.tr) (fun a o q => (e05.trans e6) _ _ (S.ex a o q)) (inB H6 (e05.trans e6) ⟨_, e6 _ _ hacc5⟩)
        have S6 := S5.wipe vs1
        intro Y2 cy2
        refine hg1 H0 B0 _ (wipe σ2 vs1) H6 yv _ S6 ry (fun σ3 hl3 hk3 S7 => ⟨?_, ?_⟩) Y2 cy2
        · have z := wipe_same (vs := vs1) hl3 fun k hk => hk3 k fun q => hk (hts1 k q)
          rw [z]
          refine wipe_same (wipe_length ..) fun k hk => wipe_out hk
        · refine iteT (B := Pw (j + 1) H6) (he H0 B0 _ σ3 H6 _ S7 fun zv H7 e7 rz => ?_)
          have h7 := e7 _ _ (e6 _ _ hacc5)
          have racc7 := (racc5.ext e6).ext e7
          have tr : Tr (fun a => a = D ∨ B a) H7 (fun a => a = D ∨ B a) (upd H7 D (.lst (acc5 ++ [zv]))) := ⟨fun a o h hb => by rw [upd_ne (fun z => hb (.inl z))]; exact h, fun a h => .inl h⟩
          refine ⟨acc5, h7, ?_, Ext.mut ((ex5.trans e6).trans e7) hD, Ext.mut ((e05.trans e6).trans e7) hHD, ((tr5.trans e6.tr).trans e7.tr).trans tr, acc5 ++ [zv], upd_same, ?_⟩
          · have h1 := racc5.length
            rw [List.length_append, fl, List.length_map, List.length_take] at h1
            have h2 := lenle i hi
            rw [sizeLine_eq]; omega
          · have tk : (m l[i]).take (j + 1) = (m l[i]).take j ++ [(m l[i])[j]] := by rw [List.take_add_one, List.getElem?_eq_getElem hj]; rfl
            rw [tk, List.map_append, ← List.append_assoc]
            exact (racc7.tr tr).snoc (rz.tr tr)
      · refine .inl ⟨?_, ex5, acc5, hacc5, ?_⟩
        · have z := w1.stops H5 hGH1
          rw [List.length_map] at z
          have : j = (m l[i]).length := by omega
          rw [this]; exact z
        · have : j = (m l[i]).length := by omega
          rw [this, List.take_length] at racc5
          have z := flat_take l (fun x => (m x).map (g x)) hi
          rw [z]; exact racc5
  · refine .inl ⟨?_, ?_⟩
    · have z := w.stops H2 hGH
      rw [List.length_map] at z
      have : i = l.length := by omega
      rw [this]; exact z
    · obtain ⟨ex, acc, hacc, racc⟩ := pv
      have : i = l.length := by omega
      rw [this, List.take_length] at racc
      exact k D H2 hHD (e1.trans ex) ⟨acc, hacc, racc⟩
end
end GL
end
/-! ## G9 -/
section
namespace GL
open PySem PySem.Spec PyProof.Rows L2
section
variable {c : Cp} {Γ Γ' Γ1 Γ2 : Gm} {e a b t elt tg iter : Expr} {es ifs : List Expr} {d x y z : D} {pos p p2 : Pos} {n : Str} {scope : Scope} {vs ts : List Nat} {E : En} {st : Stmt} {sts rest body : List Stmt}
/-! ### what may be put into a slot -/
def SlR (H0 : Hp) (B : Av) (σ : St) (H : Hp) (Γ : Gm) (v : V) : Sl → Prop
  | .any => True
  | .val d => Rp B H v d
  | .own o => ∃ b, v = .ref b ∧ B b ∧ H0 b = none ∧ RpO B H b o ∧ ∀ (i : Nat) (u : Ob), Γ[i]? = some (.own u) → σ[i]? ≠ some (some (.ref b))
theorem set_get_own {s : Sl} {i j : Nat} {o : Ob} (h : (Γ.set i s)[j]? = some (.own o)) : (i = j ∧ s = .own o) ∨ (i ≠ j ∧ Γ[j]? = some (.own o)) := by
  by_cases e : i = j
  · subst e
    rw [List.getElem?_set_self'] at h
    cases q : Γ[i]? with
    | none => rw [q] at h; cases h
    | some _ => rw [q] at h; cases h; exact .inl ⟨rfl, rfl⟩
  · rw [List.getElem?_set_ne e] at h; exact .inr ⟨e, h⟩
theorem Sto.set_slot {H0 : Hp} {B0 B : Av} {σ : St} {H : Hp} (S : Sto H0 B0 B σ H Γ) {v : V} {s : Sl} (r : SlR H0 B σ H Γ v s) (i : Nat) : Sto H0 B0 B (σ.set i (some v)) H (Γ.set i s) where
  ex := S.ex
  sub := S.sub
  old := S.old
  inH := S.inH
  len := by rw [List.length_set, List.length_set]; exact S.len
  val := fun j d' h => by
    by_cases e : i = j
    · subst e
      rw [List.getElem?_set_self' ] at h
      have hl : i < σ.length := by
        cases q : Γ[i]? with
        | none => rw [q] at h; cases h
        | some _ => rw [S.len]; exact (List.getElem?_eq_some_iff.mp q).1
      cases q : Γ[i]? with
      | none => rw [q] at h; cases h
      | some _ => rw [q] at h; cases h; exact ⟨v, List.getElem?_set_self hl, r⟩
    · rw [List.getElem?_set_ne e] at h
      obtain ⟨w, h1, h2⟩ := S.val j d' h
      exact ⟨w, by rw [List.getElem?_set_ne e]; exact h1, h2⟩
  own := fun j o h => by
    rcases set_get_own h with ⟨rfl, rfl⟩ | ⟨e, h⟩
    · obtain ⟨b, rfl, h1, h2, h3, _⟩ := r
      have hl : i < σ.length := by
        rw [S.len]
        have := (List.getElem?_eq_some_iff.mp h).1
        rwa [List.length_set] at this
      exact ⟨b, List.getElem?_set_self hl, h1, h2, h3⟩
    · obtain ⟨w, h1, h2⟩ := S.own j o h
      exact ⟨w, by rw [List.getElem?_set_ne e]; exact h1, h2⟩
  sep := fun j k o u h1 h2 h3 => by
    have hl : ∀ {j : Nat} {o : Ob}, (Γ.set i s)[j]? = some (.own o) → j < σ.length := fun {j o} h => by
      rw [S.len]
      have := (List.getElem?_eq_some_iff.mp h).1
      rwa [List.length_set] at this
    rcases set_get_own h1 with ⟨e1, q1⟩ | ⟨e1, q1⟩ <;> rcases set_get_own h2 with ⟨e2, q2⟩ | ⟨e2, q2⟩
    · exact e1.symm.trans e2
    · subst e1 q1
      obtain ⟨b, rfl, _, _, _, no⟩ := r
      rw [List.getElem?_set_self (hl h1), List.getElem?_set_ne e2] at h3
      exact absurd h3.symm (no k u q2)
    · subst e2 q2
      obtain ⟨b, rfl, _, _, _, no⟩ := r
      rw [List.getElem?_set_self (hl h2), List.getElem?_set_ne e1] at h3
      exact absurd h3 (no j o q1)
    · rw [List.getElem?_set_ne e1, List.getElem?_set_ne e2] at h3
      exact S.sep j k o u q1 q2 h3
/-- an expression whose value is put into a slot -/
def ES (c : Cp) (e : Expr) (Γ : Gm) (P : Sl → Gm → Prop) : Prop := ∀ (H0 : Hp) (B0 B : Av) (σ : St) (H : Hp) (Q : VK), Sto H0 B0 B σ H Γ →
  (∀ v H' B' s Γ', P s Γ' → Sto H0 B0 B' σ H' Γ' → Tr B H B' H' → SlR H0 B' σ H' Γ' v s → Q v H') → ∀ X, c.Is X → eOf X e σ H Q
/-- the same, pure -/
def ESp (c : Cp) (e : Expr) (Γ : Gm) (s : Sl) : Prop := ∀ (H0 : Hp) (B0 B : Av) (σ : St) (H : Hp) (Q : VK), Sto H0 B0 B σ H Γ →
  (∀ v H' B', Ext H H' → (∀ a, B a → B' a) → (∀ a, B' a → B a ∨ H a = none) → Sto H0 B0 B' σ H' Γ → SlR H0 B' σ H' Γ v s → (∀ o b, s = .own o → v = .ref b → H b = none) → Q v H') → ∀ X, c.Is X → eOf X e σ H Q
theorem EP.sp (h : EP c e Γ d) : ESp c e Γ (.val d) := fun H0 B0 B σ H Q S k X cx => h H0 B0 B σ H Q S (fun v H' x r => k v H' B x (fun _ q => q) (fun _ q => .inl q) (S.ext x) r (fun _ _ z => nomatch z)) X cx
theorem EO.sp {o : Ob} (h : EO c e Γ o) : ESp c e Γ (.own o) := fun H0 B0 B σ H Q S k X cx => h H0 B0 B σ H Q S (fun p H' hp x r => k (.ref p) H' (fun a => a = p ∨ B a) x (fun _ q => .inr q) (fun a q => q.elim (fun z => .inr (z ▸ hp)) .inl)
  (S.grow x hp r.some) ⟨p, rfl, .inl rfl, (by
    cases q : H0 p with
    | none => rfl
    | some o => rw [S.ex p o q] at hp; cases hp), r, fun i u h1 h2 => by
      obtain ⟨b, h3, h4, _⟩ := S.own i u h1
      rw [h2] at h3; cases h3
      obtain ⟨o, q⟩ := S.inH p h4
      rw [hp] at q; cases q⟩ (fun _ b _ z => by cases z; exact hp)) X cx
theorem ESp.s {s : Sl} (h : ESp c e Γ s) : ES c e Γ (fun s' Γ' => s' = s ∧ Γ' = Γ) := fun H0 B0 B σ H Q S k X cx => h H0 B0 B σ H Q S (fun v H' B' x sub nw S' r _ => k v H' B' s Γ ⟨rfl, rfl⟩ S' ⟨fun a o h _ => x a o h, nw⟩ r) X cx
theorem EX.s {P : D → Gm → Prop} (h : EX c e Γ P) : ES c e Γ (fun s Γ' => ∃ d, s = .val d ∧ P d Γ') := fun H0 B0 B σ H Q S k X cx => h H0 B0 B σ H Q S (fun v H' d Γ' pp S' t r => k v H' B (.val d) Γ' ⟨d, rfl, pp⟩ S' t r) X cx

/-! ### blocks -/
theorem bx_nil (h : E.nx Γ) : BX c [] Γ E := fun H0 B0 B σ H Dn S L X cx => go_b pss_nil (L.nx B σ H Γ S (Tr.refl B H) h)
theorem bx_cons (h : SX c st Γ { E with nx := fun Γ' => BX c rest Γ' E }) : BX c (st :: rest) Γ E := fun H0 B0 B σ H Dn S L X cx =>
  go_b (pss_cons (ps_of X st) (pb_of X rest)) (show sOf X st { Dn with nx := bOf X rest Dn } σ H from h H0 B0 B σ H { Dn with nx := bOf X rest Dn } S ⟨fun B' σ' H' Γ' S' t q => q H0 B0 B' σ' H' Dn S' (L.tr t) X cx, L.rt, L.ro, L.bk, L.ct⟩ X cx)
/-- the end may say less -/
theorem SX.mono {E' : En} (h : SX c st Γ E') (h1 : ∀ Γ', E'.nx Γ' → E.nx Γ') (h2 : ∀ Γ' d, E'.rt Γ' d → E.rt Γ' d) (h3 : ∀ Γ' d, E'.ro Γ' d → E.ro Γ' d) (h4 : ∀ Γ', E'.bk Γ' → E.bk Γ') (h5 : ∀ Γ', E'.ct Γ' → E.ct Γ') : SX c st Γ E := fun H0 B0 B σ H Dn S L =>
  h H0 B0 B σ H Dn S ⟨fun B' σ' H' Γ' S' t q => L.nx B' σ' H' Γ' S' t (h1 _ q), fun B' σ' H' Γ' v d S' t r q => L.rt B' σ' H' Γ' v d S' t r (h2 _ _ q), fun B' σ' H' Γ' p o S' t g1 g2 r q => L.ro B' σ' H' Γ' p o S' t g1 g2 r (h3 _ _ q), fun B' σ' H' Γ' S' t q => L.bk B' σ' H' Γ' S' t (h4 _ q), fun B' σ' H' Γ' S' t q => L.ct B' σ' H' Γ' S' t (h5 _ q)⟩
theorem BX.mono {E' : En} (h : BX c sts Γ E') (h1 : ∀ Γ', E'.nx Γ' → E.nx Γ') (h2 : ∀ Γ' d, E'.rt Γ' d → E.rt Γ' d) (h3 : ∀ Γ' d, E'.ro Γ' d → E.ro Γ' d) (h4 : ∀ Γ', E'.bk Γ' → E.bk Γ') (h5 : ∀ Γ', E'.ct Γ' → E.ct Γ') : BX c sts Γ E := fun H0 B0 B σ H Dn S L =>
  h H0 B0 B σ H Dn S ⟨fun B' σ' H' Γ' S' t q => L.nx B' σ' H' Γ' S' t (h1 _ q), fun B' σ' H' Γ' v d S' t r q => L.rt B' σ' H' Γ' v d S' t r (h2 _ _ q), fun B' σ' H' Γ' p o S' t g1 g2 r q => L.ro B' σ' H' Γ' p o S' t g1 g2 r (h3 _ _ q), fun B' σ' H' Γ' S' t q => L.bk B' σ' H' Γ' S' t (h4 _ q), fun B' σ' H' Γ' S' t q => L.ct B' σ' H' Γ' S' t (h5 _ q)⟩
/-- what lies behind an if, said once -/
theorem bx_cut (M : Gm → Prop) (h : SX c st Γ { E with nx := M }) (k : ∀ Γ', M Γ' → BX c rest Γ' E) : BX c (st :: rest) Γ E := bx_cons (h.mono (fun Γ' q => k Γ' q) (fun _ _ q => q) (fun _ _ q => q) (fun _ q => q) (fun _ q => q))
/-! ### slots may be forgotten, an own list may be taken for a value -/
inductive SlW : Sl → Sl → Prop
  | refl (s : Sl) : SlW s s
  | any (s : Sl) : SlW s .any
  | frz (ds : List D) : SlW (.own (.lst ds)) (.val (.list ds))
def GmW : Gm → Gm → Prop
  | [], [] => True
  | s :: Γ, s' :: Γ' => SlW s s' ∧ GmW Γ Γ'
  | _, _ => False
theorem GmW.refl : ∀ Γ : Gm, GmW Γ Γ
  | [] => trivial
  | s :: Γ => ⟨.refl s, GmW.refl Γ⟩
theorem GmW.get : ∀ {Γ Γ' : Gm} {i : Nat} {s' : Sl}, GmW Γ Γ' → Γ'[i]? = some s' → ∃ s, Γ[i]? = some s ∧ SlW s s'
  | [], [], i, s', _, h => by cases h
  | [], _ :: _, _, _, w, _ => w.elim
  | _ :: _, [], _, _, w, _ => w.elim
  | s :: Γ, s2 :: Γ', 0, s', w, h => by cases h; exact ⟨s, rfl, w.1⟩
  | s :: Γ, s2 :: Γ', i + 1, s', w, h => GmW.get (i := i) w.2 h
theorem GmW.length : ∀ {Γ Γ' : Gm}, GmW Γ Γ' → Γ.length = Γ'.length
  | [], [], _ => rfl
  | [], _ :: _, w => w.elim
  | _ :: _, [], w => w.elim
  | s :: Γ, s2 :: Γ', w => by rw [List.length_cons, List.length_cons, GmW.length w.2]
/-- the addresses that are still one's own -/
theorem Sto.weak {H0 : Hp} {B0 B : Av} {σ : St} {H : Hp} (S : Sto H0 B0 B σ H Γ) (w : GmW Γ Γ') : ∃ B', Sto H0 B0 B' σ H Γ' ∧ ∀ a, B' a → B a := by
  refine ⟨fun a => B0 a ∨ (B a ∧ ∃ (i : Nat) (o : Ob), Γ'[i]? = some (.own o) ∧ σ[i]? = some (some (.ref a))), ?_, fun a q => q.elim (S.sub a) And.left⟩
  have sb : ∀ a, (B0 a ∨ (B a ∧ ∃ (i : Nat) (o : Ob), Γ'[i]? = some (.own o) ∧ σ[i]? = some (some (.ref a)))) → B a := fun a q => q.elim (S.sub a) And.left
  have up : ∀ {i : Nat} {o : Ob}, Γ'[i]? = some (.own o) → Γ[i]? = some (.own o) := fun {i o} h => by
    obtain ⟨s, h1, h2⟩ := w.get h
    cases h2
    exact h1
  exact {
    ex := S.ex
    sub := fun b h => .inl h
    old := S.old
    inH := fun b q => S.inH b (sb b q)
    len := by rw [S.len, w.length]
    val := fun i d h => by
      obtain ⟨s, h1, h2⟩ := w.get h
      cases h2 with
      | refl =>
        obtain ⟨v, h3, h4⟩ := S.val i d h1
        exact ⟨v, h3, h4.sub sb⟩
      | frz ds =>
        obtain ⟨q, h3, h4, h5, xs, h6, h7⟩ := S.own i _ h1
        refine ⟨_, h3, .lst (fun z => ?_) h6 (h7.sub sb)⟩
        rcases z with z | ⟨_, j, o, g1, g2⟩
        · obtain ⟨o, g⟩ := S.old q z
          rw [h5] at g; cases g
        · have e := S.sep i j _ _ h1 (up g1) (h3.trans g2.symm)
          subst e
          rw [h] at g1; cases g1
    own := fun i o h => by
      obtain ⟨q, h3, h4, h5, h6⟩ := S.own i o (up h)
      exact ⟨q, h3, .inr ⟨h4, i, o, h, h3⟩, h5, h6.to (Tr.sub sb) rfl⟩
    sep := fun i j o u h1 h2 h3 => S.sep i j o u (up h1) (up h2) h3 }
theorem bx_weak (w : GmW Γ Γ') (h : BX c sts Γ' E) : BX c sts Γ E := fun H0 B0 B σ H Dn S L X cx => by
  obtain ⟨B', S', sb⟩ := S.weak w
  exact h H0 B0 B' σ H Dn S' (L.tr (Tr.sub sb)) X cx
/-! ### stores -/
theorem sx_set {i : Nat} {P : Sl → Gm → Prop} (hN : c.N[i]? = some n) (hx : Loc c.sc n) (hf : c.fn n = true ∨ c.sc.names.lookup n = some .local) (h : ES c e Γ P) (k : ∀ s Γ', P s Γ' → E.nx (Γ'.set i s))
    (hs : ∀ env : Env, env.scope = c.sc → swapsWith e (some (.Name n p)) pos.line env = pure false := by intro _ _; rfl) : SX c (.Assign [.Name n p] e pos) Γ E := fun H0 B0 B σ H Dn S L X cx =>
  go_s (ps_set (by rw [cx.N]; exact cx.nd) (by rw [cx.N]; exact hN) (by rw [cx.sc]; exact hx) (pe_of X e) (hs X.env cx.sc) (by rw [cx.fn, cx.sc]; exact hf)) (h H0 B0 B σ H _ S (fun v H' B' s Γ' pp S' t r => L.nx B' _ H' _ (S'.set_slot r i) t (k s Γ' pp)) X cx)
theorem sw_cell {gs : List Comprehension} {l : Nat} (hk : c.sc.names.lookup n ≠ some .local) : ∀ env : Env, env.scope = c.sc → swapsWith (.ListComp elt gs scope p2) (some (.Name n p)) l env = pure false := fun env he => by
  have z : (env.kindOf n == some NameKind.local) = false := by
    have : env.kindOf n = c.sc.names.lookup n := by show env.scope.names.lookup n = _; rw [he]
    rw [this]
    cases q : c.sc.names.lookup n with
    | none => rfl
    | some k => cases k <;> first | rfl | exact absurd q hk
  unfold swapsWith
  simp only [z, Bool.and_false, Bool.false_and]
/-- name = [..], the name a local -/
theorem sx_lc {own : List (Str × Nat)} {i : Nat} {rs : List D} (hN : c.N[i]? = some n) (hx : c.sc.names.lookup n = some .local) (hk : c.sc.kind = .function) (hl : (p.line == p2.line) = true) (ha : (scope.names.any fun (m, k) => m == n && (k == .local || k == .cell)) = false)
    (h : LC c elt tg iter ifs scope (own.map (·.2)) Γ rs) (hok : blkC c.N c.sc scope own = true) (k : E.nx (Γ.set i (.own (.lst rs)))) (hs : ∀ (env : Env) x, foldedSetIterable iter env x = pure x := by intro _ _; rfl) :
    SX c (.Assign [.Name n p] (.ListComp elt [⟨tg, iter, ifs, 0⟩] scope p2) pos) Γ E := fun H0 B0 B σ H Dn S L X cx =>
  go_s (ps_setLc (own := own) cx.calm (by rw [cx.N]; exact cx.nd) (by rw [cx.N]; exact hN) (by rw [cx.sc]; exact hx) (sw_true (by rw [cx.sc]; exact hk) (by rw [cx.sc]; exact hx) hl ha) (pi_of X tg iter) (by rw [cx.N, cx.sc]; exact blkOk_by hok) (fun _ _ _ _ _ => pg_all cx.blk) (fun _ _ _ _ _ => pts_all cx.blk) (fun _ _ _ _ _ => pe_all cx.blk) (hs X.env))
    (h H0 B0 B σ H _ S (fun p' H' hp x r => by
      have S' := S.grow x hp r.some
      refine L.nx _ _ H' _ (S'.set_slot (s := .own (.lst rs)) (v := .ref p') ⟨p', rfl, .inl rfl, ?_, r, fun i u h1 h2 => ?_⟩ i) ⟨fun a o h _ => x a o h, fun a q => q.elim (fun z => .inr (z ▸ hp)) .inl⟩ k
      · cases q : H0 p' with
        | none => rfl
        | some o => rw [S.ex p' o q] at hp; cases hp
      · obtain ⟨b, h3, h4, _⟩ := S.own i u h1
        rw [h2] at h3; cases h3
        obtain ⟨o, q⟩ := S.inH p' h4
        rw [hp] at q; cases q) X cx)
theorem sx_lc2 {own : List (Str × Nat)} {i : Nat} {rs : List D} {tg1 iter1 : Expr} {vs1 : List Nat} (hN : c.N[i]? = some n) (hx : c.sc.names.lookup n = some .local) (hk : c.sc.kind = .function) (hl : (p.line == p2.line) = true) (ha : (scope.names.any fun (m, k) => m == n && (k == .local || k == .cell)) = false)
    (h : LC2 c elt tg iter tg1 iter1 scope (own.map (·.2)) vs1 Γ rs) (hok : blkC c.N c.sc scope own = true) (hv : ∀ i ∈ vs1, i ∈ own.map (·.2)) (k : E.nx (Γ.set i (.own (.lst rs)))) (hs : ∀ (env : Env) x, foldedSetIterable iter env x = pure x := by intro _ _; rfl) (hs1 : ∀ (env : Env) x, foldedSetIterable iter1 env x = pure x := by intro _ _; rfl) :
    SX c (.Assign [.Name n p] (.ListComp elt [⟨tg, iter, [], 0⟩, ⟨tg1, iter1, [], 0⟩] scope p2) pos) Γ E := fun H0 B0 B σ H Dn S L X cx =>
  go_s (ps_setLc2 (own := own) (vs1 := vs1) cx.calm (by rw [cx.N]; exact cx.nd) (by rw [cx.N]; exact hN) (by rw [cx.sc]; exact hx) (sw_true (by rw [cx.sc]; exact hk) (by rw [cx.sc]; exact hx) hl ha) (pi_of X tg iter) (by rw [cx.N, cx.sc]; exact blkOk_by hok) hv (fun _ _ _ _ _ => pg_all cx.blk) (fun _ _ _ _ _ => pts_nil) (fun _ _ _ _ _ => pi_all cx.blk) (fun _ _ _ _ _ => pg_all cx.blk) (fun _ _ _ _ _ => pts_nil) (fun _ _ _ _ _ => pe_all cx.blk) (hs X.env) hs1)
    (h H0 B0 B σ H _ S (fun p' H' hp x r => by
      have S' := S.grow x hp r.some
      refine L.nx _ _ H' _ (S'.set_slot (s := .own (.lst rs)) (v := .ref p') ⟨p', rfl, .inl rfl, ?_, r, fun i u h1 h2 => ?_⟩ i) ⟨fun a o h _ => x a o h, fun a q => q.elim (fun z => .inr (z ▸ hp)) .inl⟩ k
      · cases q : H0 p' with
        | none => rfl
        | some o => rw [S.ex p' o q] at hp; cases hp
      · obtain ⟨b, h3, h4, _⟩ := S.own i u h1
        rw [h2] at h3; cases h3
        obtain ⟨o, q⟩ := S.inH p' h4
        rw [hp] at q; cases q) X cx)
/-- target = e -/
theorem sx_asg {P : D → Gm → Prop} (h : EX c e Γ P) (k : ∀ d Γ1, P d Γ1 → ∃ ts Γ', GT c tg ts Γ1 d Γ' ∧ E.nx Γ') (hs : ∀ env : Env, swapsWithSole [tg] e pos.line env = pure false := by intro _; rfl) (hw : ∀ env : Env, swappedStores [tg] e env = pure none := by intro _; rfl)
    (h1 : ∀ env : Env, (assignEach [tg] env).map (·.2) = [assign tg env] := by intro _; rfl) : SX c (.Assign [tg] e pos) Γ E := fun H0 B0 B σ H Dn S L X cx =>
  go_s (ps_asg (pe_of X e) (pg_of X tg) (hs X.env) (hw X.env) (h1 X.env)) (h H0 B0 B σ H _ S (fun v H' d Γ1 pp S' t r => by
    obtain ⟨ts, Γ', hg, hn⟩ := k d Γ1 pp
    exact hg H0 B0 B σ H' v _ S' r (fun σ' _ _ S'' => L.nx B σ' H' Γ' S'' t hn) X cx) X cx)
/-- a, b = e1, e2, the names local -/
theorem Sto.slr_ext {H0 : Hp} {B0 B B' : Av} {σ : St} {H H' : Hp} (S : Sto H0 B0 B σ H Γ) {v : V} {s : Sl} (r : SlR H0 B σ H Γ v s) (x : Ext H H') (sub : ∀ a, B a → B' a) (nw : ∀ a, B' a → B a ∨ H a = none) : SlR H0 B' σ H' Γ v s := by
  cases s with
  | any => trivial
  | val d => exact Rp.tr ⟨fun a o h _ => x a o h, nw⟩ r
  | own o =>
    obtain ⟨b, h1, h2, h3, h4, h5⟩ := r
    obtain ⟨u, hu⟩ := h4.some
    exact ⟨b, h1, sub b h2, h3, h4.to ⟨fun a o h _ => x a o h, nw⟩ ((x _ _ hu).trans hu.symm), h5⟩
theorem sx_par {i j : Nat} {n1 n2 : Str} {p1 pt : Pos} {kt k2 : Nat} {pt2 : Pos} {P : Sl → Gm → Prop} (hij : i ≠ j) (hN : c.N[i]? = some n1) (hN2 : c.N[j]? = some n2) (hx : c.sc.names.lookup n1 = some .local) (hx2 : c.sc.names.lookup n2 = some .local)
    (ha : ES c a Γ P) (hb : ∀ s Γ1, P s Γ1 → ∃ s2, ESp c b Γ1 s2 ∧ E.nx ((Γ1.set i s).set j s2))
    (hw : ∀ env : Env, env.scope = c.sc → swappedStores [.Tuple [.Name n1 p1, .Name n2 p2] kt pt] (.Tuple [a, b] k2 pt2) env = pure (some [n1, n2])) (hs : ∀ env : Env, swapsWithSole [.Tuple [.Name n1 p1, .Name n2 p2] kt pt] (.Tuple [a, b] k2 pt2) pos.line env = pure false := by intro _; rfl)
    (he : ∀ env : Env, starEach [a, b] env = (false, eval a env) :: starEach [b] env := by intro _; rfl) (he2 : ∀ env : Env, starEach [b] env = (false, eval b env) :: starEach [] env := by intro _; rfl) :
    SX c (.Assign [.Tuple [.Name n1 p1, .Name n2 p2] kt pt] (.Tuple [a, b] k2 pt2) pos) Γ E := fun H0 B0 B σ H Dn S L X cx =>
  go_s (ps_par cx.calm (by rw [cx.N]; exact cx.nd) (by rw [cx.N]; exact hN) (by rw [cx.N]; exact hN2) hij (by rw [cx.sc]; exact hx) (by rw [cx.sc]; exact hx2) (pa_cons (pe_of X a) (pa_cons (pe_of X b) pa_nil (he2 X.env)) (he X.env)) (hw X.env cx.sc) (hs X.env))
    (ha H0 B0 B σ H _ S (fun v H1 B1 s Γ1 pp S1 t1 r1 => by
      obtain ⟨s2, hb2, hn⟩ := hb s Γ1 pp
      refine hb2 H0 B0 B1 σ H1 _ S1 (fun w H2 B2 x2 sub nw S2 r2 fr => ?_) X cx
      refine ⟨v, w, rfl, ?_⟩
      have r1' := S1.slr_ext r1 x2 sub nw
      have S3 := S2.set_slot r1' i
      have r2' : SlR H0 B2 (σ.set i (some v)) H2 (Γ1.set i s) w s2 := by
        cases s2 with
        | any => trivial
        | val d => exact r2
        | own u =>
          obtain ⟨q, h1, h2, h3, h4, h5⟩ := r2
          refine ⟨q, h1, h2, h3, h4, fun m o' g1 g2 => ?_⟩
          rcases set_get_own g1 with ⟨rfl, rfl⟩ | ⟨hne, g1'⟩
          · obtain ⟨q1, f1, f2, f3, f4, f5⟩ := r1
            have hl : i < σ.length := by
              rw [S1.len]
              have := (List.getElem?_eq_some_iff.mp g1).1
              rwa [List.length_set] at this
            rw [List.getElem?_set_self hl, f1] at g2
            have e : q1 = q := by cases g2; rfl
            have z := fr u q rfl h1
            obtain ⟨u0, hu0⟩ := f4.some
            rw [e, z] at hu0
            cases hu0
          · rw [List.getElem?_set_ne hne] at g2
            exact h5 m o' g1' g2
      exact L.nx B2 _ H2 _ (S3.set_slot r2' j) (t1.trans ⟨fun a o h _ => x2 a o h, nw⟩) hn) X cx)
end
end GL
end
/-! ## G10 -/
section
namespace GL
open PySem PySem.Spec PyProof.Rows L2
section
variable {c : Cp} {Γ Γ' Γ1 Γ2 : Gm} {e a b t elt tg iter ix : Expr} {es ifs : List Expr} {d x y z : D} {pos p p2 apos : Pos} {n : Str} {scope : Scope} {vs ts : List Nat} {E : En} {st : Stmt} {sts rest body orelse : List Stmt}
/-! ### an own object changes -/
theorem Sto.mutate {H0 : Hp} {B0 B : Av} {σ : St} {H : Hp} (S : Sto H0 B0 B σ H Γ) {i : Nat} {o : Ob} (h : Γ[i]? = some (.own o)) {b : Addr} (hb : σ[i]? = some (some (.ref b))) {u : HO} {o' : Ob} (r : RpO B (upd H b u) b o') : Sto H0 B0 B σ (upd H b u) (Γ.set i (.own o')) ∧ Tr B H B (upd H b u) := by
  obtain ⟨q, h1, h2, h3, h4⟩ := S.own i o h
  rw [hb] at h1
  have e : q = b := by cases h1; rfl
  subst e
  have tr : Tr B H B (upd H q u) := ⟨fun a o h hn => by rw [upd_ne (fun z => hn (by rw [z]; exact h2))]; exact h, fun a h => .inl h⟩
  refine ⟨?_, tr⟩
  exact {
    ex := fun a o hh => by rw [upd_ne (ne_of_none hh h3)]; exact S.ex a o hh
    sub := S.sub
    old := S.old
    inH := fun m hm => by
      by_cases e : m = q
      · exact ⟨u, by rw [e]; exact upd_same⟩
      · obtain ⟨w, hw⟩ := S.inH m hm
        exact ⟨w, by rw [upd_ne e]; exact hw⟩
    len := by rw [List.length_set]; exact S.len
    val := fun j d hj => by
      by_cases e : i = j
      · subst e
        rw [List.getElem?_set_self'] at hj
        cases q : Γ[i]? with
        | none => rw [q] at hj; cases hj
        | some _ => rw [q] at hj; cases hj
      · rw [List.getElem?_set_ne e] at hj
        obtain ⟨v, g1, g2⟩ := S.val j d hj
        exact ⟨v, g1, g2.tr tr⟩
    own := fun j w hj => by
      rcases set_get_own hj with ⟨rfl, e⟩ | ⟨hne, hj⟩
      · cases e
        exact ⟨q, hb, h2, h3, r⟩
      · obtain ⟨m, g1, g2, g3, g4⟩ := S.own j w hj
        have ne : m ≠ q := fun e => hne (S.sep i j o w h hj (by rw [hb, g1, e]))
        exact ⟨m, g1, g2, g3, g4.to tr (upd_ne ne)⟩
    sep := fun j k w1 w2 g1 g2 g3 => by
      have f : ∀ {j : Nat} {w : Ob}, (Γ.set i (.own o'))[j]? = some (.own w) → ∃ w', Γ[j]? = some (.own w') := fun {j w} g => by
        rcases set_get_own g with ⟨rfl, _⟩ | ⟨_, g⟩
        · exact ⟨o, h⟩
        · exact ⟨w, g⟩
      obtain ⟨w1', f1⟩ := f g1
      obtain ⟨w2', f2⟩ := f g2
      exact S.sep j k w1' w2' f1 f2 g3 }
theorem RpA.off {B : Av} {H : Hp} {b : Addr} {u : HO} {vs : List V} {ds : List D} (r : RpA B H vs ds) (hb : B b) : RpA B (upd H b u) vs ds := r.tr ⟨fun a o h hn => by rw [upd_ne (fun z => hn (by rw [z]; exact hb))]; exact h, fun a h => .inl h⟩
theorem Rp.off {B : Av} {H : Hp} {b : Addr} {u : HO} {v : V} {d : D} (r : Rp B H v d) (hb : B b) : Rp B (upd H b u) v d := r.tr ⟨fun a o h hn => by rw [upd_ne (fun z => hn (by rw [z]; exact hb))]; exact h, fun a h => .inl h⟩
theorem KvR.off {κ κ' : Type} {f : κ → κ'} {B : Av} {H : Hp} {b : Addr} {u : HO} {vs : List (κ × D)} {ds : List (κ' × V)} (r : KvR f B H vs ds) (hb : B b) : KvR f B (upd H b u) vs ds := r.tr ⟨fun a o h hn => by rw [upd_ne (fun z => hn (by rw [z]; exact hb))]; exact h, fun a h => .inl h⟩
/-- own[i] = e -/
theorem sx_sub {s j : Nat} {i : Int} {ds : List D} (hN : c.N[s]? = some n) (hv : Vis c.sc n) (hg : Γ[s]? = some (.own (.lst ds))) (he : EP c e Γ d) (hi : EW c ix Γ (.int i)) (hij : i = (j : Int)) (hj : j < ds.length) (k : E.nx (Γ.set s (.own (.lst (ds.set j d)))))
    (hp : ∀ X to ti, PE X (.Name n p) to → PE X ix ti → PG X (.Subscript (.Name n p) ix p2) (gSub to ti rSetL) := by exact fun X to ti h1 h2 => pg_sub h1 h2 set_list)
    (hs : ∀ env : Env, swapsWithSole [.Subscript (.Name n p) ix p2] e pos.line env = pure false := by intro _; rfl) (hw : ∀ env : Env, swappedStores [.Subscript (.Name n p) ix p2] e env = pure none := by intro _; rfl)
    (h1 : ∀ env : Env, (assignEach [.Subscript (.Name n p) ix p2] env).map (·.2) = [assign (.Subscript (.Name n p) ix p2) env] := by intro _; rfl) (hd : (n == ("__debug__" : Str)) = false := by decide) (hcd : (n == ("__classdict__" : Str)) = false := by decide) : SX c (.Assign [.Subscript (.Name n p) ix p2] e pos) Γ E := fun H0 B0 B σ H Dn S L X cx =>
  go_s (ps_asg (pe_of X e) (hp X _ _ (pe_var (by rw [cx.N]; exact hN) (by rw [cx.sc]; exact hv) hd hcd) (pe_of X ix)) (hs X.env) (hw X.env) (h1 X.env)) (he H0 B0 B σ H _ S (fun v H1 e1 r1 => by
    obtain ⟨q, f1, f2, f3, xs, f4, f5⟩ := S.own s _ hg
    refine ⟨.ref q, f1, hi H0 B0 B σ H1 _ (S.ext e1) (fun w H2 e2 r2 => ?_) X cx⟩
    cases r2
    have f4' := e2 _ _ (e1 _ _ f4)
    have hxs : xs.length = ds.length := f5.length
    refine ⟨q, xs, i, j, rfl, rfl, f4', ?_, ?_⟩
    · unfold ixN
      rw [if_pos (by omega), if_pos (by omega), hij]; simp
    · have S2 := S.ext (e1.trans e2)
      obtain ⟨S3, t3⟩ := S2.mutate hg f1 (u := .lst (xs.set j v)) (o' := .lst (ds.set j d)) ⟨_, upd_same, ((((f5.ext e1).ext e2).off f2).set ((r1.ext e2).off f2) j)⟩
      exact L.nx B σ _ _ S3 ((e1.trans e2).tr.trans t3) k) X cx)
/-! ### dicts -/
theorem valV_kv {κ κ' : Type} [DecidableEq κ] [DecidableEq κ'] {f : κ → κ'} (inj : ∀ a b, f a = f b → a = b) {B : Av} {H : Hp} : ∀ {kvs : List (κ × D)} {kws : List (κ' × V)}, KvR f B H kvs kws → ∀ k : κ, (valV kws (f k) = none ∧ (kvs.find? fun z => decide (z.1 = k)) = none) ∨ ∃ v d, valV kws (f k) = some v ∧ (kvs.find? fun z => decide (z.1 = k)) = some (k, d) ∧ Rp B H v d
  | _, _, .nil, k => .inl ⟨rfl, rfl⟩
  | _, _, .cons (k := k1) (d := d1) (v := v1) r t, k => by
    by_cases e : k1 = k
    · subst e
      exact .inr ⟨v1, d1, valV_pos rfl, by simp, r⟩
    · rcases valV_kv inj t k with ⟨h1, h2⟩ | ⟨v, d, h1, h2, h3⟩
      · exact .inl ⟨by rw [valV_neg (fun z => e (inj _ _ z))]; exact h1, by rw [List.find?_cons, decide_eq_false e]; exact h2⟩
      · exact .inr ⟨v, d, by rw [valV_neg (fun z => e (inj _ _ z))]; exact h1, by rw [List.find?_cons, decide_eq_false e]; exact h2, h3⟩
def lookD {κ : Type} [DecidableEq κ] (kvs : List (κ × D)) (k : κ) : Option D := (kvs.find? fun z => decide (z.1 = k)).map (·.2)
theorem kI_inj : ∀ a b : Int, kI a = kI b → a = b := fun a b h => Sum.inl.inj h
theorem KvR.length {κ κ' : Type} {f : κ → κ'} {B : Av} {H : Hp} : ∀ {kvs : List (κ × D)} {kws : List (κ' × V)}, KvR f B H kvs kws → kvs.length = kws.length
  | _, _, .nil => rfl
  | _, _, .cons _ t => by rw [List.length_cons, List.length_cons, KvR.length t]
theorem KvR.snoc {κ κ' : Type} {f : κ → κ'} {B : Av} {H : Hp} {k : κ} {d : D} {v : V} (q : Rp B H v d) : ∀ {kvs : List (κ × D)} {kws : List (κ' × V)}, KvR f B H kvs kws → KvR f B H (kvs ++ [(k, d)]) (kws ++ [(f k, v)])
  | _, _, .nil => .cons q .nil
  | _, _, .cons r t => .cons r (KvR.snoc q t)
theorem putK_new {κ κ' : Type} [DecidableEq κ] [DecidableEq κ'] {f : κ → κ'} (inj : ∀ a b, f a = f b → a = b) {B : Av} {H : Hp} {kvs : List (κ × D)} {kws : List (κ' × V)} (r : KvR f B H kvs kws) {k : κ} (h : lookD kvs k = none) (v : V) : putK kws (f k) v = kws ++ [(f k, v)] := by
  have hv : valV kws (f k) = none := by
    rcases valV_kv inj r k with ⟨h1, _⟩ | ⟨v, d, _, h2, _⟩
    · exact h1
    · unfold lookD at h; rw [h2] at h; cases h
  unfold putK
  rw [valV_any, hv]
  rfl
/-- a key: its value in V, its data -/
theorem ep_dget {s : Nat} {kvs : List (Int × D)} {i : Int} (hN : c.N[s]? = some n) (hv : Vis c.sc n) (hg : Γ[s]? = some (.own (.dK kvs))) (hi : EP c ix Γ (.int i)) (hl : lookD kvs i = some d) (hs : NoSl ix := by exact fun _ _ => rfl) (hd : (n == ("__debug__" : Str)) = false := by decide) (hcd : (n == ("__classdict__" : Str)) = false := by decide) : EP c (.Subscript (.Name n p) ix pos) Γ d := fun H0 B0 B σ H Q S k X cx =>
  go_e (pe_dget cx.hu (pe_var (by rw [cx.N]; exact hN) (by rw [cx.sc]; exact hv) hd hcd) (pe_of X ix) hs) (by
    obtain ⟨q, f1, f2, f3, kws, f4, f5⟩ := S.own s _ hg
    refine ⟨.ref q, f1, hi H0 B0 B σ H _ S (fun w H2 e2 r2 => ?_) X cx⟩
    cases r2
    rcases valV_kv kI_inj f5 i with ⟨_, h2⟩ | ⟨v, d', h1, h2, h3⟩
    · unfold lookD at hl; rw [h2] at hl; cases hl
    · unfold lookD at hl; rw [h2] at hl; cases hl
      exact ⟨q, v, rfl, by rw [← h1]; exact DGet.k (k := Sum.inl i) (e2 _ _ f4), k v H2 e2 (h3.ext e2)⟩)
theorem ep_dgetT {s : Nat} {kvs : List (List Int × D)} {i : List Int} (hN : c.N[s]? = some n) (hv : Vis c.sc n) (hg : Γ[s]? = some (.own (.dT kvs))) (hi : EP c ix Γ (.tup false (i.map .int))) (hl : lookD kvs i = some d) (hs : NoSl ix := by exact fun _ _ => rfl) (hd : (n == ("__debug__" : Str)) = false := by decide) (hcd : (n == ("__classdict__" : Str)) = false := by decide) : EP c (.Subscript (.Name n p) ix pos) Γ d := fun H0 B0 B σ H Q S k X cx =>
  go_e (pe_dget cx.hu (pe_var (by rw [cx.N]; exact hN) (by rw [cx.sc]; exact hv) hd hcd) (pe_of X ix) hs) (by
    obtain ⟨q, f1, f2, f3, kws, f4, f5⟩ := S.own s _ hg
    refine ⟨.ref q, f1, hi H0 B0 B σ H _ S (fun w H2 e2 r2 => ?_) X cx⟩
    cases r2 with
    | @tup _ q2 _ _ hb ht r =>
      rw [r.map_int] at ht
      have ht' : H2 q2 = some (.tup ((kT i).map kV)) := by rw [kT_V]; exact ht
      rcases valV_kv (f := kT) (fun _ _ => kT_inj) f5 i with ⟨_, h2⟩ | ⟨v, d', h1, h2, h3⟩
      · unfold lookD at hl; rw [h2] at hl; cases hl
      · unfold lookD at hl; rw [h2] at hl; cases hl
        exact ⟨q, v, rfl, by rw [← h1]; exact DGet.t (e2 _ _ f4) ht', k v H2 e2 (h3.ext e2)⟩)
theorem tp_din {s : Nat} {kvs : List (Int × D)} {i : Int} (hN : c.N[s]? = some n) (hv : Vis c.sc n) (hg : Γ[s]? = some (.own (.dK kvs))) (hi : EP c ix Γ (.int i)) (hd : (n == ("__debug__" : Str)) = false := by decide) (hcd : (n == ("__classdict__" : Str)) = false := by decide) : TP c (.Compare ix [.NotIn] [.Name n p] pos) Γ (!(lookD kvs i).isSome) := fun H0 B0 B σ H Q S k X cx =>
  go_t (pt_cmp (pc_dnotin cx.hu (pe_of X ix) (pe_var (by rw [cx.N]; exact hN) (by rw [cx.sc]; exact hv) hd hcd)) rfl) (hi H0 B0 B σ H _ S (fun w H2 e2 r2 => by
    obtain ⟨q, f1, f2, f3, kws, f4, f5⟩ := S.own s _ hg
    cases r2
    refine ⟨.ref q, f1, q, valV kws (kI i), rfl, DGet.k (k := Sum.inl i) (e2 _ _ f4), _, rfl, ?_⟩
    have e : (valV kws (kI i)).isSome = (lookD kvs i).isSome := by
      unfold lookD
      rcases valV_kv kI_inj f5 i with ⟨h1, h2⟩ | ⟨v, d', h1, h2, h3⟩
      · rw [h1, h2]; rfl
      · rw [h1, h2]; rfl
    rw [e]
    exact k H2 e2) X cx)
theorem tp_dinT {s : Nat} {kvs : List (List Int × D)} {i : List Int} (hN : c.N[s]? = some n) (hv : Vis c.sc n) (hg : Γ[s]? = some (.own (.dT kvs))) (hi : EP c ix Γ (.tup false (i.map .int))) (hd : (n == ("__debug__" : Str)) = false := by decide) (hcd : (n == ("__classdict__" : Str)) = false := by decide) : TP c (.Compare ix [.NotIn] [.Name n p] pos) Γ (!(lookD kvs i).isSome) := fun H0 B0 B σ H Q S k X cx =>
  go_t (pt_cmp (pc_dnotin cx.hu (pe_of X ix) (pe_var (by rw [cx.N]; exact hN) (by rw [cx.sc]; exact hv) hd hcd)) rfl) (hi H0 B0 B σ H _ S (fun w H2 e2 r2 => by
    obtain ⟨q, f1, f2, f3, kws, f4, f5⟩ := S.own s _ hg
    cases r2 with
    | @tup _ q2 _ _ hb ht r =>
      rw [r.map_int] at ht
      have ht' : H2 q2 = some (.tup ((kT i).map kV)) := by rw [kT_V]; exact ht
      refine ⟨.ref q, f1, q, valV kws (kT i), rfl, DGet.t (e2 _ _ f4) ht', _, rfl, ?_⟩
      have e : (valV kws (kT i)).isSome = (lookD kvs i).isSome := by
        unfold lookD
        rcases valV_kv (f := kT) (fun _ _ => kT_inj) f5 i with ⟨h1, h2⟩ | ⟨v, d', h1, h2, h3⟩
        · rw [h1, h2]; rfl
        · rw [h1, h2]; rfl
      rw [e]
      exact k H2 e2) X cx)
/-- d[k] = e, k new -/
theorem sx_dput {s : Nat} {kvs : List (Int × D)} {i : Int} (hN : c.N[s]? = some n) (hv : Vis c.sc n) (hg : Γ[s]? = some (.own (.dK kvs))) (he : EP c e Γ d) (hi : EP c ix Γ (.int i)) (hl : lookD kvs i = none) (hz : kvs.length ≤ 100000) (k : E.nx (Γ.set s (.own (.dK (kvs ++ [(i, d)])))))
    (hs : ∀ env : Env, swapsWith e (some (.Subscript (.Name n p) ix p2)) pos.line env = pure false := by intro _; rfl) (hd : (n == ("__debug__" : Str)) = false := by decide) (hcd : (n == ("__classdict__" : Str)) = false := by decide) : SX c (.Assign [.Subscript (.Name n p) ix p2] e pos) Γ E := fun H0 B0 B σ H Dn S L X cx =>
  go_s (ps_dput cx.hu (pe_var (by rw [cx.N]; exact hN) (by rw [cx.sc]; exact hv) hd hcd) (pe_of X ix) (pe_of X e) (hs X.env)) (he H0 B0 B σ H _ S (fun v H1 e1 r1 => by
    obtain ⟨q, f1, f2, f3, kws, f4, f5⟩ := S.own s _ hg
    refine ⟨.ref q, f1, hi H0 B0 B σ H1 _ (S.ext e1) (fun w H2 e2 r2 => ?_) X cx⟩
    cases r2
    have f4' := e2 _ _ (e1 _ _ f4)
    refine ⟨q, _, rfl, DPut.k (k := Sum.inl i) (v := v) f4' (by rw [← f5.length, sizeLine_eq]; omega), ?_⟩
    have S2 := S.ext (e1.trans e2)
    rw [show (putK kws (Sum.inl i) v) = kws ++ [(kI i, v)] from putK_new kI_inj f5 hl v]
    obtain ⟨S3, t3⟩ := S2.mutate hg f1 (u := .dK (kws ++ [(kI i, v)])) (o' := .dK (kvs ++ [(i, d)])) ⟨_, upd_same, KvR.snoc ((r1.ext e2).off f2) ((f5.tr (e1.trans e2).tr).off f2)⟩
    exact L.nx B σ _ _ S3 ((e1.trans e2).tr.trans t3) k) X cx)
theorem sx_dputT {s : Nat} {kvs : List (List Int × D)} {i : List Int} (hN : c.N[s]? = some n) (hv : Vis c.sc n) (hg : Γ[s]? = some (.own (.dT kvs))) (he : EP c e Γ d) (hi : EP c ix Γ (.tup false (i.map .int))) (hl : lookD kvs i = none) (hz : kvs.length ≤ 100000) (k : E.nx (Γ.set s (.own (.dT (kvs ++ [(i, d)])))))
    (hs : ∀ env : Env, swapsWith e (some (.Subscript (.Name n p) ix p2)) pos.line env = pure false := by intro _; rfl) (hd : (n == ("__debug__" : Str)) = false := by decide) (hcd : (n == ("__classdict__" : Str)) = false := by decide) : SX c (.Assign [.Subscript (.Name n p) ix p2] e pos) Γ E := fun H0 B0 B σ H Dn S L X cx =>
  go_s (ps_dput cx.hu (pe_var (by rw [cx.N]; exact hN) (by rw [cx.sc]; exact hv) hd hcd) (pe_of X ix) (pe_of X e) (hs X.env)) (he H0 B0 B σ H _ S (fun v H1 e1 r1 => by
    obtain ⟨q, f1, f2, f3, kws, f4, f5⟩ := S.own s _ hg
    refine ⟨.ref q, f1, hi H0 B0 B σ H1 _ (S.ext e1) (fun w H2 e2 r2 => ?_) X cx⟩
    cases r2 with
    | @tup _ q2 _ _ hb ht r =>
      rw [r.map_int] at ht
      have ht' : H2 q2 = some (.tup ((kT i).map kV)) := by rw [kT_V]; exact ht
      have f4' := e2 _ _ (e1 _ _ f4)
      refine ⟨q, _, rfl, DPut.t (k := kT i) (v := v) f4' ht' (by rw [← f5.length, sizeLine_eq]; omega), ?_⟩
      have S2 := S.ext (e1.trans e2)
      rw [show (putK kws (kT i) v) = kws ++ [(kT i, v)] from putK_new (fun _ _ => kT_inj) f5 hl v]
      obtain ⟨S3, t3⟩ := S2.mutate hg f1 (u := .dT (kws ++ [(kT i, v)])) (o' := .dT (kvs ++ [(i, d)])) ⟨_, upd_same, KvR.snoc ((r1.ext e2).off f2) ((f5.tr (e1.trans e2).tr).off f2)⟩
      exact L.nx B σ _ _ S3 ((e1.trans e2).tr.trans t3) k) X cx)
theorem eo_dnew : EO c (.Dict [] [] pos) Γ (.dK []) := fun H0 B0 B σ H Q S k X cx => go_e pe_dnewK (fun p hp => k p _ hp (Ext.new hp) ⟨[], upd_same, .nil⟩)
end
end GL
end
/-! ## G11 -/
section
namespace GL
open PySem PySem.Spec PyProof.Rows L2
section
variable {c : Cp} {Γ Γ' Γ1 Γ2 : Gm} {e a b t elt tg iter ix : Expr} {es ifs : List Expr} {d x y z : D} {pos p p2 apos cpos : Pos} {n : Str} {scope : Scope} {vs ts : List Nat} {E : En} {st : Stmt} {sts rest body orelse : List Stmt}
/-! ### methods of lists -/
theorem sx_append {s : Nat} {ds : List D} {P : D → Gm → Prop} (hN : c.N[s]? = some n) (hv : Vis c.sc n) (hg : ∃ ds0, Γ[s]? = some (.own (.lst ds0))) (h : EX c e Γ P) (k : ∀ d Γ', P d Γ' → ∃ ds, Γ'[s]? = some (.own (.lst ds)) ∧ ds.length ≤ 100000 ∧ E.nx (Γ'.set s (.own (.lst (ds ++ [d])))))
    (hm : ∀ X to t, PE X (.Name n p) to → PA X [e] t → PE X (.Call (.Attribute (.Name n p) "append" apos) [e] [] cpos) (tBM X.K "list" rAppend to t) := by exact fun X to t h1 h2 => pe_bm PySem.F.plainAttrs_list PySem.F.slot_list_append PySem.F.type_list_append mt_append h1 h2)
    (hs : ∀ env : Env, swapsWith (.Call (.Attribute (.Name n p) "append" apos) [e] [] cpos) none pos.line env = pure false := by intro _; rfl) (he : ∀ env : Env, starEach [e] env = (false, eval e env) :: starEach [] env := by intro _; rfl) (hd : (n == ("__debug__" : Str)) = false := by decide) (hcd : (n == ("__classdict__" : Str)) = false := by decide) :
    SX c (.Expr (.Call (.Attribute (.Name n p) "append" apos) [e] [] cpos) pos) Γ E := fun H0 B0 B σ H Dn S L X cx => by
  obtain ⟨ds0, hg⟩ := hg
  obtain ⟨q, f1, f2, f3, xs0, f4, f5⟩ := S.own s _ hg
  exact go_s (ps_expr (hm X _ _ (pe_var (by rw [cx.N]; exact hN) (by rw [cx.sc]; exact hv) hd hcd) (pa_cons (pe_of X e) pa_nil (he X.env))) (hs X.env)) (by
    refine ⟨.ref q, f1, .inl ⟨rfl, _, LstAt.sq f4⟩, h H0 B0 B σ H _ S (fun v H1 d Γ1 pp S1 t1 r1 => ?_) X cx⟩
    obtain ⟨ds, hg1, hz, hn⟩ := k d Γ1 pp
    obtain ⟨q', g1, g2, g3, xs, g4, g5⟩ := S1.own s _ hg1
    have eq : q' = q := by rw [f1] at g1; cases g1; rfl
    subst eq
    refine ⟨q', xs, v, rfl, rfl, g4, by rw [g5.length, sizeLine_eq]; omega, ?_⟩
    obtain ⟨S3, t3⟩ := S1.mutate hg1 f1 (u := .lst (xs ++ [v])) (o' := .lst (ds ++ [d])) ⟨_, upd_same, (g5.off g2).snoc (r1.off g2)⟩
    exact L.nx B σ _ _ S3 (t1.trans t3) hn)
theorem sx_appendP {s : Nat} {ds : List D} (hN : c.N[s]? = some n) (hv : Vis c.sc n) (hg : Γ[s]? = some (.own (.lst ds))) (h : EP c e Γ d) (hz : ds.length ≤ 100000) (k : E.nx (Γ.set s (.own (.lst (ds ++ [d])))))
    (hm : ∀ X to t, PE X (.Name n p) to → PA X [e] t → PE X (.Call (.Attribute (.Name n p) "append" apos) [e] [] cpos) (tBM X.K "list" rAppend to t) := by exact fun X to t h1 h2 => pe_bm PySem.F.plainAttrs_list PySem.F.slot_list_append PySem.F.type_list_append mt_append h1 h2)
    (hs : ∀ env : Env, swapsWith (.Call (.Attribute (.Name n p) "append" apos) [e] [] cpos) none pos.line env = pure false := by intro _; rfl) (he : ∀ env : Env, starEach [e] env = (false, eval e env) :: starEach [] env := by intro _; rfl) (hd : (n == ("__debug__" : Str)) = false := by decide) (hcd : (n == ("__classdict__" : Str)) = false := by decide) :
    SX c (.Expr (.Call (.Attribute (.Name n p) "append" apos) [e] [] cpos) pos) Γ E :=
  sx_append (ds := ds) hN hv ⟨ds, hg⟩ h.toX (fun d' Γ' q => by obtain ⟨rfl, rfl⟩ := q; exact ⟨ds, hg, hz, k⟩) hm hs he hd hcd
theorem sx_extend {s : Nat} {ds es' : List D} (hN : c.N[s]? = some n) (hv : Vis c.sc n) (hg : Γ[s]? = some (.own (.lst ds))) (h : EP c e Γ (.list es')) (hz : ds.length + es'.length ≤ 100000) (k : E.nx (Γ.set s (.own (.lst (ds ++ es')))))
    (hm : ∀ X to t, PE X (.Name n p) to → PA X [e] t → PE X (.Call (.Attribute (.Name n p) "extend" apos) [e] [] cpos) (tBM X.K "list" rExtend to t) := by exact fun X to t h1 h2 => pe_bm PySem.F.plainAttrs_list PySem.F.slot_list_extend PySem.F.type_list_extend mt_extend h1 h2)
    (hs : ∀ env : Env, swapsWith (.Call (.Attribute (.Name n p) "extend" apos) [e] [] cpos) none pos.line env = pure false := by intro _; rfl) (he : ∀ env : Env, starEach [e] env = (false, eval e env) :: starEach [] env := by intro _; rfl) (hd : (n == ("__debug__" : Str)) = false := by decide) (hcd : (n == ("__classdict__" : Str)) = false := by decide) :
    SX c (.Expr (.Call (.Attribute (.Name n p) "extend" apos) [e] [] cpos) pos) Γ E := fun H0 B0 B σ H Dn S L X cx => by
  obtain ⟨q, f1, f2, f3, xs, f4, f5⟩ := S.own s _ hg
  exact go_s (ps_expr (hm X _ _ (pe_var (by rw [cx.N]; exact hN) (by rw [cx.sc]; exact hv) hd hcd) (pa_cons (pe_of X e) pa_nil (he X.env))) (hs X.env)) (by
    refine ⟨.ref q, f1, .inl ⟨rfl, _, LstAt.sq f4⟩, h H0 B0 B σ H _ S (fun v H1 e1 r1 => ?_) X cx⟩
    cases r1 with
    | @lst b zs _ hb hl r =>
      refine ⟨q, b, xs, zs, rfl, rfl, e1 _ _ f4, hl, by rw [f5.length, r.length, sizeLine_eq]; omega, ?_⟩
      obtain ⟨S3, t3⟩ := (S.ext e1).mutate hg f1 (u := .lst (xs ++ zs)) (o' := .lst (ds ++ es')) ⟨_, upd_same, ((f5.ext e1).off f2).append (r.off f2)⟩
      exact L.nx B σ _ _ S3 (e1.tr.trans t3) k)
theorem RpA.dropLast {B : Av} {H : Hp} {vs : List V} {ds : List D} (r : RpA B H vs ds) : RpA B H vs.dropLast ds.dropLast := by
  rw [List.dropLast_eq_take, List.dropLast_eq_take, r.length]
  exact r.take _
/-- own.pop(), own.pop(i) -/
theorem ex_pop {s : Nat} {ds : List D} (hN : c.N[s]? = some n) (hv : Vis c.sc n) (hg : Γ[s]? = some (.own (.lst ds))) (hl : ds[ds.length - 1]? = some d)
    (hm : ∀ X to, PE X (.Name n p) to → PE X (.Call (.Attribute (.Name n p) "pop" apos) [] [] cpos) (tBM0 X.K "list" rPop to) := by exact fun X to h1 => pe_bm0 PySem.F.plainAttrs_list PySem.F.slot_list_pop PySem.F.type_list_pop mt_pop h1) (hd : (n == ("__debug__" : Str)) = false := by decide) (hcd : (n == ("__classdict__" : Str)) = false := by decide) :
    EX c (.Call (.Attribute (.Name n p) "pop" apos) [] [] cpos) Γ (fun d' Γ' => d' = d ∧ Γ' = Γ.set s (.own (.lst ds.dropLast))) := fun H0 B0 B σ H Q S k X cx => by
  obtain ⟨q, f1, f2, f3, xs, f4, f5⟩ := S.own s _ hg
  exact go_e (hm X _ (pe_var (by rw [cx.N]; exact hN) (by rw [cx.sc]; exact hv) hd hcd)) (by
    obtain ⟨v, hv', rv⟩ := f5.get hl
    refine ⟨.ref q, f1, .inl ⟨rfl, _, LstAt.sq f4⟩, q, xs, v, rfl, rfl, f4, by rw [f5.length]; exact hv', ?_⟩
    obtain ⟨S3, t3⟩ := S.mutate hg f1 (u := .lst xs.dropLast) (o' := .lst ds.dropLast) ⟨_, upd_same, f5.dropLast.off f2⟩
    exact k v _ d _ ⟨rfl, rfl⟩ S3 t3 (rv.off f2))
theorem ex_popAt {s : Nat} {P : D → Gm → Prop} (hN : c.N[s]? = some n) (hv : Vis c.sc n) (hg : ∃ ds0, Γ[s]? = some (.own (.lst ds0))) (h : EX c e Γ P) {P' : D → Gm → Prop} (hk : ∀ d0 Γ1, P d0 Γ1 → ∃ (i : Int) (j : Nat) (ds : List D) (d : D), d0 = .int i ∧ i = (j : Int) ∧ Γ1[s]? = some (.own (.lst ds)) ∧ ds[j]? = some d ∧ ds.length ≤ 100000 ∧ P' d (Γ1.set s (.own (.lst (ds.eraseIdx j)))))
    (hm : ∀ X to t, PE X (.Name n p) to → PA X [e] t → PE X (.Call (.Attribute (.Name n p) "pop" apos) [e] [] cpos) (tBM X.K "list" rPopAt to t) := by exact fun X to t h1 h2 => pe_bm PySem.F.plainAttrs_list PySem.F.slot_list_pop PySem.F.type_list_pop mt_popAt h1 h2) (he : ∀ env : Env, starEach [e] env = (false, eval e env) :: starEach [] env := by intro _; rfl) (hd : (n == ("__debug__" : Str)) = false := by decide) (hcd : (n == ("__classdict__" : Str)) = false := by decide) :
    EX c (.Call (.Attribute (.Name n p) "pop" apos) [e] [] cpos) Γ P' := fun H0 B0 B σ H Q S k X cx => by
  obtain ⟨ds0, hg⟩ := hg
  obtain ⟨q, f1, f2, f3, xs0, f4, f5⟩ := S.own s _ hg
  exact go_e (hm X _ _ (pe_var (by rw [cx.N]; exact hN) (by rw [cx.sc]; exact hv) hd hcd) (pa_cons (pe_of X e) pa_nil (he X.env))) (by
    refine ⟨.ref q, f1, .inl ⟨rfl, _, LstAt.sq f4⟩, h H0 B0 B σ H _ S (fun v H1 d0 Γ1 pp S1 t1 r1 => ?_) X cx⟩
    obtain ⟨i, j, ds, d, rfl, hij, hg1, hd', hz, pp'⟩ := hk d0 Γ1 pp
    obtain ⟨q', g1, g2, g3, xs, g4, g5⟩ := S1.own s _ hg1
    have eq : q' = q := by rw [f1] at g1; cases g1; rfl
    subst eq
    cases r1
    obtain ⟨w, hw, rw'⟩ := g5.get hd'
    have hj : j < ds.length := (List.getElem?_eq_some_iff.mp hd').1
    refine ⟨q', xs, i, j, w, rfl, rfl, g4, by omega, by omega, ?_, hw, ?_⟩
    · rw [hij, g5.length]
      have z : seqIndex? (j : Int) ds.length = some ((j : Int).toNat) := seqIndex_of (by omega) (by omega)
      simpa using z
    · obtain ⟨S3, t3⟩ := S1.mutate hg1 f1 (u := .lst (xs.eraseIdx j)) (o' := .lst (ds.eraseIdx j)) ⟨_, upd_same, (g5.eraseIdx j).off g2⟩
      exact k w _ d _ pp' S3 (t1.trans t3) (rw'.off g2))
/-- xs.index(y), the first place -/
theorem ep_indexL {ds : List D} {j : Nat} {z : D} (ha : EW c a Γ (.list ds)) (hb : EW c b Γ d) (hd : d.ok) (hs : (D.list ds).ok) (hz : ds[j]? = some z) (hj : z.eq d = true) (hno : ∀ (m : Nat) z', m < j → ds[m]? = some z' → z'.eq d = false)
    (hm : ∀ X to t, X.A.units + 65 < cLine → PE X a to → PA X [b] t → PE X (.Call (.Attribute a "index" apos) [b] [] cpos) (tBM X.K "list" (rIndexD X.K) to t) := by exact fun X to t hu h1 h2 => pe_bm PySem.F.plainAttrs_list PySem.F.slot_list_index PySem.F.type_list_index (mt_indexD hu) h1 h2) (he : ∀ env : Env, starEach [b] env = (false, eval b env) :: starEach [] env := by intro _; rfl) :
    EP c (.Call (.Attribute a "index" apos) [b] [] cpos) Γ (.int (j : Nat)) := fun H0 B0 B σ H Q S k X cx =>
  go_e (hm X _ _ (by have := cx.room.units; have := cx.room.un; omega) (pe_of X a) (pa_cons (pe_of X b) pa_nil (he X.env))) (ha H0 B0 B σ H _ S (fun v H1 e1 r1 => by
    have r1' := r1
    cases r1 with
    | @lst q xs _ hl r =>
      refine ⟨.inl ⟨rfl, _, hl.sq⟩, hb H0 B0 B σ H1 _ (S.ext e1) (fun w H2 e2 r2 => ?_) X cx⟩
      have pyget : ∀ (m : Nat), (D.pyAll ds)[m]? = (ds[m]?).map D.py := fun m => by rw [D.pyAll_map, List.getElem?_map]
      refine ⟨q, w, _, D.pyAll ds, j, z.py, rfl, rfl, (r1'.ext e2).dp, r2.dp, hs, hd, by rw [pyget, hz]; rfl, hj, fun m z' hm hz' => ?_, k _ H2 (e1.trans e2) (.int _)⟩
      rw [pyget] at hz'
      obtain ⟨z2, g1, g2⟩ := Option.map_eq_some_iff.mp hz'
      rw [← g2]; exact hno m z2 hm g1) X cx)
/-! ### if, for, while, return -/
theorem sx_ifX {P : Bool → Gm → Prop} (h : TX c t Γ P) (h1 : ∀ Γ', P true Γ' → BX c sts Γ' E) (h2 : ∀ Γ', P false Γ' → BX c orelse Γ' E) : SX c (.If t sts orelse pos) Γ E := fun H0 B0 B σ H Dn S L X cx =>
  go_s (ps_if (pt_of X t) (pb_of X sts) (pb_of X orelse)) (h H0 B0 B σ H _ S (fun k H' Γ' pp S' t' => by
    cases k with
    | true => exact iteT (h1 Γ' pp H0 B0 B σ H' Dn S' (L.tr t') X cx)
    | false => exact iteF (h2 Γ' pp H0 B0 B σ H' Dn S' (L.tr t') X cx)) X cx)
theorem sx_if {k : Bool} (h : TP c t Γ k) (h1 : k = true → BX c sts Γ E) (h2 : k = false → BX c orelse Γ E) : SX c (.If t sts orelse pos) Γ E :=
  sx_ifX h.toX (fun Γ' q => by obtain ⟨q1, rfl⟩ := q; exact h1 q1.symm) (fun Γ' q => by obtain ⟨q1, rfl⟩ := q; exact h2 q1.symm)
theorem sx_for {ds : List D} (hi : IS c tg iter Γ ds) (W : Nat → Gm → Prop) (h0 : W 0 Γ) (hs : ∀ i d Γ', ds[i]? = some d → W i Γ' → ∃ Γ'' ts Γ2, GmW Γ' Γ'' ∧ GT c tg ts Γ'' d Γ2 ∧ BX c body Γ2 { nx := W (i + 1), ct := W (i + 1), bk := E.nx, rt := E.rt, ro := E.ro }) (hd : ∀ Γ', W ds.length Γ' → E.nx Γ') (hf : ∀ (env : Env) x, foldedSetIterable iter env x = pure x := by intro _ _; rfl) : SX c (.For tg iter body [] pos) Γ E := fun H0 B0 B σ H Dn S L X cx =>
  go_s (ps_for cx.never cx.calm (pi_of X tg iter) (pg_of X tg) (pb_of X body) (hf X.env)) (hi H0 B0 B σ H _ S (fun J H1 e1 src => by
    obtain ⟨G, Y, w, hG, hY⟩ := src.ex
    have L1 := L.tr e1.tr
    refine for_it w (fun i σ' H' => ∃ B' Γ', Sto H0 B0 B' σ' H' Γ' ∧ Tr B H1 B' H' ∧ W i Γ') ⟨B, Γ, S.ext e1, Tr.refl _ _, h0⟩ (fun i σ' H' _ pv => by obtain ⟨B', Γ', _, t, _⟩ := pv; exact hG B' H' t) (fun i xv σ' H2 H3 hlt pv y => ?_) (fun σ' H' pv => ?_)
    · obtain ⟨B1, Γ1, S1, t1, hw⟩ := pv
      have hx : ds[i]? = some ds[i] := List.getElem?_eq_getElem hlt
      obtain ⟨Γ', ts, Γ2, wk, hg, hb⟩ := hs i _ Γ1 hx hw
      obtain ⟨B', S', sb⟩ := S1.weak wk
      have t' : Tr B H1 B' H2 := t1.trans (Tr.sub sb)
      obtain ⟨e3, rx⟩ := hY B' H2 i xv H3 _ t' S'.inH y hx
      refine hg H0 B0 B' σ' H3 xv _ (S'.ext e3) rx (fun σ2 _ _ S2 => ?_) X cx
      have t3 : Tr B H1 B' H3 := t'.trans e3.tr
      exact hb H0 B0 B' σ2 H3 { Dn with nx := fun σ' H' => ∃ B' Γ', Sto H0 B0 B' σ' H' Γ' ∧ Tr B H1 B' H' ∧ W (i + 1) Γ', ct := fun σ' H' => ∃ B' Γ', Sto H0 B0 B' σ' H' Γ' ∧ Tr B H1 B' H' ∧ W (i + 1) Γ', bk := Dn.nx } S2 ⟨fun B2 σ3 H4 Γ3 S3 t4 q => ⟨B2, Γ3, S3, t3.trans t4, q⟩, fun B2 σ3 H4 Γ3 v d S3 t4 r q => L1.rt B2 σ3 H4 Γ3 v d S3 (t3.trans t4) r q, fun B2 σ3 H4 Γ3 p o S3 t4 g1 g2 r q => L1.ro B2 σ3 H4 Γ3 p o S3 (t3.trans t4) g1 g2 r q, fun B2 σ3 H4 Γ3 S3 t4 q => L1.nx B2 σ3 H4 Γ3 S3 (t3.trans t4) q, fun B2 σ3 H4 Γ3 S3 t4 q => ⟨B2, Γ3, S3, t3.trans t4, q⟩⟩ X cx
    · obtain ⟨B', Γ', S', t', hw⟩ := pv
      exact L1.nx B' σ' H' Γ' S' t' (hd Γ' hw)) X cx)
/-- the state at each turn told outright -/
theorem sx_forG {ds : List D} (hi : IS c tg iter Γ ds) (G : Nat → Gm) (h0 : GmW Γ (G 0)) (hs : ∀ i d, ds[i]? = some d → ∃ ts Γ2, GT c tg ts (G i) d Γ2 ∧ BX c body Γ2 { nx := fun Γ' => GmW Γ' (G (i + 1)), ct := fun Γ' => GmW Γ' (G (i + 1)), bk := E.nx, rt := E.rt, ro := E.ro }) (hd : ∀ Γ', GmW Γ' (G ds.length) → E.nx Γ') (hf : ∀ (env : Env) x, foldedSetIterable iter env x = pure x := by intro _ _; rfl) : SX c (.For tg iter body [] pos) Γ E :=
  sx_for hi (fun i Γ' => GmW Γ' (G i)) h0 (fun i d Γ' hx hw => let ⟨ts, Γ2, g, b⟩ := hs i d hx; ⟨G i, ts, Γ2, hw, g, b⟩) hd hf
theorem sx_while (W : Nat → Gm → Prop) {m : Nat} (h0 : W m Γ) (hs : ∀ m Γ0, W m Γ0 → ∃ Γ' k, GmW Γ0 Γ' ∧ TP c t Γ' k ∧ (k = true → BX c body Γ' { nx := fun Γ2 => ∃ m', m' < m ∧ W m' Γ2, ct := fun Γ2 => ∃ m', m' < m ∧ W m' Γ2, bk := E.nx, rt := E.rt, ro := E.ro }) ∧ (k = false → E.nx Γ')) : SX c (.While t body [] pos) Γ E := fun H0 B0 B σ H Dn S L X cx =>
  go_s (ps_while cx.never (pt_of X t) (pb_of X body)) (by
    refine ⟨fun m σ' H' => ∃ B' Γ', Sto H0 B0 B' σ' H' Γ' ∧ Tr B H B' H' ∧ W m Γ', ⟨m, B, Γ, S, Tr.refl _ _, h0⟩, fun m σ' H' pv => ?_⟩
    obtain ⟨B1, Γ1, S1, t1, hw⟩ := pv
    obtain ⟨Γ', k, wk, ht, h1, h2⟩ := hs m Γ1 hw
    obtain ⟨B', S', sb⟩ := S1.weak wk
    have t' : Tr B H B' H' := t1.trans (Tr.sub sb)
    refine ht H0 B0 B' σ' H' _ S' (fun H2 e2 => ?_) X cx
    have S2 := S'.ext e2
    have t2 := t'.trans e2.tr
    cases k with
    | true =>
      refine iteT ⟨fun σ3 H3 => ∃ m', m' < m ∧ ∃ B3 Γ3, Sto H0 B0 B3 σ3 H3 Γ3 ∧ Tr B H B3 H3 ∧ W m' Γ3, fun σ3 H3 q => q, ?_⟩
      exact h1 rfl H0 B0 B' σ' H2 { Dn with nx := fun σ3 H3 => ∃ m', m' < m ∧ ∃ B3 Γ3, Sto H0 B0 B3 σ3 H3 Γ3 ∧ Tr B H B3 H3 ∧ W m' Γ3, ct := fun σ3 H3 => ∃ m', m' < m ∧ ∃ B3 Γ3, Sto H0 B0 B3 σ3 H3 Γ3 ∧ Tr B H B3 H3 ∧ W m' Γ3, bk := Dn.nx } S2 ⟨fun B3 σ3 H3 Γ3 S3 t3 q => let ⟨m', hm, hw'⟩ := q; ⟨m', hm, B3, Γ3, S3, t2.trans t3, hw'⟩, fun B3 σ3 H3 Γ3 v d S3 t3 r q => L.rt B3 σ3 H3 Γ3 v d S3 (t2.trans t3) r q, fun B3 σ3 H3 Γ3 p o S3 t3 g1 g2 r q => L.ro B3 σ3 H3 Γ3 p o S3 (t2.trans t3) g1 g2 r q, fun B3 σ3 H3 Γ3 S3 t3 q => L.nx B3 σ3 H3 Γ3 S3 (t2.trans t3) q, fun B3 σ3 H3 Γ3 S3 t3 q => let ⟨m', hm, hw'⟩ := q; ⟨m', hm, B3, Γ3, S3, t2.trans t3, hw'⟩⟩ X cx
    | false => exact iteF (L.nx B' σ' H2 Γ' S2 t2 (h2 rfl)))
theorem sx_retX {P : D → Gm → Prop} (h : EX c e Γ P) (k : ∀ d Γ', P d Γ' → E.rt Γ' d) : SX c (.Return (some e) pos) Γ E := fun H0 B0 B σ H Dn S L X cx => go_s (ps_ret (pe_of X e)) (h H0 B0 B σ H _ S (fun v H' d Γ' pp S' t r => L.rt B σ H' Γ' v d S' t r (k d Γ' pp)) X cx)
theorem sx_ret (h : EP c e Γ d) (k : E.rt Γ d) : SX c (.Return (some e) pos) Γ E := sx_retX h.toX (fun d' Γ' q => by obtain ⟨rfl, rfl⟩ := q; exact k)
/-- return a fresh object -/
theorem sx_retS {P : Sl → Gm → Prop} (h : ES c e Γ P) (k : ∀ s Γ', P s Γ' → match s with | .val d => E.rt Γ' d | .own o => E.ro Γ' o | .any => False) : SX c (.Return (some e) pos) Γ E := fun H0 B0 B σ H Dn S L X cx => go_s (ps_ret (pe_of X e)) (h H0 B0 B σ H _ S (fun v H' B' s Γ' pp S' t r => by
  have q := k s Γ' pp
  cases s with
  | any => exact q.elim
  | val d => exact L.rt B' σ H' Γ' v d S' t r q
  | own o =>
    obtain ⟨b, rfl, h1, h2, h3, _⟩ := r
    exact L.ro B' σ H' Γ' b o S' t h1 h2 h3 q) X cx)
/-- return one's own object by its name -/
theorem sx_retOwn {s : Nat} {o : Ob} (hN : c.N[s]? = some n) (hv : Vis c.sc n) (hg : Γ[s]? = some (.own o)) (k : E.ro Γ o) (hd : (n == ("__debug__" : Str)) = false := by decide) (hcd : (n == ("__classdict__" : Str)) = false := by decide) : SX c (.Return (some (.Name n p)) pos) Γ E := fun H0 B0 B σ H Dn S L X cx => by
  obtain ⟨q, f1, f2, f3, f4⟩ := S.own s _ hg
  exact go_s (ps_ret (pe_var (by rw [cx.N]; exact hN) (by rw [cx.sc]; exact hv) hd hcd)) ⟨_, f1, L.ro B σ H Γ q o S (Tr.refl _ _) f2 f3 f4 k⟩
theorem sx_never (h : False) : SX c st Γ E := h.elim
theorem sx_expr {P : D → Gm → Prop} (h : EX c e Γ P) (k : ∀ d Γ', P d Γ' → E.nx Γ') (hs : ∀ env : Env, swapsWith e none pos.line env = pure false := by intro _; rfl) : SX c (.Expr e pos) Γ E := fun H0 B0 B σ H Dn S L X cx => go_s (ps_expr (pe_of X e) (hs X.env)) (h H0 B0 B σ H _ S (fun v H' d Γ' pp S' t r => L.nx B σ H' Γ' S' t (k d Γ' pp)) X cx)
end
/-! ### what hangs on the scope alone -/
theorem sws_scope {ts : List Expr} {v : Expr} {env env2 : Env} (h : env.scope = env2.scope) : swappedStores ts v env = swappedStores ts v env2 := by
  have h1 : env.kindOf = env2.kindOf := by funext x; show env.scope.names.lookup x = env2.scope.names.lookup x; rw [h]
  have h2 : env.blockKind = env2.blockKind := by unfold Env.blockKind; rw [h]
  unfold swappedStores
  rw [h1, h2]
theorem sws_of {ts : List Expr} {v : Expr} {sc : Scope} {r : Option (List Str)} (h : swappedStores ts v { scope := sc, locals := 0, globals := 0, cells := [] } = pure r) : ∀ env : Env, env.scope = sc → swappedStores ts v env = pure r := fun env he => (sws_scope he).trans h
/-! ### defs -/
def spD (R : List D → D → Prop) : Sp := fun vs H Q _ => ∃ (B : Av) (ds : List D) (d : D), InH B H ∧ RpA B H vs ds ∧ R ds d ∧ ∀ v H', Ext H H' → Rp B H' v d → Q v H'
def spO (R : List D → Ob → Prop) : Sp := fun vs H Q _ => ∃ (B : Av) (ds : List D) (o : Ob), InH B H ∧ RpA B H vs ds ∧ R ds o ∧ ∀ p H', H p = none → Ext H H' → RpO (fun a => a = p ∨ B a) H' p o → Q (.ref p) H'
/-- the def by this name keeps this promise, at a level below c's room -/
structure FD (c : Cp) (n : Str) (ps : List Str) (sp : Sp) : Prop where
  ex : ∃ (f : Addr) (fd : FuncData) (k : Nat), c.mg n = some (.ref f) ∧ PySem.W.keepIn c.K (.ref f) = true ∧ Binds c.K fd ps [] ∧ k ≤ c.k ∧ FnOk c.P c.w c.K c.mg c.base CX0 k f fd ps sp
theorem FD.blk {c : Cp} {n : Str} {ps : List Str} {sp : Sp} (F : FD c n ps sp) (scope : Scope) : FD (c.blk scope) n ps sp := ⟨F.ex⟩
section
variable {c : Cp} {Γ : Gm} {e : Expr} {es : List Expr} {pos p : Pos} {n : Str} {ps : List Str} {ds : List D} {d : D}
theorem ep_call {R : List D → D → Prop} (F : FD c n ps (spD R)) (hg : c.gl n) (ha : AP c (e :: es) Γ ds) (hR : R ds d) (hdb : (n == ("__debug__" : Str)) = false := by decide) (he : ∀ env : Env, starEach (e :: es) env = (false, eval e env) :: starEach es env := by intro _; rfl) (hpl : ∀ env : Env, (backTo pos (starEach es env)).any (·.1) = false := by intro _; rfl) :
    EP c (.Call (.Name n p) (e :: es) [] pos) Γ d := fun H0 B0 B σ H Q S k X cx => by
  obtain ⟨f, fd, k', h1, h2, h3, h4, h5⟩ := F.ex
  have h5' : FnOk X.prog X.w X.K X.mg X.base CX0 k' f fd ps (spD R) := by rw [cx.prog, cx.w, cx.K, cx.mg, cx.base]; exact h5
  exact go_e (pe_call h5' (cx.room.mono h4) (cx.gl hg) (by rw [cx.mg]; exact h1) (by rw [cx.K]; exact h2) (by rw [cx.K]; exact h3) .nil pass0 (pa_of X (e :: es)) hdb (he X.env) (hpl X.env))
    (ha H0 B0 B σ H _ S (fun vs H1 e1 r1 => ⟨B, ds, d, (S.ext e1).inH, by rw [List.append_nil]; exact r1, hR, fun v H2 e2 r2 => k v H2 (e1.trans e2) r2⟩) X cx)
theorem eo_call {R : List D → Ob → Prop} {o : Ob} (F : FD c n ps (spO R)) (hg : c.gl n) (ha : AP c (e :: es) Γ ds) (hR : R ds o) (hdb : (n == ("__debug__" : Str)) = false := by decide) (he : ∀ env : Env, starEach (e :: es) env = (false, eval e env) :: starEach es env := by intro _; rfl) (hpl : ∀ env : Env, (backTo pos (starEach es env)).any (·.1) = false := by intro _; rfl) :
    EO c (.Call (.Name n p) (e :: es) [] pos) Γ o := fun H0 B0 B σ H Q S k X cx => by
  obtain ⟨f, fd, k', h1, h2, h3, h4, h5⟩ := F.ex
  have h5' : FnOk X.prog X.w X.K X.mg X.base CX0 k' f fd ps (spO R) := by rw [cx.prog, cx.w, cx.K, cx.mg, cx.base]; exact h5
  exact go_e (pe_call h5' (cx.room.mono h4) (cx.gl hg) (by rw [cx.mg]; exact h1) (by rw [cx.K]; exact h2) (by rw [cx.K]; exact h3) .nil pass0 (pa_of X (e :: es)) hdb (he X.env) (hpl X.env))
    (ha H0 B0 B σ H _ S (fun vs H1 e1 r1 => ⟨B, ds, o, (S.ext e1).inH, by rw [List.append_nil]; exact r1, hR, fun p' H2 hp e2 r2 => k p' H2 (e1.back hp) (e1.trans e2) r2⟩) X cx)
end
/-- a def's body at its start -/
def startG (N : List Str) (ds : List D) : Gm := ds.map Sl.val ++ List.replicate (N.length - ds.length) Sl.any
def c0 (P : Program) (w : World) (K : PySem.W.Frag) (mg : Str → Option Value) (base : Heap) (N : List Str) (st : Stmt) (k : Nat) : Cp := ⟨P, w, K, mg, base, N, defScope st, k, fun _ => true⟩
theorem sto_start {B : Av} {H : Hp} {vs : List V} {ds : List D} {N : List Str} (hB : InH B H) (r : RpA B H vs ds) : Sto H B B (L2.start N vs) H (startG N ds) where
  ex := fun _ _ h => h
  sub := fun _ h => h
  old := hB
  inH := hB
  len := by unfold L2.start startG; simp [r.length]
  val := fun i d h => by
    unfold startG at h
    by_cases hi : i < ds.length
    · rw [List.getElem?_append_left (by simpa using hi), List.getElem?_map] at h
      obtain ⟨d', h1, h2⟩ := Option.map_eq_some_iff.mp h
      cases h2
      obtain ⟨v, h3, h4⟩ := r.get h1
      refine ⟨v, ?_, h4⟩
      unfold L2.start
      rw [List.getElem?_append_left (by rw [List.length_map, r.length]; exact hi), List.getElem?_map, h3]; rfl
    · rw [List.getElem?_append_right (by simpa using hi)] at h
      have := List.mem_of_getElem? h
      rw [List.mem_replicate] at this
      cases this.2
  own := fun i o h => by
    unfold startG at h
    by_cases hi : i < ds.length
    · rw [List.getElem?_append_left (by simpa using hi), List.getElem?_map] at h
      obtain ⟨d', h1, h2⟩ := Option.map_eq_some_iff.mp h
      cases h2
    · rw [List.getElem?_append_right (by simpa using hi)] at h
      have := List.mem_of_getElem? h
      rw [List.mem_replicate] at this
      cases this.2
  sep := fun i j o u h _ _ => by
    unfold startG at h
    by_cases hi : i < ds.length
    · rw [List.getElem?_append_left (by simpa using hi), List.getElem?_map] at h
      obtain ⟨d', h1, h2⟩ := Option.map_eq_some_iff.mp h
      cases h2
    · rw [List.getElem?_append_right (by simpa using hi)] at h
      have := List.mem_of_getElem? h
      rw [List.mem_replicate] at this
      cases this.2
section
variable {P : Program} {w : World} {K : PySem.W.Frag} {mg : Str → Option Value} {base : Heap} {x : Str} {st : Stmt} {f : Addr} {fd : FuncData} {N ps : List Str} {k : Nat}
theorem c0_is {cdv : Value} {A : Around} {outer : List Env} {s : Shared} {H : Hp} {E : XK} (nd : N.Nodup) (hr : Room k (A.deeper (envOfC x (defScope st) s.heap.objs.size f cdv))) : (c0 P w K mg base N st k).Is (cxOf CX0 P w K mg base N x (defScope st) f cdv A outer s H E).nox :=
  ⟨rfl, rfl, rfl, rfl, rfl, rfl, rfl, rfl, rfl, hr, rfl, nd⟩
theorem okD {R : List D → D → Prop} (F : L2.Fun K x x st f fd) (S : FnScope N ps (defScope st)) (len : ∀ ds d, R ds d → ds.length = ps.length)
    (body : ∀ ds d, R ds d → BX (c0 P w K mg base N st k) (defBody st) (startG N ds) { rt := fun _ r => r = d, nx := fun _ => d = .none }) : FnOk P w K mg base CX0 (k + 1) f fd ps (spD R) := by
  refine F.ok S (fun vs H Q E h => ?_) (fun cdv A outer s H vs Q E hr h => ?_)
  · obtain ⟨B, ds, d, _, r, hR, _⟩ := h
    rw [r.length]; exact len ds d hR
  · obtain ⟨B, ds, d, hB, r, hR, q⟩ := h
    refine ⟨_, pb_of _ _, body ds d hR H B B (L2.start N vs) H _ (sto_start hB r) ⟨fun B' σ' H' Γ' S' t e => ?_, fun B' σ' H' Γ' v d' S' t r' e => ?_, fun B' σ' H' Γ' p o S' t h1 h2 r' e => e.elim, fun _ _ _ _ _ _ e => e.elim, fun _ _ _ _ _ _ e => e.elim⟩ _ (c0_is S.nd hr)⟩
    · subst e; exact q .non H' S'.ex .non
    · subst e; exact q v H' S'.ex (r'.sub S'.sub)
theorem okO {R : List D → Ob → Prop} (F : L2.Fun K x x st f fd) (S : FnScope N ps (defScope st)) (len : ∀ ds d, R ds d → ds.length = ps.length)
    (body : ∀ ds d, R ds d → BX (c0 P w K mg base N st k) (defBody st) (startG N ds) { ro := fun _ r => r = d }) : FnOk P w K mg base CX0 (k + 1) f fd ps (spO R) := by
  refine F.ok S (fun vs H Q E h => ?_) (fun cdv A outer s H vs Q E hr h => ?_)
  · obtain ⟨B, ds, d, _, r, hR, _⟩ := h
    rw [r.length]; exact len ds d hR
  · obtain ⟨B, ds, d, hB, r, hR, q⟩ := h
    refine ⟨_, pb_of _ _, body ds d hR H B B (L2.start N vs) H _ (sto_start hB r) ⟨fun B' σ' H' Γ' S' t e => e.elim, fun B' σ' H' Γ' v d' S' t r' e => e.elim, fun B' σ' H' Γ' p o S' t h1 h2 r' e => ?_, fun _ _ _ _ _ _ e => e.elim, fun _ _ _ _ _ _ e => e.elim⟩ _ (c0_is S.nd hr)⟩
    subst e
    exact q p H' h2 S'.ex (r'.to (Tr.sub fun a z => z.elim (fun z => z ▸ h1) (S'.sub a)) rfl)
end
end GL
end
/-! ## G12 -/
section
namespace GL
open PySem PySem.Spec PyProof.Rows L2
section
variable {c : Cp} {Γ Γ' Γ1 Γ2 : Gm} {e a b t elt tg iter ix : Expr} {es ifs : List Expr} {d x y z : D} {pos p p2 apos cpos : Pos} {n : Str} {scope : Scope} {vs ts : List Nat} {i j : Int} {kk : Bool}
theorem Cp.Is.hu65 {X : Cx} (cx : c.Is X) : X.A.units + 65 < cLine := by have := cx.room.units; have := cx.room.un; omega
/-! ### ints -/
theorem ep_add (ha : EW c a Γ (.int i)) (hb : EW c b Γ (.int j)) : EP c (.BinOp a .Add b pos) Γ (.int (i + j)) := ep_bin (fun _ _ => op_add) ha hb rvd_i0
theorem ep_sub (ha : EW c a Γ (.int i)) (hb : EW c b Γ (.int j)) : EP c (.BinOp a .Sub b pos) Γ (.int (i - j)) := ep_bin (fun _ _ => op_sub) ha hb rvd_i0
theorem ep_mul (ha : EW c a Γ (.int i)) (hb : EW c b Γ (.int j)) (hc : CMul i j) : EP c (.BinOp a .Mult b pos) Γ (.int (i * j)) := ep_bin (fun _ _ => op_mul) ha hb (rvd_i hc)
theorem ep_mod (ha : EW c a Γ (.int i)) (hb : EW c b Γ (.int j)) (hc : 0 < j) : EP c (.BinOp a .Mod b pos) Γ (.int (i % j)) := ep_bin (fun _ _ => op_mod) ha hb (rvd_i hc)
theorem ep_fdiv (ha : EW c a Γ (.int i)) (hb : EW c b Γ (.int j)) (hc : CDiv i j) : EP c (.BinOp a .FloorDiv b pos) Γ (.int (i / j)) := ep_bin (fun _ _ => op_fdiv) ha hb (rvd_i hc)
theorem ep_pow (ha : EW c a Γ (.int i)) (hb : EW c b Γ (.int j)) (hc : CPow i j) : EP c (.BinOp a .Pow b pos) Γ (.int (i ^ j.toNat)) := ep_bin (fun _ _ => op_pow) ha hb (rvd_i hc)
theorem ep_lt (ha : EW c a Γ (.int i)) (hb : EW c b Γ (.int j)) : EP c (.Compare a [.Lt] [b] pos) Γ (.bool (decide (i < j))) := ep_cmp (fun _ _ => op_lt) ha hb rvd_b0
theorem ep_ge (ha : EW c a Γ (.int i)) (hb : EW c b Γ (.int j)) : EP c (.Compare a [.GtE] [b] pos) Γ (.bool (decide (j ≤ i))) := ep_cmp (fun _ _ => op_ge) ha hb rvd_b0
theorem ep_eqI (ha : EW c a Γ (.int i)) (hb : EW c b Γ (.int j)) : EP c (.Compare a [.Eq] [b] pos) Γ (.bool (decide (i = j))) := ep_cmp (fun _ _ => op_eq) ha hb rvd_eqI
theorem ep_neI (ha : EW c a Γ (.int i)) (hb : EW c b Γ (.int j)) : EP c (.Compare a [.NotEq] [b] pos) Γ (.bool (!decide (i = j))) := ep_cmp (fun _ _ => op_ne) ha hb rvd_neI
theorem ep_eqB {i j : Bool} (ha : EW c a Γ (.bool i)) (hb : EW c b Γ (.bool j)) : EP c (.Compare a [.Eq] [b] pos) Γ (.bool (i == j)) := ep_cmp (fun _ _ => op_eq) ha hb rvd_eqB
theorem ep_neB {i j : Bool} (ha : EW c a Γ (.bool i)) (hb : EW c b Γ (.bool j)) : EP c (.Compare a [.NotEq] [b] pos) Γ (.bool (i != j)) := ep_cmp (fun _ _ => op_ne) ha hb rvd_neB
def D.isNone : D → Bool
  | .none => true
  | _ => false
theorem ep_isN {j'} {pos'} (ha : EW c a Γ d) : EP c (.Compare a [.Is] [.Constant .none j' pos'] pos) Γ (.bool d.isNone) := ep_cmp (fun _ _ => op_isN) ha ep_none.w (by
  have z := rvd_isN (d := d)
  cases d <;> exact z)
theorem ep_eq (ha : EW c a Γ d) (hb : EW c b Γ x) (hd : d.ok) (hx : x.ok) : EP c (.Compare a [.Eq] [b] pos) Γ (.bool (d.eq x)) := ep_cmp (r := rEqD c.K) (fun X cx => cx.K ▸ op_eqD cx.room.units) ha hb (rvd_eq hd hx)
theorem ep_ne (ha : EW c a Γ d) (hb : EW c b Γ x) (hd : d.ok) (hx : x.ok) : EP c (.Compare a [.NotEq] [b] pos) Γ (.bool (!d.eq x)) := ep_cmp (r := rNeD c.K) (fun X cx => cx.K ▸ op_neD cx.room.units) ha hb (rvd_ne hd hx)
theorem ep_inD {ds : List D} (ha : EW c a Γ d) (hb : EW c b Γ (.list ds)) (hd : d.ok) (hx : (D.list ds).ok) (hm : behindInMarks .In b = false := by rfl) : EP c (.Compare a [.In] [b] pos) Γ (.bool (ds.any fun z => z.eq d)) := ep_cmp (r := rInD c.K) (fun X cx => cx.K ▸ op_inD cx.hu65) ha hb (rvd_inD hd hx) hm
/-! ### tests -/
theorem tp_lt (ha : EW c a Γ (.int i)) (hb : EW c b Γ (.int j)) : TP c (.Compare a [.Lt] [b] pos) Γ (decide (i < j)) := tp_cmp (fun _ _ => op_lt) ha hb rvd_b0
theorem tp_gt (ha : EW c a Γ (.int i)) (hb : EW c b Γ (.int j)) : TP c (.Compare a [.Gt] [b] pos) Γ (decide (j < i)) := tp_cmp (fun _ _ => op_gt) ha hb rvd_b0
theorem tp_ge (ha : EW c a Γ (.int i)) (hb : EW c b Γ (.int j)) : TP c (.Compare a [.GtE] [b] pos) Γ (decide (j ≤ i)) := tp_cmp (fun _ _ => op_ge) ha hb rvd_b0
theorem tp_eqI (ha : EW c a Γ (.int i)) (hb : EW c b Γ (.int j)) : TP c (.Compare a [.Eq] [b] pos) Γ (decide (i = j)) := tp_cmp (fun _ _ => op_eq) ha hb rvd_eqI
theorem tp_neI (ha : EW c a Γ (.int i)) (hb : EW c b Γ (.int j)) : TP c (.Compare a [.NotEq] [b] pos) Γ (!decide (i = j)) := tp_cmp (fun _ _ => op_ne) ha hb rvd_neI
theorem tp_neB {i j : Bool} (ha : EW c a Γ (.bool i)) (hb : EW c b Γ (.bool j)) : TP c (.Compare a [.NotEq] [b] pos) Γ (i != j) := tp_cmp (fun _ _ => op_ne) ha hb rvd_neB
theorem tp_eq (ha : EW c a Γ d) (hb : EW c b Γ x) (hd : d.ok) (hx : x.ok) : TP c (.Compare a [.Eq] [b] pos) Γ (d.eq x) := tp_cmp (r := rEqD c.K) (fun X cx => cx.K ▸ op_eqD cx.room.units) ha hb (rvd_eq hd hx)
theorem tp_ne (ha : EW c a Γ d) (hb : EW c b Γ x) (hd : d.ok) (hx : x.ok) : TP c (.Compare a [.NotEq] [b] pos) Γ (!d.eq x) := tp_cmp (r := rNeD c.K) (fun X cx => cx.K ▸ op_neD cx.room.units) ha hb (rvd_ne hd hx)
theorem tp_ninD {ds : List D} (ha : EW c a Γ d) (hb : EW c b Γ (.list ds)) (hd : d.ok) (hx : (D.list ds).ok) (hm : behindInMarks .NotIn b = false := by rfl) : TP c (.Compare a [.NotIn] [b] pos) Γ (!ds.any fun z => z.eq d) := tp_cmp (r := rNotInD c.K) (fun X cx => cx.K ▸ op_notInD cx.hu65) ha hb (rvd_ninD hd hx) hm
theorem tp_inL {ns : List Int} (ha : EW c a Γ (.int i)) (hb : EW c b Γ (.list (ns.map .int))) (hm : behindInMarks .In b = false := by rfl) : TP c (.Compare a [.In] [b] pos) Γ (decide (i ∈ ns)) := tp_cmp (r := rIn c.K false) (fun X cx => cx.K ▸ op_in_seq) ha hb rvd_inLI hm
theorem tp_ninL {ns : List Int} (ha : EW c a Γ (.int i)) (hb : EW c b Γ (.list (ns.map .int))) (hm : behindInMarks .NotIn b = false := by rfl) : TP c (.Compare a [.NotIn] [b] pos) Γ (!decide (i ∈ ns)) := tp_cmp (r := rIn c.K true) (fun X cx => cx.K ▸ op_notIn_seq) ha hb rvd_inLI hm
theorem tp_inT {ns : List Int} (ha : EW c a Γ (.int i)) (hb : EW c b Γ (.tup kk (ns.map .int))) (hm : behindInMarks .In b = false := by rfl) : TP c (.Compare a [.In] [b] pos) Γ (decide (i ∈ ns)) := tp_cmp (r := rIn c.K false) (fun X cx => cx.K ▸ op_in_seq) ha hb rvd_inTI hm
theorem ep_inL {ns : List Int} (ha : EW c a Γ (.int i)) (hb : EW c b Γ (.list (ns.map .int))) (hm : behindInMarks .In b = false := by rfl) : EP c (.Compare a [.In] [b] pos) Γ (.bool (decide (i ∈ ns))) := ep_cmp (r := rIn c.K false) (fun X cx => cx.K ▸ op_in_seq) ha hb rvd_inLI hm
theorem ep_inT {ns : List Int} (ha : EW c a Γ (.int i)) (hb : EW c b Γ (.tup kk (ns.map .int))) (hm : behindInMarks .In b = false := by rfl) : EP c (.Compare a [.In] [b] pos) Γ (.bool (decide (i ∈ ns))) := ep_cmp (r := rIn c.K false) (fun X cx => cx.K ▸ op_in_seq) ha hb rvd_inTI hm
theorem ep_cat {xs ys : List D} (ha : EW c a Γ (.list xs)) (hb : EW c b Γ (.list ys)) (hz : xs.length + ys.length ≤ 100000) : EP c (.BinOp a .Add b pos) Γ (.list (xs ++ ys)) := ep_bin (fun _ _ => op_cat) ha hb (rvd_cat (by rw [sizeLine_eq]; omega))
theorem ep_catT {xs ys : List D} {k1 k2 : Bool} (ha : EW c a Γ (.tup k1 xs)) (hb : EW c b Γ (.tup k2 ys)) (hx : xs ≠ []) (hy : ys ≠ []) (hz : xs.length + ys.length ≤ 100000) : EP c (.BinOp a .Add b pos) Γ (.tup true (xs ++ ys)) := ep_bin (r := rCatF c.K) (fun X cx => cx.K ▸ op_catF) ha hb (rvd_catF hx hy (by rw [sizeLine_eq]; omega))
/-! ### isinstance -/
def D.ty : D → String
  | .none => "NoneType"
  | .bool _ => "bool"
  | .int _ => "int"
  | .str _ => "str"
  | .list _ => "list"
  | .tup _ _ => "tuple"
theorem Rw.ty {K : PySem.W.Frag} {B : Av} {H : Hp} {v : V} (r : Rw B H v d) : TyX K H v (.type d.ty) := by
  cases r with
  | non => exact .base .non
  | bl b => exact .base (.bl b)
  | int i => exact .base (.int i)
  | str s => exact .base (.str s)
  | lst h _ => exact .base (.lst h)
  | @tup k _ _ _ h _ =>
    cases k with
    | false => exact .base (.tup h)
    | true => obtain ⟨o, h, _⟩ := h; exact .fTuple h
theorem ep_isi {T : String} {nT : Str} {k : Bool} (hg : c.gl "isinstance") (hm : c.mg "isinstance" = none) (hgT : c.gl nT) (hmT : c.mg nT = none) (hvT : bootBuiltins nT = some (.type T)) (ha : EW c a Γ d) (hk : kitB d.ty T = some k)
    (hn : nT ≠ "__name__" := by decide) (hdT : (nT == ("__debug__" : Str)) = false := by decide) (he : ∀ env : Env, starEach [a, .Name nT p2] env = (false, eval a env) :: starEach [.Name nT p2] env := by intro _; rfl) : EP c (.Call (.Name "isinstance" p) [a, .Name nT p2] [] pos) Γ (.bool k) := fun H0 B0 B σ H Q S q X cx =>
  go_e (pe_callB call_isi (cx.gl hg) (by rw [cx.mg]; exact hm) (by decide +kernel) (pa_cons (pe_of X a) (pa_cons (pe_bltn (v := .ty T) (cx.gl hgT) (by rw [cx.mg]; exact hmT) hvT rfl hn hdT) pa_nil rfl) (he X.env)) (by decide) (by decide) (he X.env) rfl)
    (ha H0 B0 B σ H _ S (fun v H1 e1 r1 => ⟨v, .ty T, _, _, k, rfl, .ty T, r1.ty, kit_ty hk, q _ H1 e1 (.bl k)⟩) X cx)
/-- isinstance(x, (list, tuple)) -/
theorem ep_isiLT {k : Bool} {x1} {p3 p4 : Pos} (hg : c.gl "isinstance") (hm : c.mg "isinstance" = none) (hg1 : c.gl "list") (hm1 : c.mg "list" = none) (hg2 : c.gl "tuple") (hm2 : c.mg "tuple" = none) (ha : EW c a Γ d) (hk : k = (decide (d.ty = "list") || decide (d.ty = "tuple")))
    (he : ∀ env : Env, starEach [a, .Tuple [.Name "list" p2, .Name "tuple" p3] x1 p4] env = (false, eval a env) :: starEach [.Tuple [.Name "list" p2, .Name "tuple" p3] x1 p4] env := by intro _; rfl) : EP c (.Call (.Name "isinstance" p) [a, .Tuple [.Name "list" p2, .Name "tuple" p3] x1 p4] [] pos) Γ (.bool k) := fun H0 B0 B σ H Q S q X cx =>
  go_e (pe_callB call_isiT (cx.gl hg) (by rw [cx.mg]; exact hm) (by decide +kernel) (pa_cons (pe_of X a) (pa_cons (pe_tup (pa_cons (pe_bltn (v := .ty "list") (cx.gl hg1) (by rw [cx.mg]; exact hm1) (by decide +kernel) rfl) (pa_cons (pe_bltn (v := .ty "tuple") (cx.gl hg2) (by rw [cx.mg]; exact hm2) (by decide +kernel) rfl) pa_nil rfl) rfl)) pa_nil rfl) (he X.env)) (by decide) (by decide) (he X.env) rfl)
    (ha H0 B0 B σ H _ S (fun v H1 e1 r1 => ⟨by show 2 ≤ sizeLine; decide, fun tp htp => ⟨v, tp, [.ty "list", .ty "tuple"], _, [.type "list", .type "tuple"], k, rfl, upd_same, .cons (.ty _) (.cons (.ty _) .nil), (r1.ext (Ext.new htp)).ty, by
      subst hk
      cases d <;> rfl, q _ _ (e1.trans (Ext.new htp)) (.bl k)⟩⟩) X cx)
end
end GL
end
/-! ## TX -/
section
namespace GL
open PySem PySem.Spec PyProof.Rows L2
/-! ### the text -/
def topS (i : Nat) : Stmt := PySem.Challenge.pw_gonetold_k13_whole_tellings_and_the_coar.main.body.getD i (.Pass ⟨0, 0, 0, 0⟩)
abbrev s_is_number : Stmt := topS 5
abbrev n_is_number : List Str := ["thing"]
theorem sc_is_number : FnScope n_is_number ["thing"] (defScope s_is_number) := ⟨rfl, rfl, rfl, by decide +kernel, rfl, by decide +kernel, by decide +kernel⟩
abbrev s_tuple_of : Stmt := topS 6
abbrev n_tuple_of : List Str := ["thing", "part"]
theorem sc_tuple_of : FnScope n_tuple_of ["thing"] (defScope s_tuple_of) := ⟨rfl, rfl, rfl, by decide +kernel, rfl, by decide +kernel, by decide +kernel⟩
abbrev s_come_to : Stmt := topS 8
abbrev n_come_to : List Str := ["steps", "found", "now", "later", "state", "letter", "goal"]
theorem sc_come_to : FnScope n_come_to ["steps"] (defScope s_come_to) := ⟨rfl, rfl, rfl, by decide +kernel, rfl, by decide +kernel, by decide +kernel⟩
abbrev s_kinds_of : Stmt := topS 9
abbrev n_kinds_of : List Str := ["steps", "ends", "states", "kind", "many", "keys", "names", "state", "goal", "number", "key"]
theorem sc_kinds_of : FnScope n_kinds_of ["steps", "ends", "states"] (defScope s_kinds_of) := ⟨rfl, rfl, rfl, by decide +kernel, rfl, by decide +kernel, by decide +kernel⟩
abbrev s_least_of : Stmt := topS 10
abbrev n_least_of : List Str := ["steps", "ends", "states", "kind", "firsts", "numbers", "state", "rows", "goal", "number"]
theorem sc_least_of : FnScope n_least_of ["steps", "ends"] (defScope s_least_of) := ⟨rfl, rfl, rfl, by decide +kernel, rfl, by decide +kernel, by decide +kernel⟩
abbrev s_least : Stmt := topS 11
abbrev n_least : List Str := ["machine", "steps", "ends"]
theorem sc_least : FnScope n_least ["machine"] (defScope s_least) := ⟨rfl, rfl, rfl, by decide +kernel, rfl, by decide +kernel, by decide +kernel⟩
abbrev s_backs_of : Stmt := topS 12
abbrev n_backs_of : List Str := ["steps", "found", "now", "goal", "state", "row"]
theorem sc_backs_of : FnScope n_backs_of ["steps"] (defScope s_backs_of) := ⟨rfl, rfl, rfl, by decide +kernel, rfl, by decide +kernel, by decide +kernel⟩
abbrev s_leads_back : Stmt := topS 13
abbrev n_leads_back : List Str := ["machine", "steps"]
theorem sc_leads_back : FnScope n_leads_back ["machine"] (defScope s_leads_back) := ⟨rfl, rfl, rfl, by decide +kernel, rfl, by decide +kernel, by decide +kernel⟩
abbrev s_returns_machine : Stmt := topS 15
abbrev n_returns_machine : List Str := ["machine"]
theorem sc_returns_machine : FnScope n_returns_machine ["machine"] (defScope s_returns_machine) := ⟨rfl, rfl, rfl, by decide +kernel, rfl, by decide +kernel, by decide +kernel⟩
abbrev s_tail_of : Stmt := topS 16
abbrev n_tail_of : List Str := ["steps", "state", "met", "now", "later", "one", "other", "word", "letter", "pair"]
theorem sc_tail_of : FnScope n_tail_of ["steps", "state"] (defScope s_tail_of) := ⟨rfl, rfl, rfl, by decide +kernel, rfl, by decide +kernel, by decide +kernel⟩
abbrev s_keeps_tails : Stmt := topS 17
abbrev n_keeps_tails : List Str := ["machine", "steps", "state"]
theorem sc_keeps_tails : FnScope n_keeps_tails ["machine"] (defScope s_keeps_tails) := ⟨rfl, rfl, rfl, by decide +kernel, rfl, by decide +kernel, by decide +kernel⟩
abbrev s_is_telling : Stmt := topS 19
abbrev n_is_telling : List Str := ["thing", "own", "fresh"]
theorem sc_is_telling : FnScope n_is_telling ["thing"] (defScope s_is_telling) := ⟨rfl, rfl, rfl, by decide +kernel, rfl, by decide +kernel, by decide +kernel⟩
abbrev s_numbered : Stmt := topS 20
abbrev n_numbered : List Str := ["row", "met", "found", "own"]
theorem sc_numbered : FnScope n_numbered ["row"] (defScope s_numbered) := ⟨rfl, rfl, rfl, by decide +kernel, rfl, by decide +kernel, by decide +kernel⟩
abbrev s_tellings : Stmt := topS 21
abbrev n_tellings : List Str := ["many", "found", "_", "own", "token"]
theorem sc_tellings : FnScope n_tellings ["many"] (defScope s_tellings) := ⟨rfl, rfl, rfl, by decide +kernel, rfl, by decide +kernel, by decide +kernel⟩
abbrev s_told : Stmt := topS 22
abbrev n_told : List Str := ["telling", "word", "letter"]
theorem sc_told : FnScope n_told ["telling", "word"] (defScope s_told) := ⟨rfl, rfl, rfl, by decide +kernel, rfl, by decide +kernel, by decide +kernel⟩
abbrev s_letters_with : Stmt := topS 23
abbrev n_letters_with : List Str := ["telling", "token", "found", "letter"]
theorem sc_letters_with : FnScope n_letters_with ["telling", "token"] (defScope s_letters_with) := ⟨rfl, rfl, rfl, by decide +kernel, rfl, by decide +kernel, by decide +kernel⟩
abbrev s_spread : Stmt := topS 24
abbrev n_spread : List Str := ["telling", "tokens", "found", "letters", "token", "word", "letter"]
theorem sc_spread : FnScope n_spread ["telling", "tokens"] (defScope s_spread) := ⟨rfl, rfl, rfl, by decide +kernel, rfl, by decide +kernel, by decide +kernel⟩
abbrev s_stand_in : Stmt := topS 25
abbrev n_stand_in : List Str := ["telling", "word", "token"]
theorem sc_stand_in : FnScope n_stand_in ["telling", "word"] (defScope s_stand_in) := ⟨rfl, rfl, rfl, by decide +kernel, rfl, by decide +kernel, by decide +kernel⟩
abbrev s_two : Stmt := topS 26
abbrev n_two : List Str := ["one", "other", "near", "far"]
theorem sc_two : FnScope n_two ["one", "other"] (defScope s_two) := ⟨rfl, rfl, rfl, by decide +kernel, rfl, by decide +kernel, by decide +kernel⟩
abbrev s_is_finer : Stmt := topS 27
abbrev n_is_finer : List Str := ["one", "other", "near", "far", "place", "token"]
theorem sc_is_finer : FnScope n_is_finer ["one", "other"] (defScope s_is_finer) := ⟨rfl, rfl, rfl, by decide +kernel, rfl, by decide +kernel, by decide +kernel⟩
abbrev s_joined : Stmt := topS 28
abbrev n_joined : List Str := ["one", "other", "near", "far", "found", "token", "lot", "place", "own"]
theorem sc_joined : FnScope n_joined ["one", "other"] (defScope s_joined) := ⟨rfl, rfl, rfl, by decide +kernel, rfl, by decide +kernel, by decide +kernel⟩
abbrev s_met : Stmt := topS 29
abbrev n_met : List Str := ["one", "other", "near", "far", "place"]
theorem sc_met : FnScope n_met ["one", "other"] (defScope s_met) := ⟨rfl, rfl, rfl, by decide +kernel, rfl, by decide +kernel, by decide +kernel⟩
abbrev s_coarsest : Stmt := topS 30
abbrev n_coarsest : List Str := ["machine", "steps", "row", "letter"]
theorem sc_coarsest : FnScope n_coarsest ["machine"] (defScope s_coarsest) := ⟨rfl, rfl, rfl, by decide +kernel, rfl, by decide +kernel, by decide +kernel⟩
abbrev s_good_tellings : Stmt := topS 31
abbrev n_good_tellings : List Str := ["machine", "most", "own"]
theorem sc_good_tellings : FnScope n_good_tellings ["machine"] (defScope s_good_tellings) := ⟨rfl, rfl, rfl, by decide +kernel, rfl, by decide +kernel, by decide +kernel⟩
abbrev s_l_box : Stmt := topS 33
abbrev n_l_box : List Str := ["_law_script", "_law_k", "_law_bit_so"]
theorem sc_l_box : FnScope n_l_box ["_law_script", "_law_k"] (defScope s_l_box) := ⟨rfl, rfl, rfl, by decide +kernel, rfl, by decide +kernel, by decide +kernel⟩
abbrev s_l_take : Stmt := topS 34
abbrev n_l_take : List Str := ["_law_tin", "_law_below_so", "_law_drawn", "_law_once_so", "_law_wide_so", "_law_twice_so"]
theorem sc_l_take : FnScope n_l_take ["_law_tin", "_law_below_so"] (defScope s_l_take) := ⟨rfl, rfl, rfl, by decide +kernel, rfl, by decide +kernel, by decide +kernel⟩
abbrev s_l_cells : Stmt := topS 35
abbrev n_l_cells : List Str := ["_law_script", "_law_most_so", "_law_cells_so", "_law_k", "_law_bit_so", "_law_at_so"]
theorem sc_l_cells : FnScope n_l_cells ["_law_script", "_law_most_so"] (defScope s_l_cells) := ⟨rfl, rfl, rfl, by decide +kernel, rfl, by decide +kernel, by decide +kernel⟩
abbrev s_l_of : Stmt := topS 36
abbrev n_l_of : List Str := ["_law_tin", "_law_goods_so"]
theorem sc_l_of : FnScope n_l_of ["_law_tin", "_law_goods_so"] (defScope s_l_of) := ⟨rfl, rfl, rfl, by decide +kernel, rfl, by decide +kernel, by decide +kernel⟩
abbrev s_l_pick : Stmt := topS 37
abbrev n_l_pick : List Str := ["_law_tin", "_law_goods_so", "_law_count_so", "_law_pool_so", "_law_found", "_law_lap"]
theorem sc_l_pick : FnScope n_l_pick ["_law_tin", "_law_goods_so", "_law_count_so"] (defScope s_l_pick) := ⟨rfl, rfl, rfl, by decide +kernel, rfl, by decide +kernel, by decide +kernel⟩
abbrev s_l_lists : Stmt := topS 38
abbrev n_l_lists : List Str := ["_law_matter", "_law_bit"]
theorem sc_l_lists : FnScope n_l_lists ["_law_matter"] (defScope s_l_lists) := ⟨rfl, rfl, rfl, by decide +kernel, rfl, by decide +kernel, by decide +kernel⟩
abbrev s_l_same : Stmt := topS 39
abbrev n_l_same : List Str := ["_law_got", "_law_due", "_law_mine", "_law_its"]
theorem sc_l_same : FnScope n_l_same ["_law_got", "_law_due"] (defScope s_l_same) := ⟨rfl, rfl, rfl, by decide +kernel, rfl, by decide +kernel, by decide +kernel⟩
abbrev s_l_machine : Stmt := topS 40
abbrev n_l_machine : List Str := ["_law_tin", "_law_most_so", "_law_letters_so", "_law_many_so", "_law_kind_so", "_law_columns_so", "_law_lap", "_law_ends_so", "_law_own", "_law_state_so"]
theorem sc_l_machine : FnScope n_l_machine ["_law_tin", "_law_most_so", "_law_letters_so"] (defScope s_l_machine) := ⟨rfl, rfl, rfl, by decide +kernel, rfl, by decide +kernel, by decide +kernel⟩
abbrev s_l_lot : Stmt := topS 41
abbrev n_l_lot : List Str := ["_law_many_so", "_law_state_so", "_law_lots_so", "_law_own", "_law_k"]
theorem sc_l_lot : FnScope n_l_lot ["_law_many_so", "_law_state_so"] (defScope s_l_lot) := ⟨rfl, rfl, rfl, by decide +kernel, rfl, by decide +kernel, by decide +kernel⟩
abbrev s_l_go : Stmt := topS 42
abbrev n_l_go : List Str := ["_law_steps_so", "_law_state_so", "_law_word_so", "_law_own"]
theorem sc_l_go : FnScope n_l_go ["_law_steps_so", "_law_state_so", "_law_word_so"] (defScope s_l_go) := ⟨rfl, rfl, rfl, by decide +kernel, rfl, by decide +kernel, by decide +kernel⟩
abbrev s_l_least : Stmt := topS 43
abbrev n_l_least : List Str := ["_law_machine_so", "_law_steps_so", "_law_ends_so", "_law_own", "_law_lot_so", "_law_lap", "_law_its", "_law_rows_so", "_law_found", "_law_walk_so", "_law_heads_so", "_law_k"]
theorem sc_l_least : FnScope n_l_least ["_law_machine_so"] (defScope s_l_least) := ⟨rfl, rfl, rfl, by decide +kernel, rfl, by decide +kernel, by decide +kernel⟩
abbrev s_l_tails : Stmt := topS 44
abbrev n_l_tails : List Str := ["_law_steps_so", "_law_own", "_law_pairs_so", "_law_known_so", "_law_one_so", "_law_two_so", "_law_k"]
theorem sc_l_tails : FnScope n_l_tails ["_law_steps_so"] (defScope s_l_tails) := ⟨rfl, rfl, rfl, by decide +kernel, rfl, by decide +kernel, by decide +kernel⟩
abbrev s_l_backs : Stmt := topS 45
abbrev n_l_backs : List Str := ["_law_steps_so", "_law_found", "_law_lap", "_law_its", "_law_own"]
theorem sc_l_backs : FnScope n_l_backs ["_law_steps_so"] (defScope s_l_backs) := ⟨rfl, rfl, rfl, by decide +kernel, rfl, by decide +kernel, by decide +kernel⟩
abbrev s_l_numbered : Stmt := topS 46
abbrev n_l_numbered : List Str := ["_law_row_so", "_law_known_so", "_law_own"]
theorem sc_l_numbered : FnScope n_l_numbered ["_law_row_so"] (defScope s_l_numbered) := ⟨rfl, rfl, rfl, by decide +kernel, rfl, by decide +kernel, by decide +kernel⟩
abbrev s_l_coarsest : Stmt := topS 47
abbrev n_l_coarsest : List Str := ["_law_steps_so", "_law_loops_so", "_law_own", "_law_k"]
theorem sc_l_coarsest : FnScope n_l_coarsest ["_law_steps_so"] (defScope s_l_coarsest) := ⟨rfl, rfl, rfl, by decide +kernel, rfl, by decide +kernel, by decide +kernel⟩
abbrev s_l_finer : Stmt := topS 48
abbrev n_l_finer : List Str := ["_law_one_so", "_law_two_so", "_law_k", "_law_n"]
theorem sc_l_finer : FnScope n_l_finer ["_law_one_so", "_law_two_so"] (defScope s_l_finer) := ⟨rfl, rfl, rfl, by decide +kernel, rfl, by decide +kernel, by decide +kernel⟩
abbrev s_l_all_tellings : Stmt := topS 49
abbrev n_l_all_tellings : List Str := ["_law_many_so", "_law_found", "_law_lap", "_law_later_so", "_law_own", "_law_k"]
theorem sc_l_all_tellings : FnScope n_l_all_tellings ["_law_many_so"] (defScope s_l_all_tellings) := ⟨rfl, rfl, rfl, by decide +kernel, rfl, by decide +kernel, by decide +kernel⟩
abbrev s_l_heard : Stmt := topS 50
abbrev n_l_heard : List Str := ["_law_machine_so", "flaw_so"]
theorem sc_l_heard : FnScope n_l_heard ["_law_machine_so"] (defScope s_l_heard) := ⟨rfl, rfl, rfl, by decide +kernel, rfl, by decide +kernel, by decide +kernel⟩
abbrev s_l_spread : Stmt := topS 51
abbrev n_l_spread : List Str := ["_law_telling_so", "_law_tokens_so", "_law_found", "_law_own", "_law_later_so", "_law_word_so", "_law_k"]
theorem sc_l_spread : FnScope n_l_spread ["_law_telling_so", "_law_tokens_so"] (defScope s_l_spread) := ⟨rfl, rfl, rfl, by decide +kernel, rfl, by decide +kernel, by decide +kernel⟩
abbrev s_l_by_hand_right : Stmt := topS 52
abbrev n_l_by_hand_right : List Str := ["_law_got", "_law_due"]
theorem sc_l_by_hand_right : FnScope n_l_by_hand_right [] (defScope s_l_by_hand_right) := ⟨rfl, rfl, rfl, by decide +kernel, rfl, by decide +kernel, by decide +kernel⟩
abbrev s_l_order_right : Stmt := topS 53
abbrev n_l_order_right : List Str := ["_law_tin", "_law_all_so", "_law_one_so", "_law_two_so", "_law_above_so", "_law_below_so", "_law_top_so", "_law_low_so", "_law_got", "_law_own", "_law_its"]
theorem sc_l_order_right : FnScope n_l_order_right ["_law_tin", "_law_all_so"] (defScope s_l_order_right) := ⟨rfl, rfl, rfl, by decide +kernel, rfl, by decide +kernel, by decide +kernel⟩
abbrev s_l_words_right : Stmt := topS 54
abbrev n_l_words_right : List Str := ["_law_tin", "_law_telling_so", "_law_word_so", "_law_tokens_so", "_law_stand_so", "_law_got", "_law_lap", "_law_own"]
theorem sc_l_words_right : FnScope n_l_words_right ["_law_tin", "_law_telling_so"] (defScope s_l_words_right) := ⟨rfl, rfl, rfl, by decide +kernel, rfl, by decide +kernel, by decide +kernel⟩
abbrev s_l_machine_right : Stmt := topS 55
abbrev n_l_machine_right : List Str := ["_law_tin", "_law_letters_so", "_law_all_so", "_law_machine_so", "_law_steps_so", "_law_most_so", "_law_due", "_law_word_so", "_law_state_so", "_law_tokens_so", "_law_rows_so", "_law_own", "_law_lap", "_law_k"]
theorem sc_l_machine_right : FnScope n_l_machine_right ["_law_tin", "_law_letters_so", "_law_all_so"] (defScope s_l_machine_right) := ⟨rfl, rfl, rfl, by decide +kernel, rfl, by decide +kernel, by decide +kernel⟩
abbrev s_l_nearer : Stmt := topS 56
abbrev n_l_nearer : List Str := ["_law_steps_so", "_law_state_so", "_law_letter_so", "_law_far_so", "_law_lap", "_law_own", "_law_its"]
theorem sc_l_nearer : FnScope n_l_nearer ["_law_steps_so", "_law_state_so", "_law_letter_so"] (defScope s_l_nearer) := ⟨rfl, rfl, rfl, by decide +kernel, rfl, by decide +kernel, by decide +kernel⟩
abbrev s_l_right : Stmt := topS 57
abbrev n_l_right : List Str := ["_law_tin", "_law_many_so", "_law_all_so", "_law_lap", "_law_letters_so"]
theorem sc_l_right : FnScope n_l_right ["_law_tin"] (defScope s_l_right) := ⟨rfl, rfl, rfl, by decide +kernel, rfl, by decide +kernel, by decide +kernel⟩
abbrev s_law : Stmt := topS 58
abbrev n_law : List Str := ["_law_script"]
theorem sc_law : FnScope n_law ["_law_script"] (defScope s_law) := ⟨rfl, rfl, rfl, by decide +kernel, rfl, by decide +kernel, by decide +kernel⟩
/-- a def of the text as it stands behind the top -/
structure Df (K : PySem.W.Frag) (mg : Str → Option Value) (n : Str) (st : Stmt) (ps : List Str) : Prop where
  ex : ∃ (f : Addr) (fd : FuncData), mg n = some (.ref f) ∧ L2.Fun K n n st f fd ∧ Binds K fd ps []
/-- a def of the text keeps a promise -/
structure Pm (P : Program) (w : World) (K : PySem.W.Frag) (mg : Str → Option Value) (base : Heap) (l : Nat) (n : Str) (ps : List Str) (sp : Sp) : Prop where
  ex : ∃ (f : Addr) (fd : FuncData), mg n = some (.ref f) ∧ PySem.W.keepIn K (.ref f) = true ∧ Binds K fd ps [] ∧ FnOk P w K mg base CX0 l f fd ps sp
section
variable {P : Program} {w : World} {K : PySem.W.Frag} {mg : Str → Option Value} {base : Heap} {l k : Nat} {n : Str} {ps N : List Str} {sp : Sp} {st st2 : Stmt}
theorem Pm.fd (h : Pm P w K mg base l n ps sp) (hk : l ≤ k) : FD (c0 P w K mg base N st k) n ps sp := let ⟨f, fd, h1, h2, h3, h4⟩ := h.ex; ⟨f, fd, l, h1, h2, h3, hk, h4⟩
theorem Df.pm (h : Df K mg n st ps) (ok : ∀ f fd, L2.Fun K n n st f fd → FnOk P w K mg base CX0 l f fd ps sp) : Pm P w K mg base l n ps sp := let ⟨f, fd, h1, h2, h3⟩ := h.ex; ⟨f, fd, h1, h2.kp, h3, ok f fd h2⟩
theorem Df.pmD {R : List D → D → Prop} (h : Df K mg n st ps) (S : FnScope N ps (defScope st)) (len : ∀ ds d, R ds d → ds.length = ps.length)
    (body : ∀ ds d, R ds d → BX (c0 P w K mg base N st k) (defBody st) (startG N ds) { rt := fun _ r => r = d, nx := fun _ => d = .none }) : Pm P w K mg base (k + 1) n ps (spD R) := h.pm fun _ _ F => okD F S len body
theorem Df.pmO {R : List D → Ob → Prop} (h : Df K mg n st ps) (S : FnScope N ps (defScope st)) (len : ∀ ds d, R ds d → ds.length = ps.length)
    (body : ∀ ds d, R ds d → BX (c0 P w K mg base N st k) (defBody st) (startG N ds) { ro := fun _ r => r = d }) : Pm P w K mg base (k + 1) n ps (spO R) := h.pm fun _ _ F => okO F S len body
end
structure Tx (K : PySem.W.Frag) (mg : Str → Option Value) : Prop where
  d_is_number : Df K mg "is_number" s_is_number ["thing"]
  d_tuple_of : Df K mg "tuple_of" s_tuple_of ["thing"]
  d_come_to : Df K mg "come_to" s_come_to ["steps"]
  d_kinds_of : Df K mg "kinds_of" s_kinds_of ["steps", "ends", "states"]
  d_least_of : Df K mg "least_of" s_least_of ["steps", "ends"]
  d_least : Df K mg "least" s_least ["machine"]
  d_backs_of : Df K mg "backs_of" s_backs_of ["steps"]
  d_leads_back : Df K mg "leads_back" s_leads_back ["machine"]
  d_returns_machine : Df K mg "returns_machine" s_returns_machine ["machine"]
  d_tail_of : Df K mg "tail_of" s_tail_of ["steps", "state"]
  d_keeps_tails : Df K mg "keeps_tails" s_keeps_tails ["machine"]
  d_is_telling : Df K mg "is_telling" s_is_telling ["thing"]
  d_numbered : Df K mg "numbered" s_numbered ["row"]
  d_tellings : Df K mg "tellings" s_tellings ["many"]
  d_told : Df K mg "told" s_told ["telling", "word"]
  d_letters_with : Df K mg "letters_with" s_letters_with ["telling", "token"]
  d_spread : Df K mg "spread" s_spread ["telling", "tokens"]
  d_stand_in : Df K mg "stand_in" s_stand_in ["telling", "word"]
  d_two : Df K mg "two" s_two ["one", "other"]
  d_is_finer : Df K mg "is_finer" s_is_finer ["one", "other"]
  d_joined : Df K mg "joined" s_joined ["one", "other"]
  d_met : Df K mg "met" s_met ["one", "other"]
  d_coarsest : Df K mg "coarsest" s_coarsest ["machine"]
  d_good_tellings : Df K mg "good_tellings" s_good_tellings ["machine"]
  d_l_box : Df K mg "_law_box" s_l_box ["_law_script", "_law_k"]
  d_l_take : Df K mg "_law_take" s_l_take ["_law_tin", "_law_below_so"]
  d_l_cells : Df K mg "_law_cells" s_l_cells ["_law_script", "_law_most_so"]
  d_l_of : Df K mg "_law_of" s_l_of ["_law_tin", "_law_goods_so"]
  d_l_pick : Df K mg "_law_pick" s_l_pick ["_law_tin", "_law_goods_so", "_law_count_so"]
  d_l_lists : Df K mg "_law_lists" s_l_lists ["_law_matter"]
  d_l_same : Df K mg "_law_same" s_l_same ["_law_got", "_law_due"]
  d_l_machine : Df K mg "_law_machine" s_l_machine ["_law_tin", "_law_most_so", "_law_letters_so"]
  d_l_lot : Df K mg "_law_lot" s_l_lot ["_law_many_so", "_law_state_so"]
  d_l_go : Df K mg "_law_go" s_l_go ["_law_steps_so", "_law_state_so", "_law_word_so"]
  d_l_least : Df K mg "_law_least" s_l_least ["_law_machine_so"]
  d_l_tails : Df K mg "_law_tails" s_l_tails ["_law_steps_so"]
  d_l_backs : Df K mg "_law_backs" s_l_backs ["_law_steps_so"]
  d_l_numbered : Df K mg "_law_numbered" s_l_numbered ["_law_row_so"]
  d_l_coarsest : Df K mg "_law_coarsest" s_l_coarsest ["_law_steps_so"]
  d_l_finer : Df K mg "_law_finer" s_l_finer ["_law_one_so", "_law_two_so"]
  d_l_all_tellings : Df K mg "_law_all_tellings" s_l_all_tellings ["_law_many_so"]
  d_l_heard : Df K mg "_law_heard" s_l_heard ["_law_machine_so"]
  d_l_spread : Df K mg "_law_spread" s_l_spread ["_law_telling_so", "_law_tokens_so"]
  d_l_by_hand_right : Df K mg "_law_by_hand_right" s_l_by_hand_right []
  d_l_order_right : Df K mg "_law_order_right" s_l_order_right ["_law_tin", "_law_all_so"]
  d_l_words_right : Df K mg "_law_words_right" s_l_words_right ["_law_tin", "_law_telling_so"]
  d_l_machine_right : Df K mg "_law_machine_right" s_l_machine_right ["_law_tin", "_law_letters_so", "_law_all_so"]
  d_l_nearer : Df K mg "_law_nearer" s_l_nearer ["_law_steps_so", "_law_state_so", "_law_letter_so"]
  d_l_right : Df K mg "_law_right" s_l_right ["_law_tin"]
  b_isinstance : mg "isinstance" = none
  b_int : mg "int" = none
  b_bool : mg "bool" = none
  b_list : mg "list" = none
  b_tuple : mg "tuple" = none
  b_dict : mg "dict" = none
  b_set : mg "set" = none
  b_sorted : mg "sorted" = none
  b_len : mg "len" = none
  b_enumerate : mg "enumerate" = none
  b_range : mg "range" = none
  b_all : mg "all" = none
  b_any : mg "any" = none
  b_max : mg "max" = none
  b_min : mg "min" = none
  b_abs : mg "abs" = none
  b_zip : mg "zip" = none
  b_str : mg "str" = none
end GL
end
/-! ## G13 -/
section
namespace GL
open PySem PySem.Spec PyProof.Rows L2
section
variable {c : Cp} {Γ Γ' Γ1 Γ2 : Gm} {e a b t elt tg iter ix : Expr} {es ifs : List Expr} {d x y z : D} {pos p p2 apos cpos : Pos} {n n2 : Str} {scope : Scope} {vs ts : List Nat} {i j : Int} {kk : Bool} {E : En} {st : Stmt} {rest : List Stmt}
/-! ### short words -/
theorem nm (i : Nat) (hN : c.N[i]? = some n := by rfl) (hv : Vis c.sc n := by first | exact .inl rfl | exact .inr (.inl rfl) | exact .inr (.inr rfl)) (hg : Γ[i]? = some (.val d) := by rfl) (hd : (n == ("__debug__" : Str)) = false := by decide) (hcd : (n == ("__classdict__" : Str)) = false := by decide) : EP c (.Name n pos) Γ d := ep_name hN hv hg hd hcd
theorem ow (i : Nat) {ds : List D} (hN : c.N[i]? = some n := by rfl) (hv : Vis c.sc n := by first | exact .inl rfl | exact .inr (.inl rfl) | exact .inr (.inr rfl)) (hg : Γ[i]? = some (.own (.lst ds)) := by rfl) (hd : (n == ("__debug__" : Str)) = false := by decide) (hcd : (n == ("__classdict__" : Str)) = false := by decide) : EW c (.Name n pos) Γ (.list ds) := ew_own hN hv hg hd hcd
theorem nw (i : Nat) (hN : c.N[i]? = some n := by rfl) (hv : Vis c.sc n := by first | exact .inl rfl | exact .inr (.inl rfl) | exact .inr (.inr rfl)) (hg : Γ[i]? = some (.val d) := by rfl) (hd : (n == ("__debug__" : Str)) = false := by decide) (hcd : (n == ("__classdict__" : Str)) = false := by decide) : EW c (.Name n pos) Γ d := (ep_name hN hv hg hd hcd).w
theorem gn (i : Nat) (hN : c.N[i]? = some n := by rfl) (hx : Loc c.sc n := by first | exact .inl rfl | exact .inr rfl) (hf : c.fn n = true ∨ c.sc.names.lookup n = some .local := by first | exact .inl rfl | exact .inr rfl) : GT c (.Name n pos) [i] Γ d (Γ.set i (.val d)) := gt_name hN hx hf
theorem gn2 (i j : Nat) {p1 p2 : Pos} {kq : Nat} {kb : Bool} {d1 d2 : D} (hN : c.N[i]? = some n := by rfl) (hx : Loc c.sc n := by first | exact .inl rfl | exact .inr rfl) (hf : c.fn n = true ∨ c.sc.names.lookup n = some .local := by first | exact .inl rfl | exact .inr rfl)
    (hN2 : c.N[j]? = some n2 := by rfl) (hx2 : Loc c.sc n2 := by first | exact .inl rfl | exact .inr rfl) (hf2 : c.fn n2 = true ∨ c.sc.names.lookup n2 = some .local := by first | exact .inl rfl | exact .inr rfl) : GT c (.Tuple [.Name n p1, .Name n2 p2] kq pos) [i, j] Γ (.tup kb [d1, d2]) ((Γ.set i (.val d1)).set j (.val d2)) := gt_pair hN hx hf hN2 hx2 hf2
/-- x = e, e pure -/
theorem bs_set (i : Nat) {s : Sl} (h : ESp c e Γ s) (k : BX c rest (Γ.set i s) E) (hN : c.N[i]? = some n := by rfl) (hx : Loc c.sc n := by first | exact .inl rfl | exact .inr rfl) (hf : c.fn n = true ∨ c.sc.names.lookup n = some .local := by first | exact .inl rfl | exact .inr rfl)
    (hs : ∀ env : Env, env.scope = c.sc → swapsWith e (some (.Name n p)) pos.line env = pure false := by intro _ _; rfl) : BX c (.Assign [.Name n p] e pos :: rest) Γ E :=
  bx_cons (sx_set hN hx hf h.s (fun s' Γ' q => by obtain ⟨rfl, rfl⟩ := q; exact k) hs)
theorem bs_setX (i : Nat) {P : D → Gm → Prop} (h : EX c e Γ P) (k : ∀ d Γ', P d Γ' → BX c rest (Γ'.set i (.val d)) E) (hN : c.N[i]? = some n := by rfl) (hx : Loc c.sc n := by first | exact .inl rfl | exact .inr rfl) (hf : c.fn n = true ∨ c.sc.names.lookup n = some .local := by first | exact .inl rfl | exact .inr rfl)
    (hs : ∀ env : Env, env.scope = c.sc → swapsWith e (some (.Name n p)) pos.line env = pure false := by intro _ _; rfl) : BX c (.Assign [.Name n p] e pos :: rest) Γ E :=
  bx_cons (sx_set hN hx hf h.s (fun s' Γ' q => by obtain ⟨d, rfl, pp⟩ := q; exact k d Γ' pp) hs)
/-- a, b = x, y, the names local -/
theorem bs_par (i j : Nat) {n1 : Str} {p1 pt : Pos} {kt k2 : Nat} {pt2 : Pos} {s1 s2 : Sl} (ha : ESp c a Γ s1) (hb : ESp c b Γ s2) (k : BX c rest ((Γ.set i s1).set j s2) E) (hij : i ≠ j := by decide) (hN : c.N[i]? = some n1 := by rfl) (hN2 : c.N[j]? = some n2 := by rfl) (hx : c.sc.names.lookup n1 = some .local := by rfl) (hx2 : c.sc.names.lookup n2 = some .local := by rfl)
    (hw : swappedStores [.Tuple [.Name n1 p1, .Name n2 p2] kt pt] (.Tuple [a, b] k2 pt2) { scope := c.sc, locals := 0, globals := 0, cells := [] } = pure (some [n1, n2]) := by rfl) (hs : ∀ env : Env, swapsWithSole [.Tuple [.Name n1 p1, .Name n2 p2] kt pt] (.Tuple [a, b] k2 pt2) pos.line env = pure false := by intro _; rfl)
    (he : ∀ env : Env, starEach [a, b] env = (false, eval a env) :: starEach [b] env := by intro _; rfl) (he2 : ∀ env : Env, starEach [b] env = (false, eval b env) :: starEach [] env := by intro _; rfl) :
    BX c (.Assign [.Tuple [.Name n1 p1, .Name n2 p2] kt pt] (.Tuple [a, b] k2 pt2) pos :: rest) Γ E :=
  bx_cons (sx_par hij hN hN2 hx hx2 ha.s (fun s Γ1 q => by obtain ⟨rfl, rfl⟩ := q; exact ⟨s2, hb, k⟩) (sws_of hw) hs he he2)
/-- a, b = e, e a pair -/
theorem bs_pair (i j : Nat) {n1 : Str} {p1 pt : Pos} {kt : Nat} {kb : Bool} {d1 d2 : D} (h : EP c e Γ (.tup kb [d1, d2])) (k : BX c rest ((Γ.set i (.val d1)).set j (.val d2)) E) (hN : c.N[i]? = some n1 := by rfl) (hx : Loc c.sc n1 := by first | exact .inl rfl | exact .inr rfl) (hf : c.fn n1 = true ∨ c.sc.names.lookup n1 = some .local := by first | exact .inl rfl | exact .inr rfl)
    (hN2 : c.N[j]? = some n2 := by rfl) (hx2 : Loc c.sc n2 := by first | exact .inl rfl | exact .inr rfl) (hf2 : c.fn n2 = true ∨ c.sc.names.lookup n2 = some .local := by first | exact .inl rfl | exact .inr rfl)
    (hs : ∀ env : Env, swapsWithSole [.Tuple [.Name n1 p1, .Name n2 p2] kt pt] e pos.line env = pure false := by intro _; rfl) (hw : ∀ env : Env, swappedStores [.Tuple [.Name n1 p1, .Name n2 p2] kt pt] e env = pure none := by intro _; rfl)
    (h1 : ∀ env : Env, (assignEach [.Tuple [.Name n1 p1, .Name n2 p2] kt pt] env).map (·.2) = [assign (.Tuple [.Name n1 p1, .Name n2 p2] kt pt) env] := by intro _; rfl) : BX c (.Assign [.Tuple [.Name n1 p1, .Name n2 p2] kt pt] e pos :: rest) Γ E :=
  bx_cons (sx_asg h.toX (fun d' Γ1 q => by obtain ⟨rfl, rfl⟩ := q; exact ⟨_, _, gt_pair hN hx hf hN2 hx2 hf2, k⟩) hs hw h1)
/-- return e -/
theorem bs_ret (h : EP c e Γ d) (k : E.rt Γ d) : BX c (.Return (some e) pos :: rest) Γ E := bx_cons (sx_ret h k)
theorem bs_app (s : Nat) {ds : List D} (h : EP c e Γ d) (k : BX c rest (Γ.set s (.own (.lst (ds ++ [d])))) E) (hN : c.N[s]? = some n := by rfl) (hv : Vis c.sc n := by first | exact .inl rfl | exact .inr (.inl rfl) | exact .inr (.inr rfl)) (hg : Γ[s]? = some (.own (.lst ds)) := by rfl)
    (hm : ∀ X to t, PE X (.Name n p) to → PA X [e] t → PE X (.Call (.Attribute (.Name n p) "append" apos) [e] [] cpos) (tBM X.K "list" rAppend to t) := by exact fun X to t h1 h2 => pe_bm PySem.F.plainAttrs_list PySem.F.slot_list_append PySem.F.type_list_append mt_append h1 h2)
    (hs : ∀ env : Env, swapsWith (.Call (.Attribute (.Name n p) "append" apos) [e] [] cpos) none pos.line env = pure false := by intro _; rfl) (he : ∀ env : Env, starEach [e] env = (false, eval e env) :: starEach [] env := by intro _; rfl) (hd : (n == ("__debug__" : Str)) = false := by decide) (hcd : (n == ("__classdict__" : Str)) = false := by decide) (hz : ds.length ≤ 100000 := by (try simp only [List.length_map, List.length_append, List.length_cons, List.length_nil, List.length_take]); omega) :
    BX c (.Expr (.Call (.Attribute (.Name n p) "append" apos) [e] [] cpos) pos :: rest) Γ E := bx_cons (sx_appendP hN hv hg h hz k hm hs he hd hcd)
end
/-! ### data in short -/
abbrev dN (n : Nat) : D := .int (n : Int)
abbrev dT (l : List Nat) : D := .tup true (l.map dN)
abbrev dL (l : List Nat) : D := .list (l.map dN)
theorem fold_take {α β : Type} (step : β → α → β) (s : β) (l : List α) {i : Nat} (h : i < l.length) : (l.take (i + 1)).foldl step s = step ((l.take i).foldl step s) l[i] := by
  rw [List.take_add_one, List.getElem?_eq_getElem h, List.foldl_append]; rfl
theorem idxOf_ne {α : Type} [DecidableEq α] {x : α} : ∀ {l : List α} {m : Nat} {y : α}, m < l.idxOf x → l[m]? = some y → y ≠ x
  | [], m, y, _, h => by cases h
  | a :: l, m, y, hm, h => by
    rw [List.idxOf_cons] at hm
    by_cases e : a = x
    · simp [e] at hm
    · have e' : (a == x) = false := beq_eq_false_iff_ne.mpr e
      rw [e'] at hm
      cases m with
      | zero => cases h; exact e
      | succ m => exact idxOf_ne (l := l) (m := m) (by simpa using hm) h
/-! ### things that == tells apart as they are -/
structure Kd (α : Type) [DecidableEq α] where
  f : α → D
  eq : ∀ a b, (f a).eq (f b) = decide (a = b)
  ok : ∀ a, (f a).ok
  oks : ∀ l : List α, (D.list (l.map f)).ok
section
variable {α : Type} [DecidableEq α] (k : Kd α)
theorem Kd.any (x : α) : ∀ l : List α, ((l.map k.f).any fun z => z.eq (k.f x)) = decide (x ∈ l)
  | [] => by simp
  | y :: l => by
    rw [List.map_cons, List.any_cons, Kd.any x l, k.eq, Bool.eq_iff_iff]
    simp only [Bool.or_eq_true, decide_eq_true_eq, List.mem_cons]
    exact ⟨fun h => h.imp Eq.symm id, fun h => h.imp Eq.symm id⟩
theorem eqvAll_map {β : Type} [DecidableEq β] {g : β → D} (h : ∀ a b, (g a).eq (g b) = decide (a = b)) : ∀ l m : List β, PyData.eqvAll (D.pyAll (l.map g)) (D.pyAll (m.map g)) = decide (l = m)
  | [], [] => by simp [D.pyAll, PyData.eqvAll]
  | [], y :: m => by simp [D.pyAll, PyData.eqvAll]
  | x :: l, [] => by simp [D.pyAll, PyData.eqvAll]
  | x :: l, y :: m => by
    rw [List.map_cons, List.map_cons, D.pyAll, D.pyAll, PyData.eqvAll, eqvAll_map h l m]
    have e : PyData.eqv (g x).py (g y).py = decide (x = y) := h x y
    rw [e, Bool.eq_iff_iff]
    simp
/-- the data's depth, and that the library can lay it -/
def D.fit (n : Nat) (d : D) : Prop := d.py.canLay0 = true ∧ d.py.depth ≤ n
theorem D.fit.ok {n : Nat} {d : D} (h : d.fit n) (hn : n ≤ 64) : d.ok := by
  show (d.py.canLay0 && decide (d.py.depth ≤ 64)) = true
  rw [Bool.and_eq_true]
  exact ⟨h.1, decide_eq_true (Nat.le_trans h.2 hn)⟩
theorem D.fit.mono {n m : Nat} {d : D} (h : d.fit n) (hn : n ≤ m) : d.fit m := ⟨h.1, Nat.le_trans h.2 hn⟩
theorem fit_all {n : Nat} : ∀ ds : List D, (∀ d ∈ ds, d.fit n) → PyData.canLayAll0 (D.pyAll ds) = true ∧ PyData.depthAll (D.pyAll ds) ≤ n
  | [], _ => by simp [D.pyAll, PyData.canLayAll0, PyData.depthAll]
  | d :: ds, h => by
    obtain ⟨h1, h2⟩ := fit_all ds fun x hx => h x (List.mem_cons_of_mem _ hx)
    obtain ⟨h3, h4⟩ := h d List.mem_cons_self
    simp only [D.pyAll, PyData.canLayAll0, PyData.depthAll, h1, h3, Bool.and_self, true_and]
    omega
theorem fit_list {n : Nat} {ds : List D} (h : ∀ d ∈ ds, d.fit n) : (D.list ds).fit (n + 1) := by
  obtain ⟨h1, h2⟩ := fit_all ds h
  refine ⟨by simp only [D.py, PyData.canLay0]; exact h1, by simp only [D.py, PyData.depth]; omega⟩
theorem fit_tup {n : Nat} {ds : List D} {k : Bool} (h : ∀ d ∈ ds, d.fit n) : (D.tup k ds).fit (n + 1) := by
  obtain ⟨h1, h2⟩ := fit_all ds h
  refine ⟨by simp only [D.py, PyData.canLay0]; exact h1, by simp only [D.py, PyData.depth]; omega⟩
theorem fit_int (i : Int) : (D.int i).fit 0 := ⟨by simp only [D.py, PyData.canLay0], by simp [D.py, PyData.depth]⟩
theorem fit_bool (i : Bool) : (D.bool i).fit 0 := ⟨by simp only [D.py, PyData.canLay0], by simp [D.py, PyData.depth]⟩
theorem fit_none : (D.none).fit 0 := ⟨by simp only [D.py, PyData.canLay0], by simp [D.py, PyData.depth]⟩
theorem fit_str (i : Str) (h : PyData.strOk i = true) : (D.str i).fit 0 := ⟨by simp only [D.py, PyData.canLay0]; exact h, by simp [D.py, PyData.depth]⟩
def Kd.mk' {α : Type} [DecidableEq α] (f : α → D) (n : Nat) (hn : n ≤ 60) (eq : ∀ a b, (f a).eq (f b) = decide (a = b)) (fit : ∀ a, (f a).fit n) : Kd α :=
  ⟨f, eq, fun a => (fit a).ok (by omega), fun l => (fit_list (n := n) (fun d hd => by obtain ⟨a, _, rfl⟩ := List.mem_map.mp hd; exact fit a)).ok (by omega)⟩
theorem eq_dN (a b : Nat) : (dN a).eq (dN b) = decide (a = b) := by
  show PyData.eqv (.int a) (.int b) = _
  simp only [PyData.eqv]
  rw [Bool.eq_iff_iff]; simp only [beq_iff_eq, decide_eq_true_eq]; omega
theorem eq_tup {β : Type} [DecidableEq β] {g : β → D} (h : ∀ a b, (g a).eq (g b) = decide (a = b)) (l m : List β) {k1 k2 : Bool} : (D.tup k1 (l.map g)).eq (.tup k2 (m.map g)) = decide (l = m) := by
  show PyData.eqv (.tuple _) (.tuple _) = _
  simp only [PyData.eqv]
  exact eqvAll_map h l m
theorem eq_lst {β : Type} [DecidableEq β] {g : β → D} (h : ∀ a b, (g a).eq (g b) = decide (a = b)) (l m : List β) : (D.list (l.map g)).eq (.list (m.map g)) = decide (l = m) := by
  show PyData.eqv (.list _) (.list _) = _
  simp only [PyData.eqv]
  exact eqvAll_map h l m
theorem fit_map {β : Type} {g : β → D} {n : Nat} (h : ∀ b, (g b).fit n) (l : List β) : ∀ d ∈ l.map g, d.fit n := fun d hd => by obtain ⟨a, _, rfl⟩ := List.mem_map.mp hd; exact h a
def kdN : Kd Nat := Kd.mk' dN 0 (by decide) eq_dN fun a => fit_int a
def kdT (k : Bool) : Kd (List Nat) := Kd.mk' (fun l => .tup k (l.map dN)) 1 (by decide) (fun a b => eq_tup eq_dN a b) fun a => fit_tup (fit_map (fun b : Nat => fit_int b) a)
/-- now != [], found == [] -/
theorem ok_nil : (D.list []).ok := (fit_list (n := 0) (fun d hd => by cases hd)).ok (by decide)
theorem eq_nil (ds : List D) : (D.list ds).eq (.list []) = ds.isEmpty := by
  show PyData.eqv (.list _) (.list _) = _
  cases ds <;> simp [D.pyAll, PyData.eqv, PyData.eqvAll]
/-- xs.index(y), y one of them -/
theorem ep_idx {c : Cp} {Γ : Gm} {a b : Expr} {apos cpos : Pos} {l : List α} {x : α} (ha : EW c a Γ (.list (l.map k.f))) (hb : EW c b Γ (k.f x)) (hx : x ∈ l)
    (hm : ∀ X to t, X.A.units + 65 < cLine → PE X a to → PA X [b] t → PE X (.Call (.Attribute a "index" apos) [b] [] cpos) (tBM X.K "list" (rIndexD X.K) to t) := by exact fun X to t hu h1 h2 => pe_bm PySem.F.plainAttrs_list PySem.F.slot_list_index PySem.F.type_list_index (mt_indexD hu) h1 h2) (he : ∀ env : Env, starEach [b] env = (false, eval b env) :: starEach [] env := by intro _; rfl) :
    EP c (.Call (.Attribute a "index" apos) [b] [] cpos) Γ (dN (l.idxOf x)) := by
  have hj : l.idxOf x < l.length := List.idxOf_lt_length_iff.mpr hx
  refine ep_indexL (j := l.idxOf x) (z := k.f x) ha hb (k.ok _) (k.oks _) ?_ ?_ ?_ hm he
  · rw [List.getElem?_map, List.getElem?_eq_getElem hj, List.getElem_idxOf hj]; rfl
  · rw [k.eq]; simp
  · intro m z' hm hz'
    rw [List.getElem?_map] at hz'
    obtain ⟨y, hy, rfl⟩ := Option.map_eq_some_iff.mp hz'
    rw [k.eq]
    exact decide_eq_false (idxOf_ne hm hy)
end
end GL
end
/-! ## G14 -/
section
namespace GL
open PySem PySem.Spec PyProof.Rows L2
section
variable {c : Cp} {Γ Γ' Γ1 Γ2 : Gm} {e a b t elt tg iter ix : Expr} {es ifs : List Expr} {d x y z : D} {pos p p2 p3 q apos cpos : Pos} {n n2 : Str} {scope : Scope} {vs ts : List Nat} {i j : Int} {kk : Bool} {E : En} {st : Stmt} {rest : List Stmt}
/-! ### lists or tuples -/
theorem items_cases {ds : List D} (h : d.items = some ds) : d = .list ds ∨ ∃ k, d = .tup k ds := by
  cases d with
  | none => cases h
  | bool _ => cases h
  | int _ => cases h
  | str _ => cases h
  | list xs => cases h; exact .inl rfl
  | tup k xs => cases h; exact .inr ⟨k, rfl⟩
theorem is_seq {ds : List D} (h : EP c e Γ d) (hd : d.items = some ds) : IS c tg e Γ ds := by
  rcases items_cases hd with rfl | ⟨k, rfl⟩
  · exact is_list h
  · exact is_tup h
theorem iw_seq {ds : List D} (h : EP c e Γ d) (hd : d.items = some ds) : IW c tg e Γ ds := (is_seq h hd).w
theorem ep_ixS {ds : List D} {j : Nat} (ha : EW c a Γ x) (hx : x.items = some ds) (hb : EW c b Γ (.int i)) (hi : i = (j : Int)) (hd : ds[j]? = some d) (hs : PlainIx b := by exact fun _ _ => rfl) : EP c (.Subscript a b pos) Γ d := by
  rcases items_cases hx with rfl | ⟨k, rfl⟩
  · exact ep_ixL ha hb hi hd hs
  · exact ep_ixT ha hb hi hd hs
/-! ### t.index(x), t a tuple of ints -/
def tTupIx (K : PySem.W.Frag) (to : TE) (t : TA) : TE := fun σ H Q => to σ H fun x H1 => ∃ (p : Addr) (o : Obj) (ns : List Int), x = .ref p ∧ H1 p = some (.frz o (.tup (ns.map V.int))) ∧ o.dict = none ∧ t σ H1 fun xs H2 => ∃ (k : Int) (j : Nat), xs = [.int k] ∧ H2 p = some (.frz o (.tup (ns.map V.int))) ∧ ns[j]? = some k ∧ (∀ m, m < j → ns[m]? ≠ some k) ∧ Q (.int (j : Nat)) H2
theorem ints_flat : ∀ ns : List Int, (ns.map V.int).all flatV = true := flat_ints
theorem tupIx_run {X : Cx} {pins : List (Addr × Obj)} {s : Shared} {σ : St} {H : Hp} {Q : VK} {p : Addr} {ns : List Int} {k : Int} {j : Nat} {us : List Value} (I : Inv X pins σ H s) (hq : SqT X.K H p (ns.map V.int)) (hy : ns[j]? = some k) (hno : ∀ m, m < j → ns[m]? ≠ some k) (rs : Vals [V.int k] us) (hQ : Q (.int (j : Nat)) H) :
    wpAny (model X.prog X.w) X.A (call (.builtin "tuple.index") (.ref p :: us)) (L2.EP X pins σ Q) X.xe s := by
  obtain ⟨u, rfl, t, rfl⟩ := vals1 rs
  obtain ⟨its, r, pl, hz⟩ := I.tuple hq
  obtain ⟨⟨cls, dd, dt, sl⟩, ho, hc, n, hd⟩ := pl
  simp only at hc hd
  subst hc
  subst hd
  have hl : its.toArray.size = ns.length := by rw [List.size_toArray, ← r.length, List.length_map]
  have hj : j < its.toArray.size := by rw [hl]; exact (List.getElem?_eq_some_iff.mp hy).1
  have at' : ∀ (m : Nat) (hm : m < its.toArray.size), ∃ y t', ns[m]? = some y ∧ its.toArray[m] = Value.int y t' := fun m hm => by
    have hm' : m < ns.length := by rw [← hl]; exact hm
    obtain ⟨w, hw, t', hw'⟩ := r.get (i := m) (x := .int ns[m]) (by simp [hm'])
    refine ⟨ns[m], t', List.getElem?_eq_getElem hm', ?_⟩
    have e := (List.getElem?_eq_some_iff.mp hw).2
    rw [← hw', ← e]
    simp
  refine call_meets PySem.F.slot_tuple_index ⟨_, ho, rfl⟩ PySem.F.entry_tuple_index (PySem.F.args_tuple_index_2 _ _) (TI.tuple_indexAt p its.toArray n dd sl (.int k t) (eqU (.int k)) j hj ?_ ?_)
    ⟨ho, fun w hw => mem_eqAt (x := .int k) ⟨t, rfl⟩ rfl r (flat_ints ns) w (by simpa using hw), ⟨.int (j : Nat), H, I.tok _, ⟨_, rfl⟩, hQ⟩⟩
  · obtain ⟨y, t', h1, h2⟩ := at' j hj
    rw [hy] at h1
    cases h1
    rw [h2]
    show (k == k) = true
    exact beq_self_eq_true k
  · intro m hm hmj
    obtain ⟨y, t', h1, h2⟩ := at' m hm
    rw [h2]
    show (y == k) = false
    rw [beq_eq_false_iff_ne]
    intro z
    subst z
    exact hno m hmj h1
theorem pe_tupIx {X : Cx} {o e : Expr} {to : TE} {t : TA} {apos cpos : Pos} (ho : PE X o to) (ha : PA X [e] t)
    (hbase : attributeBase o "index" X.env (eval o X.env) = eval o X.env := by rfl)
    (hfew : ((backTo cpos (starEach [e] X.env)).all (fun x => !x.1) && (backToKw cpos (keywordEach [] X.env)).all (fun x => x.1.isSome)
      && decide ([e].length + ([] : List Keyword).length + (if ([] : List Keyword).isEmpty then 0 else 1) < 30)) = true := by rfl)
    (hline : (apos.endLine == cpos.line) = true := by rfl) (hs : starEach [e] X.env = (false, eval e X.env) :: starEach [] X.env := by rfl) :
    PE X (.Call (.Attribute o "index" apos) [e] [] cpos) (tTupIx X.K to t) := by
  refine ⟨fun pins s σ H Q I h => ?_⟩
  refine wpAny_Call_method_late hbase hfew hline rfl (thn (ho.run pins s σ H _ I h) fun v s1 ⟨x, H1, I1, r1, p, ob, ns, ex, hp, hdn, q1⟩ => ?_)
  subst ex
  cases r1
  have hob := (I1.hok p _ hp).1
  have hty : s1.TypeIs (.ref p) "tuple" := by
    obtain ⟨_, _, pl, _⟩ := I1.tuple (.inl (.inr ⟨_, hp⟩))
    obtain ⟨o', ho', hc', _⟩ := pl
    exact ⟨o', ho', hc'⟩
  refine ⟨"tuple", "tuple.index", PySem.F.plainAttrs_tuple, PySem.F.slot_tuple_index, PySem.F.type_tuple_index, hty, fun a e => by cases e; exact ⟨ob, hob, hdn⟩, ?_⟩
  have hA := ha.run cpos pins s1 σ H1 _ I1 q1
  rw [hs] at hA ⊢
  refine Calls.callWith_builtin (by rfl) (Calls.evalArgs_plain ?_)
  refine thn hA fun us s2 ⟨vs, H2, I2, r2, k, j, ek, hp2, hy, hno, q2⟩ => ?_
  subst ek
  exact tupIx_run I2 (.inl (.inr ⟨_, hp2⟩)) hy hno r2 q2
theorem ep_tupIx {ns : List Int} {j : Nat} (ha : EW c a Γ (.tup true (ns.map .int))) (hb : EW c b Γ (.int i)) (hy : ns[j]? = some i) (hno : ∀ m, m < j → ns[m]? ≠ some i)
    (hm : ∀ X to t, PE X a to → PA X [b] t → PE X (.Call (.Attribute a "index" apos) [b] [] cpos) (tTupIx X.K to t) := by exact fun X to t h1 h2 => pe_tupIx h1 h2) (he : ∀ env : Env, starEach [b] env = (false, eval b env) :: starEach [] env := by intro _; rfl) :
    EP c (.Call (.Attribute a "index" apos) [b] [] cpos) Γ (.int (j : Nat)) := fun H0 B0 B σ H Q S k X cx =>
  go_e (hm X _ _ (pe_of X a) (pa_cons (pe_of X b) pa_nil (he X.env))) (ha H0 B0 B σ H _ S (fun v H1 e1 r1 => by
    cases r1 with
    | @tup _ q xs _ hl r =>
      obtain ⟨o, ho, hd⟩ := hl
      rw [r.map_int] at ho
      refine ⟨q, o, ns, rfl, ho, hd, hb H0 B0 B σ H1 _ (S.ext e1) (fun w H2 e2 r2 => ?_) X cx⟩
      cases r2
      exact ⟨i, j, rfl, e2 _ _ ho, hy, hno, k _ H2 (e1.trans e2) (.int _)⟩) X cx)
theorem ep_tidx {l : List Nat} {m : Nat} (ha : EW c a Γ (dT l)) (hb : EW c b Γ (dN m)) (hx : m ∈ l)
    (hm : ∀ X to t, PE X a to → PA X [b] t → PE X (.Call (.Attribute a "index" apos) [b] [] cpos) (tTupIx X.K to t) := by exact fun X to t h1 h2 => pe_tupIx h1 h2) (he : ∀ env : Env, starEach [b] env = (false, eval b env) :: starEach [] env := by intro _; rfl) :
    EP c (.Call (.Attribute a "index" apos) [b] [] cpos) Γ (dN (l.idxOf m)) := by
  have hj : l.idxOf m < l.length := List.idxOf_lt_length_iff.mpr hx
  refine ep_tupIx (ns := l.map fun (x : Nat) => (x : Int)) (j := l.idxOf m) (by rw [List.map_map]; exact ha) hb ?_ ?_ hm he
  · rw [List.getElem?_map, List.getElem?_eq_getElem hj, List.getElem_idxOf hj]; rfl
  · intro k hk h
    rw [List.getElem?_map] at h
    obtain ⟨y, hy, e⟩ := Option.map_eq_some_iff.mp h
    exact idxOf_ne hk hy (by omega)
/-! ### sorted(set(t)), len(set(xs)) -/
def insS (x : Int) : List Int → List Int
  | [] => [x]
  | y :: l => if x < y then x :: y :: l else if x = y then y :: l else y :: insS x l
def sortSet (l : List Int) : List Int := l.foldr insS []
theorem insS_mem {x y : Int} : ∀ {l : List Int}, y ∈ insS x l ↔ y = x ∨ y ∈ l
  | [] => by simp [insS]
  | z :: l => by
    unfold insS
    split
    · simp
    · split
      · rename_i h1 h2; subst h2; simp
      · rw [List.mem_cons, insS_mem (l := l), List.mem_cons]
        constructor
        · rintro (h | h | h)
          · exact .inr (.inl h)
          · exact .inl h
          · exact .inr (.inr h)
        · rintro (h | h | h)
          · exact .inr (.inl h)
          · exact .inl h
          · exact .inr (.inr h)
theorem insS_lt {x : Int} : ∀ {l : List Int}, l.Pairwise (· < ·) → (insS x l).Pairwise (· < ·)
  | [], _ => by simp [insS]
  | z :: l, h => by
    obtain ⟨h1, h2⟩ := List.pairwise_cons.mp h
    unfold insS
    split
    · rename_i hx
      refine List.pairwise_cons.mpr ⟨fun y hy => ?_, h⟩
      rcases List.mem_cons.mp hy with rfl | hy
      · exact hx
      · exact Int.lt_trans hx (h1 y hy)
    · split
      · exact h
      · rename_i hx hne
        refine List.pairwise_cons.mpr ⟨fun y hy => ?_, insS_lt h2⟩
        rcases insS_mem.mp hy with rfl | hy
        · omega
        · exact h1 y hy
theorem sortSet_lt : ∀ l : List Int, (sortSet l).Pairwise (· < ·)
  | [] => List.Pairwise.nil
  | x :: l => insS_lt (sortSet_lt l)
theorem sortSet_mem {y : Int} : ∀ {l : List Int}, y ∈ sortSet l ↔ y ∈ l
  | [] => Iff.rfl
  | x :: l => by
    show y ∈ insS x (sortSet l) ↔ _
    rw [insS_mem, sortSet_mem (l := l), List.mem_cons]
theorem lt_unique : ∀ {a b : List Int}, a.Pairwise (· < ·) → b.Pairwise (· < ·) → (∀ x, x ∈ a ↔ x ∈ b) → a = b
  | [], [], _, _, _ => rfl
  | [], y :: b, _, _, h => by have := (h y).mpr List.mem_cons_self; cases this
  | x :: a, [], _, _, h => by have := (h x).mp List.mem_cons_self; cases this
  | x :: a, y :: b, ha, hb, h => by
    obtain ⟨a1, a2⟩ := List.pairwise_cons.mp ha
    obtain ⟨b1, b2⟩ := List.pairwise_cons.mp hb
    have e : x = y := by
      rcases List.mem_cons.mp ((h x).mp List.mem_cons_self) with e | hx
      · exact e
      · rcases List.mem_cons.mp ((h y).mpr List.mem_cons_self) with e | hy
        · exact e.symm
        · have := b1 x hx; have := a1 y hy; omega
    subst e
    congr 1
    refine lt_unique a2 b2 fun z => ?_
    constructor
    · intro hz
      rcases List.mem_cons.mp ((h z).mp (List.mem_cons_of_mem _ hz)) with e | hz'
      · have := a1 z hz; omega
      · exact hz'
    · intro hz
      rcases List.mem_cons.mp ((h z).mpr (List.mem_cons_of_mem _ hz)) with e | hz'
      · have := b1 z hz; omega
      · exact hz'
theorem eo_sortSet {ns : List Int} {kk : Bool} (hg : c.gl "sorted") (hm : c.mg "sorted" = none) (hg2 : c.gl "set") (hm2 : c.mg "set" = none) (ha : EW c a Γ (.tup kk (ns.map .int))) (hz : ns.length < 60) (he : ∀ env : Env, starEach [a] env = (false, eval a env) :: starEach [] env := by intro _; rfl) : EO c (.Call (.Name "sorted" p) [.Call (.Name "set" p2) [a] [] p3] [] pos) Γ (.lst ((sortSet ns).map .int)) := fun H0 B0 B σ H Q S k X cx =>
  go_e (pe_callB (cr_sortedSet cx.calm) (cx.gl hg) (by rw [cx.mg]; exact hm) (by decide +kernel) (pa_cons (pe_callTy (cr_setTI cx.calm) (cx.gl hg2) (by rw [cx.mg]; exact hm2) (by decide +kernel) (pa_cons (pe_of X a) pa_nil (he X.env)) (by decide) (by decide) (he X.env) rfl) pa_nil rfl) (by decide) (by decide) rfl rfl)
    (ha H0 B0 B σ H _ S (fun v H1 e1 r1 => by
      cases r1 with
      | @tup _ l xs _ hl r =>
        rw [r.map_int] at hl
        refine ⟨l, ns, rfl, hl.sq, by omega, fun q nq hq hn => ⟨q, _, nq, rfl, upd_same, by omega, fun ns' p' h1 h2 h3 hp' => ?_⟩⟩
        have e : ns' = sortSet ns := lt_unique h1 (sortSet_lt ns) fun x => by rw [h2 x, decide_eq_true_eq, sortSet_mem]
        subst e
        have e1' : Ext H (upd H1 q (SetO X.w q (fun j => decide (j ∈ ns)) nq)) := e1.trans (Ext.new hq)
        exact k p' _ (e1'.back hp') (e1'.trans (Ext.new hp')) ⟨_, upd_same, RpA.of_int _⟩) X cx)
theorem ep_lenSet {ns : List Int} (hg : c.gl "len") (hm : c.mg "len" = none) (hg2 : c.gl "set") (hm2 : c.mg "set" = none) (ha : EW c a Γ (.list (ns.map .int))) (hz : ns.length < 60) (he : ∀ env : Env, starEach [a] env = (false, eval a env) :: starEach [] env := by intro _; rfl) : EP c (.Call (.Name "len" p) [.Call (.Name "set" p2) [a] [] p3] [] pos) Γ (dN (firstMet (fun i => ns.getD i 0) ns.length).length) := fun H0 B0 B σ H Q S k X cx =>
  go_e (pe_lenSetG cx.calm (cx.gl hg) (by rw [cx.mg]; exact hm) (cx.gl hg2) (by rw [cx.mg]; exact hm2) (pe_of X a) (he X.env)) (ha H0 B0 B σ H _ S (fun v H1 e1 r1 => by
    cases r1 with
    | @lst l xs _ hl r =>
      rw [r.map_int] at hl
      exact ⟨l, ns, rfl, hl.sq, by omega, k _ H1 e1 (.int _)⟩) X cx)
/-! ### dicts made of pairs, their values -/
theorem mergeK_nodup : ∀ (kvs acc : List (Key × V)), ((acc ++ kvs).map (·.1)).Nodup → mergeK acc kvs = acc ++ kvs
  | [], acc, _ => by rw [List.append_nil]; rfl
  | x :: kvs, acc, h => by
    show mergeK (putK acc x.1 x.2) kvs = _
    have hn : (acc.any fun kv => decide (kv.1 = x.1)) = false := by
      rw [List.any_eq_false]
      intro y hy e
      have e' := of_decide_eq_true e
      rw [List.map_append, List.nodup_append] at h
      exact h.2.2 y.1 (List.mem_map.mpr ⟨y, hy, rfl⟩) x.1 (by rw [List.map_cons]; exact List.mem_cons_self) e'
    have e : putK acc x.1 x.2 = acc ++ [x] := by unfold putK; rw [hn]; rfl
    rw [e, mergeK_nodup kvs _ (by rw [List.append_assoc]; exact h), List.append_assoc]; rfl
def pairD (kb : Bool) (z : Int × D) : D := .tup kb [.int z.1, z.2]
theorem pairs_rp {B : Av} {H : Hp} {K : PySem.W.Frag} {kb : Bool} : ∀ {kvs : List (Int × D)} {vs : List V}, RpA B H vs (kvs.map (pairD kb)) → ∃ (ps : List Addr) (kws : List (Key × V)), vs = ps.map V.ref ∧ Paired (fun p (kv : Key × V) => SqT K H p [kV kv.1, kv.2]) ps kws ∧ KvR kI B H kvs kws
  | [], _, h => by cases h; exact ⟨[], [], rfl, .nil, .nil⟩
  | z :: kvs, _, h => by
    cases h with
    | cons r t =>
      obtain ⟨ps, kws, rfl, h1, h2⟩ := pairs_rp (K := K) t
      cases r with
      | tup hb ht r =>
        cases r with
        | cons r1 r =>
          cases r with
          | cons r2 r =>
            cases r
            cases r1
            exact ⟨_ :: ps, (kI z.1, _) :: kws, rfl, .cons ht.sq h1, .cons r2 h2⟩
theorem KvR.keys {κ κ' : Type} {f : κ → κ'} {B : Av} {H : Hp} : ∀ {kvs : List (κ × D)} {kws : List (κ' × V)}, KvR f B H kvs kws → kws.map (·.1) = (kvs.map (·.1)).map f
  | _, _, .nil => rfl
  | _, _, .cons _ t => by rw [List.map_cons, List.map_cons, List.map_cons, KvR.keys t]
theorem KvR.vals {κ κ' : Type} {f : κ → κ'} {B : Av} {H : Hp} : ∀ {kvs : List (κ × D)} {kws : List (κ' × V)}, KvR f B H kvs kws → RpA B H (kws.map (·.2)) (kvs.map (·.2))
  | _, _, .nil => .nil
  | _, _, .cons r t => .cons r (KvR.vals t)
theorem eo_dict {kvs : List (Int × D)} {kb : Bool} (hg : c.gl "dict") (hm : c.mg "dict" = none) (ha : EW c a Γ (.list (kvs.map (pairD kb)))) (hn : (kvs.map (·.1)).Nodup) (he : ∀ env : Env, starEach [a] env = (false, eval a env) :: starEach [] env := by intro _; rfl) : EO c (.Call (.Name "dict" p) [a] [] pos) Γ (.dK kvs) := fun H0 B0 B σ H Q S k X cx =>
  go_e (pe_callTy (call_dictP cx.calm) (cx.gl hg) (by rw [cx.mg]; exact hm) (by decide +kernel) (pa_cons (pe_of X a) pa_nil (he X.env)) (by decide) (by decide) (he X.env) rfl) (ha H0 B0 B σ H _ S (fun v H1 e1 r1 => by
    cases r1 with
    | @lst l xs _ hl r =>
      obtain ⟨ps, kws, rfl, h1, h2⟩ := pairs_rp (K := X.K) r
      refine ⟨l, ps, kws, rfl, hl.sq, h1, fun p' hp' => ?_⟩
      have nd : (([] ++ kws : List (Key × V)).map (·.1)).Nodup := by
        rw [List.nil_append, h2.keys]
        exact List.Pairwise.map _ (fun a b hne e => hne (kI_inj a b e)) hn
      rw [mergeK_nodup kws [] nd, List.nil_append]
      exact k p' _ (e1.back hp') (e1.trans (Ext.new hp')) ⟨kws, upd_same, h2.tr ⟨fun a o h _ => Ext.new hp' a o h, fun a q => q.elim (fun e => .inr (e ▸ hp')) .inl⟩⟩) X cx)
def pairT (kb : Bool) (z : List Int × D) : D := .tup kb [.tup false (z.1.map .int), z.2]
theorem pairsT_rp {B : Av} {H : Hp} {K : PySem.W.Frag} {kb : Bool} : ∀ {kvs : List (List Int × D)} {vs : List V}, RpA B H vs (kvs.map (pairT kb)) → ∃ (ps : List Addr) (es : List (List Int × Addr × V)), vs = ps.map V.ref ∧ Paired (fun p (e : List Int × Addr × V) => SqT K H p [.ref e.2.1, e.2.2] ∧ H e.2.1 = some (.tup (e.1.map V.int))) ps es ∧ es.map (·.1) = kvs.map (·.1) ∧ KvR kT B H kvs (es.map fun e => (kT e.1, e.2.2))
  | [], _, h => by cases h; exact ⟨[], [], rfl, .nil, rfl, .nil⟩
  | z :: kvs, _, h => by
    cases h with
    | cons r t =>
      obtain ⟨ps, es, rfl, h1, h2, h3⟩ := pairsT_rp (K := K) t
      cases r with
      | tup hb ht r =>
        cases r with
        | cons r1 r =>
          cases r with
          | cons r2 r =>
            cases r
            cases r1 with
            | @tup _ qa _ _ hb1 ht1 rr =>
              rw [rr.map_int] at ht1
              exact ⟨_ :: ps, (z.1, qa, _) :: es, rfl, .cons ⟨ht.sq, ht1⟩ h1, by rw [List.map_cons, List.map_cons, h2], .cons r2 h3⟩
theorem eo_dictT {kvs : List (List Int × D)} {kb : Bool} (hg : c.gl "dict") (hm : c.mg "dict" = none) (ha : EW c a Γ (.list (kvs.map (pairT kb)))) (hn : (kvs.map (·.1)).Nodup) (he : ∀ env : Env, starEach [a] env = (false, eval a env) :: starEach [] env := by intro _; rfl) : EO c (.Call (.Name "dict" p) [a] [] pos) Γ (.dT kvs) := fun H0 B0 B σ H Q S k X cx =>
  go_e (pe_callTy (cr_dictT cx.calm cx.room.units) (cx.gl hg) (by rw [cx.mg]; exact hm) (by decide +kernel) (pa_cons (pe_of X a) pa_nil (he X.env)) (by decide) (by decide) (he X.env) rfl) (ha H0 B0 B σ H _ S (fun v H1 e1 r1 => by
    cases r1 with
    | @lst l xs _ hl r =>
      obtain ⟨ps, es', rfl, h1, h2, h3⟩ := pairsT_rp (K := X.K) r
      refine ⟨l, ps, es', rfl, hl.sq, h1, by rw [h2]; exact hn, fun p' hp' => ?_⟩
      exact k p' _ (e1.back hp') (e1.trans (Ext.new hp')) ⟨_, upd_same, h3.tr ⟨fun a o h _ => Ext.new hp' a o h, fun a q => q.elim (fun e => .inr (e ▸ hp')) .inl⟩⟩) X cx)
/-- list(d.values()), d one's own -/
theorem eo_values {s : Nat} {kvs : List (Int × D)} (hg : c.gl "list") (hm : c.mg "list" = none) (hN : c.N[s]? = some n) (hv : Vis c.sc n) (hgs : Γ[s]? = some (.own (.dK kvs))) (hd : (n == ("__debug__" : Str)) = false := by decide) (hcd : (n == ("__classdict__" : Str)) = false := by decide)
    (hm' : ∀ X te, X.calm = true → PE X (.Name n p2) te → Gl X "list" → X.mg "list" = none → PE X (.Call (.Name "list" p) [.Call (.Attribute (.Name n p2) "values" apos) [] [] cpos] [] pos) (tListValues te) := by exact fun X te h1 h2 h3 h4 => pe_listValues h1 h2 h3 h4 (by decide +kernel)) : EO c (.Call (.Name "list" p) [.Call (.Attribute (.Name n p2) "values" apos) [] [] cpos] [] pos) Γ (.lst (kvs.map (·.2))) := fun H0 B0 B σ H Q S k X cx =>
  go_e (hm' X _ cx.calm (pe_var (by rw [cx.N]; exact hN) (by rw [cx.sc]; exact hv) hd hcd) (cx.gl hg) (by rw [cx.mg]; exact hm)) (by
    obtain ⟨q, f1, f2, f3, kws, f4, f5⟩ := S.own s _ hgs
    exact ⟨_, f1, q, kws, rfl, f4, fun p' hp' => k p' _ hp' (Ext.new hp') ⟨_, upd_same, f5.vals.new hp'⟩⟩)
/-- list(d), d a new dict: its keys -/
theorem eo_listDict {kvs : List (Int × D)} (hg : c.gl "list") (hm : c.mg "list" = none) (ha : EO c a Γ (.dK kvs)) (he : ∀ env : Env, starEach [a] env = (false, eval a env) :: starEach [] env := by intro _; rfl) : EO c (.Call (.Name "list" p) [a] [] pos) Γ (.lst (kvs.map fun z => .int z.1)) := fun H0 B0 B σ H Q S k X cx =>
  go_e (pe_callTy (call_list_dK cx.calm) (cx.gl hg) (by rw [cx.mg]; exact hm) (by decide +kernel) (pa_cons (pe_of X a) pa_nil (he X.env)) (by decide) (by decide) (he X.env) rfl) (ha H0 B0 B σ H _ S (fun q H1 hq e1 r1 => by
    obtain ⟨kws, h1, h2⟩ := r1
    refine ⟨q, kws, rfl, h1, fun l hl => k l _ (e1.back hl) (e1.trans (Ext.new hl)) ⟨_, upd_same, ?_⟩⟩
    have e : (kws.map fun kv => kV kv.1) = (kvs.map (·.1)).map V.int := by
      have z := congrArg (List.map kV) h2.keys
      rw [List.map_map] at z
      rw [show (kws.map fun kv => kV kv.1) = List.map (kV ∘ fun x => x.1) kws from rfl, z, List.map_map]; rfl
    rw [e]
    have e2 : (kvs.map fun z => D.int z.1) = (kvs.map (·.1)).map D.int := by rw [List.map_map]; rfl
    rw [e2]
    exact RpA.of_int _) X cx)
/-- {0: ()} -/
theorem eo_disp1 {v k' : Expr} {i : Int} (hk : EP c k' Γ (.int i)) (hv : EP c v Γ d) : EO c (.Dict [some k'] [v] pos) Γ (.dK [(i, d)]) := fun H0 B0 B σ H Q S k X cx =>
  go_e (pe_disp (pps_cons (pe_of X k') (pe_of X v) pps_nil) rfl rfl (by simp) (by show 1 ≤ 15; decide)) (by
    intro q hq
    have S1 := S.grow (Ext.new (o := .dK []) hq) hq ⟨_, upd_same⟩
    refine hk H0 B0 _ σ _ _ S1 (fun w H1 e1 r1 => hv H0 B0 _ σ H1 _ (S1.ext e1) (fun u H2 e2 r2 => ?_) X cx) X cx
    cases r1
    have hq2 : H2 q = some (.dK []) := e2 _ _ (e1 _ _ upd_same)
    refine ⟨hq2, [(.inl i, u)], rfl, by show 1 ≤ 15; decide, ?_⟩
    have eh : Ext H H2 := ((Ext.new hq).trans e1).trans e2
    refine k q _ hq (Ext.mut eh hq) ⟨[(kI i, u)], upd_same, .cons (r2.off (.inl rfl)) .nil⟩)
end
end GL
end
/-! ## G15 -/
section
namespace GL
open PySem PySem.Spec PyProof.Rows L2
/-- {k: v}, k a tuple of ints -/
def tDisp1T (tk tv : TE) : TE := fun σ H Q => ∀ p, H p = none → tk σ (upd H p (.dT [])) fun x H1 => tv σ H1 fun y H2 => H2 p = some (.dT []) ∧ ∃ (b : Addr) (l : List Key), x = .ref b ∧ H2 b = some (.tup (l.map kV)) ∧ Q (.ref p) (upd H2 p (.dT [(l, y)]))
theorem pe_disp1T {X : Cx} {pos : Pos} {k v : Expr} {tk tv : TE} (hk : PE X k tk) (hv : PE X v tv) (hu : X.A.units + 64 < cLine) : PE X (.Dict [some k] [v] pos) (tDisp1T tk tv) := by
  refine ⟨fun pins s σ H Q I q => ?_⟩
  have hn := I.hok.fresh (Nat.le_refl s.heap.objs.size)
  have I1 := I.laid (a := s.heap.objs.size) (o := .dT []) (h' := s.heap.push { cls := .type "dict", data := .dict #[] }) (t' := s.toks) (fun _ _ q => Heap.get?_push_of_some _ q) (Nat.le_refl _) (dt_empty s.heap I.big)
  rw [arm_eval_Dict, zip_pairTrees [some k] [v] X.env pos rfl rfl, dictDisplay_pairs _ (by simp [pairTrees]) (by simp [pairTrees])]
  refine wpAny_bind (wpAny_standAt (wpAny_bind (wpAny_subDictH (knd := tupleKind (mixKind X.prog X.w)) (Q := fun d s' => wpAny (model X.prog X.w) X.A (pure (Value.ref d)) (L2.EP X pins σ Q) X.xe s') (show X.A.units < cLine by omega) (by simp [pairTrees]) ?_)))
  refine pairTrees_cons_walk (thn (hk.run pins _ σ _ _ I1 (q _ hn)) fun u s1 ⟨x, H1, J1, rx, q1⟩ => thn (hv.run pins s1 σ H1 _ J1 q1) fun w2 s2 ⟨y, H2, J2, ry, hp, b, l, ex, hb, q2⟩ => pairTrees_nil_walk ?_)
  subst ex
  cases rx
  obtain ⟨z, hd, xs, rel, dd⟩ := dt_of J2.hok hp
  cases rel
  refine ⟨[(l, b, w2)], ⟨rfl, rfl, key_of J2.hok hb, trivial⟩, dd, fun h' tk' dd' hs => wpAny_pure ?_⟩
  have hst : PySem.storedAllH [] [(l, b, w2)] = [(l, b, w2)] := storedAll_nodup [(l, b, w2)] [] (by simp)
  rw [hst] at dd'
  obtain ⟨o, es, ep, g1, g2, g3, g4, g5, g6⟩ := dd'
  have hne : b ≠ s.heap.objs.size := fun e => by rw [e, hp] at hb; cases hb
  refine ⟨.ref s.heap.objs.size, _, d_write (ob := .dT [(l, y)]) J2 (by rw [hp]; exact True.intro) hs ⟨o, g1⟩ ⟨by show 1 ≤ sizeLine; decide, hd, [(l, b, w2)], .cons ⟨rfl, by rw [upd_ne hne]; exact hb, ry⟩ .nil, o, es, ep, g1, g2, g3, g4, g6⟩, rfl, q2⟩
theorem eo_disp1T {c : Cp} {Γ : Gm} {d : D} {pos : Pos} {v k' : Expr} {i : List Int} (hk : EP c k' Γ (.tup false (i.map .int))) (hv : EP c v Γ d) : EO c (.Dict [some k'] [v] pos) Γ (.dT [(i, d)]) := fun H0 B0 B σ H Q S k X cx =>
  go_e (pe_disp1T (pe_of X k') (pe_of X v) cx.room.units) (by
    intro q hq
    have S1 := S.grow (Ext.new (o := .dT []) hq) hq ⟨_, upd_same⟩
    refine hk H0 B0 _ σ _ _ S1 (fun w H1 e1 r1 => hv H0 B0 _ σ H1 _ (S1.ext e1) (fun u H2 e2 r2 => ?_) X cx) X cx
    have hq2 : H2 q = some (.dT []) := e2 _ _ (e1 _ _ upd_same)
    have r1' := r1.ext e2
    cases r1' with
    | @tup _ b _ _ hb ht r =>
      rw [r.map_int] at ht
      refine ⟨hq2, b, kT i, rfl, by rw [kT_V]; exact ht, ?_⟩
      have eh : Ext H H2 := ((Ext.new hq).trans e1).trans e2
      refine k q _ hq (Ext.mut eh hq) ⟨[(kT i, u)], upd_same, .cons (r2.off (.inl rfl)) .nil⟩)
section
variable {c : Cp} {Γ : Gm} {t elt tg iter : Expr} {pos : Pos} {scope : Scope} {ts : List Nat}
/-- [elt for tg in iter] -/
theorem lc_map {α : Type} (own : List (Str × Nat)) (l : List α) (f g : α → D) (hsrc : IW c tg iter Γ (l.map f)) (turn : ∀ x ∈ l, ∃ Γi, GT (c.blk scope) tg ts (wipeG Γ (own.map (·.2))) (f x) Γi ∧ EP (c.blk scope) elt Γi (g x)) (hz : l.length ≤ 100000) (hts : ∀ i ∈ ts, i ∈ own.map (·.2) := by decide) : LC c elt tg iter [] scope (own.map (·.2)) Γ (l.map g) := by
  have z := lc_read (c := c) (elt := elt) (ifs := []) (scope := scope) l f (fun _ => true) g hsrc hts hz fun x hx => let ⟨Γi, h1, h2⟩ := turn x hx; ⟨Γi, h1, fp_nil, fun _ => h2⟩
  rw [show List.filter (fun _ => true) _ = _ from List.filter_eq_self.mpr (by simp)] at z
  exact z
/-- [elt for tg in iter if t] -/
theorem lc_fil {α : Type} (own : List (Str × Nat)) (l : List α) (f : α → D) (pr : α → Bool) (g : α → D) (hsrc : IW c tg iter Γ (l.map f)) (turn : ∀ x ∈ l, ∃ Γi, GT (c.blk scope) tg ts (wipeG Γ (own.map (·.2))) (f x) Γi ∧ TP (c.blk scope) t Γi (pr x) ∧ (pr x = true → EP (c.blk scope) elt Γi (g x))) (hz : l.length ≤ 100000) (hts : ∀ i ∈ ts, i ∈ own.map (·.2) := by decide) : LC c elt tg iter [t] scope (own.map (·.2)) Γ ((l.filter pr).map g) :=
  lc_read l f pr g hsrc hts hz fun x hx => let ⟨Γi, h1, h2, h3⟩ := turn x hx; ⟨Γi, h1, fp_one h2, h3⟩
theorem eo_map {α : Type} (own : List (Str × Nat)) (l : List α) (f g : α → D) (hsrc : IW c tg iter Γ (l.map f)) (turn : ∀ x ∈ l, ∃ Γi, GT (c.blk scope) tg ts (wipeG Γ (own.map (·.2))) (f x) Γi ∧ EP (c.blk scope) elt Γi (g x)) (hz : l.length ≤ 100000) (hok : blkC c.N c.sc scope own = true := by rfl) (hts : ∀ i ∈ ts, i ∈ own.map (·.2) := by decide) (hs : ∀ (env : Env) x, foldedSetIterable iter env x = pure x := by intro _ _; rfl) :
    EO c (.ListComp elt [⟨tg, iter, [], 0⟩] scope pos) Γ (.lst (l.map g)) := eo_lc (own := own) (lc_map own l f g hsrc turn hz hts) hok hs
theorem eo_fil {α : Type} (own : List (Str × Nat)) (l : List α) (f : α → D) (pr : α → Bool) (g : α → D) (hsrc : IW c tg iter Γ (l.map f)) (turn : ∀ x ∈ l, ∃ Γi, GT (c.blk scope) tg ts (wipeG Γ (own.map (·.2))) (f x) Γi ∧ TP (c.blk scope) t Γi (pr x) ∧ (pr x = true → EP (c.blk scope) elt Γi (g x))) (hz : l.length ≤ 100000) (hok : blkC c.N c.sc scope own = true := by rfl) (hts : ∀ i ∈ ts, i ∈ own.map (·.2) := by decide) (hs : ∀ (env : Env) x, foldedSetIterable iter env x = pure x := by intro _ _; rfl) :
    EO c (.ListComp elt [⟨tg, iter, [t], 0⟩] scope pos) Γ (.lst ((l.filter pr).map g)) := eo_lc (own := own) (lc_fil own l f pr g hsrc turn hz hts) hok hs
end
end GL
end
/-! ## G16 -/
section
namespace GL
open PySem PySem.Spec PyProof.Rows L2
section
variable {c : Cp} {Γ Γ' Γ1 Γ2 : Gm} {e a b t elt tg iter ix : Expr} {es ifs : List Expr} {d x y z : D} {pos p p2 p3 q apos cpos : Pos} {n n2 : Str} {scope : Scope} {vs ts : List Nat} {i j : Int} {kk : Bool} {E : En} {st : Stmt} {sts orelse rest body : List Stmt}
/-! ### kinds -/
def D.isI : D → Bool | .int _ => true | .bool _ => true | _ => false
def D.isB : D → Bool | .bool _ => true | _ => false
def D.isL : D → Bool | .list _ => true | _ => false
def D.isT : D → Bool | .tup _ _ => true | _ => false
def D.isS : D → Bool | .str _ => true | _ => false
theorem kit_int : ∀ x : D, kitB x.ty "int" = some x.isI := fun x => by
  cases x with
  | none => exact (by decide +kernel : kitB "NoneType" "int" = some false)
  | bool => exact (by decide +kernel : kitB "bool" "int" = some true)
  | int => exact (by decide +kernel : kitB "int" "int" = some true)
  | str => exact (by decide +kernel : kitB "str" "int" = some false)
  | list => exact (by decide +kernel : kitB "list" "int" = some false)
  | tup => exact (by decide +kernel : kitB "tuple" "int" = some false)
theorem kit_bool : ∀ x : D, kitB x.ty "bool" = some x.isB := fun x => by
  cases x with
  | none => exact (by decide +kernel : kitB "NoneType" "bool" = some false)
  | bool => exact (by decide +kernel : kitB "bool" "bool" = some true)
  | int => exact (by decide +kernel : kitB "int" "bool" = some false)
  | str => exact (by decide +kernel : kitB "str" "bool" = some false)
  | list => exact (by decide +kernel : kitB "list" "bool" = some false)
  | tup => exact (by decide +kernel : kitB "tuple" "bool" = some false)
theorem kit_list : ∀ x : D, kitB x.ty "list" = some x.isL := fun x => by
  cases x with
  | none => exact (by decide +kernel : kitB "NoneType" "list" = some false)
  | bool => exact (by decide +kernel : kitB "bool" "list" = some false)
  | int => exact (by decide +kernel : kitB "int" "list" = some false)
  | str => exact (by decide +kernel : kitB "str" "list" = some false)
  | list => exact (by decide +kernel : kitB "list" "list" = some true)
  | tup => exact (by decide +kernel : kitB "tuple" "list" = some false)
theorem kit_tuple : ∀ x : D, kitB x.ty "tuple" = some x.isT := fun x => by
  cases x with
  | none => exact (by decide +kernel : kitB "NoneType" "tuple" = some false)
  | bool => exact (by decide +kernel : kitB "bool" "tuple" = some false)
  | int => exact (by decide +kernel : kitB "int" "tuple" = some false)
  | str => exact (by decide +kernel : kitB "str" "tuple" = some false)
  | list => exact (by decide +kernel : kitB "list" "tuple" = some false)
  | tup => exact (by decide +kernel : kitB "tuple" "tuple" = some true)
theorem ep_isInt (hg : c.gl "isinstance") (hm : c.mg "isinstance" = none) (hgT : c.gl "int") (hmT : c.mg "int" = none) (ha : EW c a Γ d) (he : ∀ env : Env, starEach [a, .Name "int" p2] env = (false, eval a env) :: starEach [.Name "int" p2] env := by intro _; rfl) : EP c (.Call (.Name "isinstance" p) [a, .Name "int" p2] [] pos) Γ (.bool d.isI) := ep_isi hg hm hgT hmT (by decide +kernel) ha (kit_int d) (by decide) (by decide) he
theorem ep_isBool (hg : c.gl "isinstance") (hm : c.mg "isinstance" = none) (hgT : c.gl "bool") (hmT : c.mg "bool" = none) (ha : EW c a Γ d) (he : ∀ env : Env, starEach [a, .Name "bool" p2] env = (false, eval a env) :: starEach [.Name "bool" p2] env := by intro _; rfl) : EP c (.Call (.Name "isinstance" p) [a, .Name "bool" p2] [] pos) Γ (.bool d.isB) := ep_isi hg hm hgT hmT (by decide +kernel) ha (kit_bool d) (by decide) (by decide) he
theorem ep_isList (hg : c.gl "isinstance") (hm : c.mg "isinstance" = none) (hgT : c.gl "list") (hmT : c.mg "list" = none) (ha : EW c a Γ d) (he : ∀ env : Env, starEach [a, .Name "list" p2] env = (false, eval a env) :: starEach [.Name "list" p2] env := by intro _; rfl) : EP c (.Call (.Name "isinstance" p) [a, .Name "list" p2] [] pos) Γ (.bool d.isL) := ep_isi hg hm hgT hmT (by decide +kernel) ha (kit_list d) (by decide) (by decide) he
theorem ep_isTuple (hg : c.gl "isinstance") (hm : c.mg "isinstance" = none) (hgT : c.gl "tuple") (hmT : c.mg "tuple" = none) (ha : EW c a Γ d) (he : ∀ env : Env, starEach [a, .Name "tuple" p2] env = (false, eval a env) :: starEach [.Name "tuple" p2] env := by intro _; rfl) : EP c (.Call (.Name "isinstance" p) [a, .Name "tuple" p2] [] pos) Γ (.bool d.isT) := ep_isi hg hm hgT hmT (by decide +kernel) ha (kit_tuple d) (by decide) (by decide) he
/-! ### and, or -/
theorem ep_and2 {k k' : Bool} {rest : List Expr} (h : EP c a Γ (.bool k)) (h' : k = true → EP c (.BoolOp .And (b :: rest) pos) Γ (.bool k')) : EP c (.BoolOp .And (a :: b :: rest) pos) Γ (.bool (k && k')) := ep_and h (fun q => (h' q).is (by rw [q]; rfl)) (fun q => by rw [q]; rfl)
theorem ep_or2 {k k' : Bool} {rest : List Expr} (h : EP c a Γ (.bool k)) (h' : k = false → EP c (.BoolOp .Or (b :: rest) pos) Γ (.bool k')) : EP c (.BoolOp .Or (a :: b :: rest) pos) Γ (.bool (k || k')) := ep_or h (fun q => (h' q).is (by rw [q]; rfl)) (fun q => by rw [q]; rfl)
theorem wp_and2 {k k' : Bool} {rest : List Expr} (h : TP c a Γ k) (h' : k = true → WP c (.BoolOp .And (b :: rest) pos) Γ k') : WP c (.BoolOp .And (a :: b :: rest) pos) Γ (k && k') := wp_and h (fun q => by rw [q]; exact h' q) (fun q => by rw [q]; rfl)
theorem wp_or2 {k k' : Bool} {rest : List Expr} (h : TP c a Γ k) (h' : k = false → WP c (.BoolOp .Or (b :: rest) pos) Γ k') : WP c (.BoolOp .Or (a :: b :: rest) pos) Γ (k || k') := wp_or h (fun q => by rw [q]; exact h' q) (fun q => by rw [q]; rfl)
/-! ### ranges of small numbers -/
theorem range_map (n : Nat) : rangeD 0 n = (List.range n).map dN := by
  unfold rangeD; refine List.map_congr_left fun x _ => by simp
theorem is_rng {n : Nat} (hg : c.gl "range") (hm : c.mg "range" = none) (h : EP c e Γ (dN n)) (h1 : n ≤ 100000) (he : ∀ env : Env, starEach [e] env = (false, eval e env) :: starEach [] env := by intro _; rfl) : IS c tg (.Call (.Name "range" p) [e] [] pos) Γ ((List.range n).map dN) := by
  have z := is_range1 (tg := tg) (p := p) (pos := pos) hg hm h (by omega) (by omega) he
  rw [Int.toNat_natCast, range_map] at z; exact z
theorem is_rngI {j : Int} {n : Nat} (hg : c.gl "range") (hm : c.mg "range" = none) (h : EP c e Γ (.int j)) (hj : j.toNat = n) (h1 : j ≤ 100000) (h2 : -100000 ≤ j) (he : ∀ env : Env, starEach [e] env = (false, eval e env) :: starEach [] env := by intro _; rfl) : IS c tg (.Call (.Name "range" p) [e] [] pos) Γ ((List.range n).map dN) := by
  have z := is_range1 (tg := tg) (p := p) (pos := pos) hg hm h (by omega) (by omega) he
  rw [hj, range_map] at z; exact z
theorem is_rng2 {m n : Nat} (hg : c.gl "range") (hm : c.mg "range" = none) (ha : EP c a Γ (dN m)) (h : EP c b Γ (dN n)) (hb : m ≤ 100000 ∧ n ≤ 100000) (he : ∀ env : Env, starEach [a, b] env = (false, eval a env) :: starEach [b] env := by intro _; rfl) (he2 : ∀ env : Env, starEach [b] env = (false, eval b env) :: starEach [] env := by intro _; rfl) : IS c tg (.Call (.Name "range" p) [a, b] [] pos) Γ ((List.range (n - m)).map fun k => dN (m + k)) := by
  have z := is_range2 (tg := tg) (p := p) (pos := pos) hg hm ha h (by omega) he he2
  have e1 : ((n : Int) - (m : Int)).toNat = n - m := by omega
  rw [e1] at z
  refine z.is ?_
  unfold rangeD
  exact List.map_congr_left fun x _ => by simp
/-! ### walks as folds -/
theorem sx_fold {α β : Type} (l : List α) (f : α → D) (s0 : β) (step : β → α → β) (G : β → Gm) (I : Nat → β → Prop) (hi : IS c tg iter Γ (l.map f)) (h0 : GmW Γ (G s0)) (i0 : I 0 s0)
    (hs : ∀ (i : Nat) x s, l[i]? = some x → I i s → I (i + 1) (step s x) ∧ ∃ ts Γ2, GT c tg ts (G s) (f x) Γ2 ∧ BX c body Γ2 { nx := fun Γ' => GmW Γ' (G (step s x)), ct := fun Γ' => GmW Γ' (G (step s x)), bk := E.nx, rt := E.rt, ro := E.ro })
    (hd : ∀ Γ', I l.length (l.foldl step s0) → GmW Γ' (G (l.foldl step s0)) → E.nx Γ') (hf : ∀ (env : Env) x, foldedSetIterable iter env x = pure x := by intro _ _; rfl) : SX c (.For tg iter body [] pos) Γ E := by
  have inv : ∀ i, i ≤ l.length → I i ((l.take i).foldl step s0) := by
    intro i
    induction i with
    | zero => intro _; exact i0
    | succ i ih =>
      intro hi
      rw [fold_take step s0 l (by omega)]
      exact (hs i l[i] _ (List.getElem?_eq_getElem (by omega)) (ih (by omega))).1
  refine sx_forG hi (fun i => G ((l.take i).foldl step s0)) h0 (fun i d hd => ?_) (fun Γ' w => ?_) hf
  · rw [List.getElem?_map] at hd
    obtain ⟨x, hx, rfl⟩ := Option.map_eq_some_iff.mp hd
    obtain ⟨hi, rfl⟩ := List.getElem?_eq_some_iff.mp hx
    obtain ⟨_, ts, Γ2, g, bb⟩ := hs i l[i] _ hx (inv i (by omega))
    exact ⟨ts, Γ2, g, by rw [fold_take step s0 l hi]; exact bb⟩
  · rw [List.length_map, List.take_length] at w
    have := inv l.length (Nat.le_refl _)
    rw [List.take_length] at this
    exact hd Γ' this w
theorem bs_fold {α β : Type} (l : List α) (f : α → D) (s0 : β) (step : β → α → β) (G : β → Gm) (I : Nat → β → Prop) (hi : IS c tg iter Γ (l.map f)) (h0 : GmW Γ (G s0)) (i0 : I 0 s0)
    (hs : ∀ (i : Nat) x s, l[i]? = some x → I i s → I (i + 1) (step s x) ∧ ∃ ts Γ2, GT c tg ts (G s) (f x) Γ2 ∧ BX c body Γ2 { nx := fun Γ' => GmW Γ' (G (step s x)), ct := fun Γ' => GmW Γ' (G (step s x)), bk := fun Γ' => BX c rest Γ' E, rt := E.rt, ro := E.ro })
    (hd : I l.length (l.foldl step s0) → BX c rest (G (l.foldl step s0)) E) (hf : ∀ (env : Env) x, foldedSetIterable iter env x = pure x := by intro _ _; rfl) : BX c (.For tg iter body [] pos :: rest) Γ E :=
  bx_cons (sx_fold l f s0 step G I hi h0 i0 hs (fun Γ' h w => bx_weak w (hd h)) hf)
/-- name = [comprehension], the name local, a cell -/
theorem bs_lc (i : Nat) (own : List (Str × Nat)) {rs : List D} (h : LC c elt tg iter ifs scope (own.map (·.2)) Γ rs) (k : BX c rest (Γ.set i (.own (.lst rs))) E) (hN : c.N[i]? = some n := by rfl) (hx : c.sc.names.lookup n = some .local := by rfl) (hk : c.sc.kind = .function := by rfl) (hl : (p.line == p2.line) = true := by rfl) (ha : (scope.names.any fun (m, k) => m == n && (k == .local || k == .cell)) = false := by rfl)
    (hok : blkC c.N c.sc scope own = true := by rfl) (hs : ∀ (env : Env) x, foldedSetIterable iter env x = pure x := by intro _ _; rfl) :
    BX c (.Assign [.Name n p] (.ListComp elt [⟨tg, iter, ifs, 0⟩] scope p2) pos :: rest) Γ E := bx_cons (sx_lc hN hx hk hl ha h hok k hs)
theorem bs_lc2 (i : Nat) (own : List (Str × Nat)) (vs1 : List Nat) {rs : List D} {tg1 iter1 : Expr} (h : LC2 c elt tg iter tg1 iter1 scope (own.map (·.2)) vs1 Γ rs) (k : BX c rest (Γ.set i (.own (.lst rs))) E) (hN : c.N[i]? = some n := by rfl) (hx : c.sc.names.lookup n = some .local := by rfl) (hk : c.sc.kind = .function := by rfl) (hl : (p.line == p2.line) = true := by rfl) (ha : (scope.names.any fun (m, k) => m == n && (k == .local || k == .cell)) = false := by rfl)
    (hok : blkC c.N c.sc scope own = true := by rfl) (hv : ∀ i ∈ vs1, i ∈ own.map (·.2) := by decide) (hs : ∀ (env : Env) x, foldedSetIterable iter env x = pure x := by intro _ _; rfl) (hs1 : ∀ (env : Env) x, foldedSetIterable iter1 env x = pure x := by intro _ _; rfl) :
    BX c (.Assign [.Name n p] (.ListComp elt [⟨tg, iter, [], 0⟩, ⟨tg1, iter1, [], 0⟩] scope p2) pos :: rest) Γ E := bx_cons (sx_lc2 hN hx hk hl ha h hok hv k hs hs1)
theorem bs_lcC (i : Nat) (own : List (Str × Nat)) {rs : List D} (h : LC c elt tg iter ifs scope (own.map (·.2)) Γ rs) (k : BX c rest (Γ.set i (.own (.lst rs))) E) (hN : c.N[i]? = some n := by rfl) (hx : c.sc.names.lookup n = some .cell := by rfl)  (hf : c.fn n = true ∨ c.sc.names.lookup n = some .local := by first | exact .inl rfl | exact .inr rfl)
    (hok : blkC c.N c.sc scope own = true := by rfl) (hs : ∀ (env : Env) x, foldedSetIterable iter env x = pure x := by intro _ _; rfl) :
    BX c (.Assign [.Name n p] (.ListComp elt [⟨tg, iter, ifs, 0⟩] scope p2) pos :: rest) Γ E :=
  bs_set i (EO.sp (eo_lc (own := own) h hok hs)) k hN (.inr hx) hf (sw_cell (by rw [hx]; intro q; cases q))
/-- if at the head of a block -/
theorem bs_if {k : Bool} (M : Gm) (h : TP c t Γ k) (h1 : k = true → BX c sts Γ { E with nx := fun Γ' => GmW Γ' M }) (h2 : k = false → BX c orelse Γ { E with nx := fun Γ' => GmW Γ' M }) (r : BX c rest M E) : BX c (.If t sts orelse pos :: rest) Γ E :=
  bx_cut (fun Γ' => GmW Γ' M) (sx_if h h1 h2) fun Γ' w => bx_weak w r
/-- if t: return -/
theorem bs_ifr {k : Bool} (h : TP c t Γ k) (h1 : k = true → BX c sts Γ { E with nx := fun _ => False }) (r : k = false → BX c rest Γ E) : BX c (.If t sts [] pos :: rest) Γ E :=
  bx_cons (sx_if h (fun hk => (h1 hk).mono (fun _ q => q.elim) (fun _ _ q => q) (fun _ _ q => q) (fun _ q => q) (fun _ q => q)) (fun hk => bx_nil (r hk)))
theorem bs_while (W : Nat → Gm → Prop) {m : Nat} (h0 : W m Γ) (hs : ∀ m Γ0, W m Γ0 → ∃ Γ' k, GmW Γ0 Γ' ∧ TP c t Γ' k ∧ (k = true → BX c body Γ' { nx := fun Γ2 => ∃ m', m' < m ∧ W m' Γ2, ct := fun Γ2 => ∃ m', m' < m ∧ W m' Γ2, bk := fun Γ' => BX c rest Γ' E, rt := E.rt, ro := E.ro }) ∧ (k = false → BX c rest Γ' E)) : BX c (.While t body [] pos :: rest) Γ E :=
  bx_cons (sx_while W h0 hs)
end
theorem D.wrefl (Γ : Gm) : GmW Γ Γ := .refl Γ
end GL
end
/-! ## G17 -/
section
namespace GL
open PySem PySem.Spec PyProof.Rows L2
theorem map_dN (l : List Nat) : l.map dN = (l.map fun (n : Nat) => (n : Int)).map D.int := by rw [List.map_map]; rfl
theorem mem_nI {x : Nat} {l : List Nat} : (x : Int) ∈ (l.map fun (n : Nat) => (n : Int)) ↔ x ∈ l := by
  rw [List.mem_map]
  exact ⟨fun ⟨y, hy, e⟩ => by rw [← Int.ofNat.inj e]; exact hy, fun h => ⟨x, h, rfl⟩⟩
theorem dec_nI {x : Nat} {l : List Nat} : decide ((x : Int) ∈ (l.map fun (n : Nat) => (n : Int))) = decide (x ∈ l) := by rw [decide_eq_decide]; exact mem_nI
def mxN (l : List Nat) : Nat := l.foldl max 0
theorem fold_max (l : List Nat) : ∀ m, m ≤ l.foldl max m ∧ (∀ x ∈ l, x ≤ l.foldl max m) ∧ (l.foldl max m = m ∨ l.foldl max m ∈ l) := by
  induction l with
  | nil => intro m; simp
  | cons a l ih =>
    intro m
    obtain ⟨h1, h2, h3⟩ := ih (max m a)
    rw [List.foldl_cons]
    refine ⟨by omega, fun x hx => ?_, ?_⟩
    · rcases List.mem_cons.mp hx with rfl | hx
      · omega
      · exact h2 x hx
    · rcases h3 with h3 | h3
      · rcases Nat.le_total m a with h | h
        · exact .inr (by rw [h3, Nat.max_eq_right h]; exact List.mem_cons_self)
        · exact .inl (by rw [h3, Nat.max_eq_left h])
      · exact .inr (List.mem_cons_of_mem _ h3)
theorem mxN_ge {l : List Nat} {x : Nat} (h : x ∈ l) : x ≤ mxN l := (fold_max l 0).2.1 x h
theorem mxN_mem {l : List Nat} (h : l ≠ []) : mxN l ∈ l := by
  rcases (fold_max l 0).2.2 with e | e
  · cases l with
    | nil => exact (h rfl).elim
    | cons a l =>
      have := mxN_ge (l := a :: l) (x := a) List.mem_cons_self
      have e' : mxN (a :: l) = 0 := e
      rw [e']
      have : a = 0 := by omega
      rw [this]; exact List.mem_cons_self
  · exact e
def mnN : List Nat → Nat
  | [] => 0
  | [a] => a
  | a :: l => min a (mnN l)
theorem mnN_spec : ∀ {l : List Nat}, l ≠ [] → mnN l ∈ l ∧ ∀ x ∈ l, mnN l ≤ x
  | [], h => (h rfl).elim
  | [a], _ => by simp [mnN]
  | a :: b :: l, _ => by
    obtain ⟨h1, h2⟩ := mnN_spec (l := b :: l) (by simp)
    show min a (mnN (b :: l)) ∈ _ ∧ ∀ x ∈ _, min a (mnN (b :: l)) ≤ x
    refine ⟨?_, fun x hx => ?_⟩
    · rcases Nat.le_total a (mnN (b :: l)) with h | h
      · rw [Nat.min_eq_left h]; exact List.mem_cons_self
      · rw [Nat.min_eq_right h]; exact List.mem_cons_of_mem _ h1
    · rcases List.mem_cons.mp hx with rfl | hx
      · omega
      · have := h2 x hx; omega
section
variable {c : Cp} {Γ Γ' Γ1 Γ2 : Gm} {e a b t elt tg iter ix : Expr} {es ifs : List Expr} {d : D} {pos p p2 p3 q apos cpos : Pos} {n n2 : Str} {scope : Scope} {vs ts : List Nat} {x y : Nat} {l : List Nat} {kk : Bool} {E : En} {st : Stmt} {sts orelse rest body : List Stmt}
theorem ew_nI (h : EW c a Γ (dL l)) : EW c a Γ (.list ((l.map fun (n : Nat) => (n : Int)).map D.int)) := by rw [← map_dN]; exact h
theorem ew_nT (h : EW c a Γ (.tup kk (l.map dN))) : EW c a Γ (.tup kk ((l.map fun (n : Nat) => (n : Int)).map D.int)) := by rw [← map_dN]; exact h
theorem tp_inN (ha : EW c a Γ (dN x)) (hb : EW c b Γ (dL l)) (hm : behindInMarks .In b = false := by rfl) : TP c (.Compare a [.In] [b] pos) Γ (decide (x ∈ l)) := by rw [← dec_nI]; exact tp_inL ha (ew_nI hb) hm
theorem tp_ninN (ha : EW c a Γ (dN x)) (hb : EW c b Γ (dL l)) (hm : behindInMarks .NotIn b = false := by rfl) : TP c (.Compare a [.NotIn] [b] pos) Γ (!decide (x ∈ l)) := by rw [← dec_nI]; exact tp_ninL ha (ew_nI hb) hm
theorem tp_inNT (ha : EW c a Γ (dN x)) (hb : EW c b Γ (.tup kk (l.map dN))) (hm : behindInMarks .In b = false := by rfl) : TP c (.Compare a [.In] [b] pos) Γ (decide (x ∈ l)) := by rw [← dec_nI]; exact tp_inT ha (ew_nT hb) hm
theorem ep_inN (ha : EW c a Γ (dN x)) (hb : EW c b Γ (dL l)) (hm : behindInMarks .In b = false := by rfl) : EP c (.Compare a [.In] [b] pos) Γ (.bool (decide (x ∈ l))) := by rw [← dec_nI]; exact ep_inL ha (ew_nI hb) hm
theorem ep_inNT (ha : EW c a Γ (dN x)) (hb : EW c b Γ (.tup kk (l.map dN))) (hm : behindInMarks .In b = false := by rfl) : EP c (.Compare a [.In] [b] pos) Γ (.bool (decide (x ∈ l))) := by rw [← dec_nI]; exact ep_inT ha (ew_nT hb) hm
theorem tp_eqN (ha : EW c a Γ (dN x)) (hb : EW c b Γ (dN y)) : TP c (.Compare a [.Eq] [b] pos) Γ (decide (x = y)) := by
  have e : decide (x = y) = decide ((x : Int) = (y : Int)) := by rw [decide_eq_decide]; omega
  rw [e]; exact tp_eqI ha hb
theorem tp_neN (ha : EW c a Γ (dN x)) (hb : EW c b Γ (dN y)) : TP c (.Compare a [.NotEq] [b] pos) Γ (!decide (x = y)) := by
  have e : decide (x = y) = decide ((x : Int) = (y : Int)) := by rw [decide_eq_decide]; omega
  rw [e]; exact tp_neI ha hb
theorem ep_minN (hg : c.gl "min") (hm : c.mg "min" = none) (ha : EW c a Γ (dL l)) (h : l ≠ []) (he : ∀ env : Env, starEach [a] env = (false, eval a env) :: starEach [] env := by intro _; rfl) : EP c (.Call (.Name "min" p) [a] [] pos) Γ (dN (mnN l)) := by
  obtain ⟨h1, h2⟩ := mnN_spec h
  refine ep_minL hg hm (ew_nI ha) (mem_nI.mpr h1) (fun k hk => ?_) he
  obtain ⟨y, hy, rfl⟩ := List.mem_map.mp hk
  have := h2 y hy; omega
theorem ep_maxN (hg : c.gl "max") (hm : c.mg "max" = none) (ha : EW c a Γ (.tup kk (l.map dN))) (h : l ≠ []) (he : ∀ env : Env, starEach [a] env = (false, eval a env) :: starEach [] env := by intro _; rfl) : EP c (.Call (.Name "max" p) [a] [] pos) Γ (dN (mxN l)) := by
  refine ep_maxT hg hm (ew_nT ha) (mem_nI.mpr (mxN_mem h)) (fun k hk => ?_) he
  obtain ⟨y, hy, rfl⟩ := List.mem_map.mp hk
  have := mxN_ge hy; omega
theorem ep_addN (ha : EW c a Γ (dN x)) (hb : EW c b Γ (dN y)) : EP c (.BinOp a .Add b pos) Γ (dN (x + y)) := EP.is (ep_add ha hb) (by simp)
theorem ep_subN (ha : EW c a Γ (dN x)) (hb : EW c b Γ (dN y)) (h : y ≤ x) : EP c (.BinOp a .Sub b pos) Γ (dN (x - y)) := EP.is (ep_sub ha hb) (by show D.int _ = D.int _; congr 1; omega)
theorem ep_num {n : Nat} {j} : EP c (.Constant (.int (n : Int)) j pos) Γ (dN n) := ep_int
theorem ep_lenN {ds : List D} (hg : c.gl "len") (hm : c.mg "len" = none) (ha : EW c a Γ d) (h : d.items = some ds) (hx : ds.length = x) (he : ∀ env : Env, starEach [a] env = (false, eval a env) :: starEach [] env := by intro _; rfl) : EP c (.Call (.Name "len" p) [a] [] pos) Γ (dN x) := hx ▸ ep_len hg hm ha h he
end
theorem sz1 : 1 ≤ sizeLine := by decide
theorem sz2 : 2 ≤ sizeLine := by decide
theorem szL {n : Nat} (h : n ≤ 100000) : n ≤ sizeLine := by rw [sizeLine_eq]; omega
end GL
end
/-! ## G18 -/
section
namespace GL
open PySem PySem.Spec PyProof.Rows L2
/-! ### sorted(set(xs)), xs a list of tuples of small numbers, all of one length -/
def iN (k : List Nat) : List Int := k.map fun (n : Nat) => (n : Int)
theorem iN_inj : ∀ {a b : List Nat}, iN a = iN b → a = b
  | [], [], _ => rfl
  | [], _ :: _, h => by cases h
  | _ :: _, [], h => by cases h
  | x :: a, y :: b, h => by
    unfold iN at h
    rw [List.map_cons, List.map_cons, List.cons.injEq] at h
    have e1 : x = y := by have := h.1; omega
    rw [e1, iN_inj (a := a) (b := b) h.2]
theorem dN_iN (k : List Nat) : k.map dN = (iN k).map D.int := by unfold iN; rw [List.map_map]; rfl
def cd (k : List Nat) : Int := TS.code 64 (iN k)
structure Gk (d : Nat) (k : List Nat) : Prop where
  len : k.length = d
  bd : ∀ x ∈ k, x < 64
theorem Gk.Bd {d : Nat} {k : List Nat} (h : Gk d k) : TS.Bd 64 (iN k) := fun m hm => by
  obtain ⟨x, hx, rfl⟩ := List.mem_map.mp hm
  have := h.bd x hx; omega
theorem cd_inj : ∀ {d : Nat} {a b : List Nat}, Gk d a → Gk d b → cd a = cd b → a = b
  | 0, a, b, ha, hb, _ => by rw [List.eq_nil_of_length_eq_zero ha.len, List.eq_nil_of_length_eq_zero hb.len]
  | d + 1, [], b, ha, _, _ => by have := ha.len; cases this
  | d + 1, _ :: _, [], _, hb, _ => by have := hb.len; cases this
  | d + 1, x :: a, y :: b, ha, hb, h => by
    have ga : Gk d a := ⟨Nat.succ.inj ha.len, fun z hz => ha.bd z (List.mem_cons_of_mem _ hz)⟩
    have gb : Gk d b := ⟨Nat.succ.inj hb.len, fun z hz => hb.bd z (List.mem_cons_of_mem _ hz)⟩
    have hl : (iN a).length = (iN b).length := by unfold iN; rw [List.length_map, List.length_map, ga.len, gb.len]
    rcases Nat.lt_trichotomy x y with hlt | he | hlt
    · have : cd (x :: a) < cd (y :: b) := TS.code_lt hl ga.Bd gb.Bd (by omega : (x : Int) < y)
      omega
    · subst he
      have h' : (x : Int) * 64 ^ (iN a).length + cd a = (x : Int) * 64 ^ (iN b).length + cd b := h
      rw [hl] at h'
      rw [cd_inj ga gb (by omega)]
    · have : cd (y :: b) < cd (x :: a) := TS.code_lt hl.symm gb.Bd ga.Bd (by omega : (y : Int) < x)
      omega
def insC (x : List Nat) : List (List Nat) → List (List Nat)
  | [] => [x]
  | y :: l => if cd x < cd y then x :: y :: l else if x = y then y :: l else y :: insC x l
def sortC (l : List (List Nat)) : List (List Nat) := l.foldr insC []
theorem insC_mem {x y : List Nat} : ∀ {l : List (List Nat)}, y ∈ insC x l ↔ y = x ∨ y ∈ l
  | [] => by simp [insC]
  | z :: l => by
    unfold insC
    split
    · simp
    · split
      · rename_i h1 h2; subst h2; simp
      · rw [List.mem_cons, insC_mem (l := l), List.mem_cons]
        constructor
        · rintro (h | h | h)
          · exact .inr (.inl h)
          · exact .inl h
          · exact .inr (.inr h)
        · rintro (h | h | h)
          · exact .inr (.inl h)
          · exact .inl h
          · exact .inr (.inr h)
theorem insC_lt {d : Nat} {x : List Nat} (gx : Gk d x) : ∀ {l : List (List Nat)}, (∀ y ∈ l, Gk d y) → l.Pairwise (fun a b => cd a < cd b) → (insC x l).Pairwise (fun a b => cd a < cd b)
  | [], _, _ => by simp [insC]
  | z :: l, hg, h => by
    obtain ⟨h1, h2⟩ := List.pairwise_cons.mp h
    unfold insC
    split
    · rename_i hx
      refine List.pairwise_cons.mpr ⟨fun y hy => ?_, h⟩
      rcases List.mem_cons.mp hy with rfl | hy
      · exact hx
      · exact Int.lt_trans hx (h1 y hy)
    · split
      · exact h
      · rename_i hx hne
        refine List.pairwise_cons.mpr ⟨fun y hy => ?_, insC_lt gx (fun y hy => hg y (List.mem_cons_of_mem _ hy)) h2⟩
        rcases insC_mem.mp hy with rfl | hy
        · have : cd y ≠ cd z := fun e => hne (cd_inj gx (hg z List.mem_cons_self) e)
          omega
        · exact h1 y hy
theorem sortC_mem {y : List Nat} : ∀ {l : List (List Nat)}, y ∈ sortC l ↔ y ∈ l
  | [] => Iff.rfl
  | x :: l => by
    show y ∈ insC x (sortC l) ↔ _
    rw [insC_mem, sortC_mem (l := l), List.mem_cons]
theorem sortC_lt {d : Nat} : ∀ {l : List (List Nat)}, (∀ y ∈ l, Gk d y) → (sortC l).Pairwise (fun a b => cd a < cd b)
  | [], _ => List.Pairwise.nil
  | x :: l, h => insC_lt (h x List.mem_cons_self) (fun y hy => h y (List.mem_cons_of_mem _ (sortC_mem.mp hy))) (sortC_lt fun y hy => h y (List.mem_cons_of_mem _ hy))
theorem cd_unique : ∀ {a b : List (List Nat)}, a.Pairwise (fun a b => cd a < cd b) → b.Pairwise (fun a b => cd a < cd b) → (∀ x, x ∈ a ↔ x ∈ b) → a = b
  | [], [], _, _, _ => rfl
  | [], y :: b, _, _, h => by have := (h y).mpr List.mem_cons_self; cases this
  | x :: a, [], _, _, h => by have := (h x).mp List.mem_cons_self; cases this
  | x :: a, y :: b, ha, hb, h => by
    obtain ⟨a1, a2⟩ := List.pairwise_cons.mp ha
    obtain ⟨b1, b2⟩ := List.pairwise_cons.mp hb
    have e : x = y := by
      rcases List.mem_cons.mp ((h x).mp List.mem_cons_self) with e | hx
      · exact e
      · rcases List.mem_cons.mp ((h y).mpr List.mem_cons_self) with e | hy
        · exact e.symm
        · have := b1 x hx; have := a1 y hy; omega
    subst e
    congr 1
    refine cd_unique a2 b2 fun z => ?_
    constructor
    · intro hz
      rcases List.mem_cons.mp ((h z).mp (List.mem_cons_of_mem _ hz)) with e | hz'
      · subst e; have := a1 z hz; omega
      · exact hz'
    · intro hz
      rcases List.mem_cons.mp ((h z).mpr (List.mem_cons_of_mem _ hz)) with e | hz'
      · subst e; have := b1 z hz; omega
      · exact hz'
theorem sortC_nodup {d : Nat} {l : List (List Nat)} (h : ∀ y ∈ l, Gk d y) : (sortC l).Nodup := (sortC_lt h).imp fun h e => by rw [e] at h; omega
/-- the list's refs with the ints behind them -/
theorem refs_rp {B : Av} {H : Hp} {kb : Bool} : ∀ {ks : List (List Nat)} {vs : List V}, RpA B H vs (ks.map fun k => D.tup kb (k.map dN)) → ∃ ps : List (Addr × List Int), vs = ps.map (fun p => V.ref p.1) ∧ ps.map (·.2) = ks.map iN ∧ (∀ p ∈ ps, TupAt kb H p.1 (p.2.map V.int)) ∧ ∀ p ∈ ps, ∃ k, p.2 = iN k ∧ Rp B H (.ref p.1) (.tup kb (k.map dN))
  | [], _, h => by cases h; exact ⟨[], rfl, rfl, (fun p hp => by cases hp), fun p hp => by cases hp⟩
  | k :: ks, _, h => by
    cases h with
    | cons r t =>
      obtain ⟨ps, rfl, h2, h3, h4⟩ := refs_rp t
      have r' := r
      cases r with
      | @tup _ a xs _ hb ht rr =>
        rw [dN_iN] at rr
        rw [rr.map_int] at ht
        refine ⟨(a, iN k) :: ps, rfl, by rw [List.map_cons, List.map_cons, h2], fun p hp => ?_, fun p hp => ?_⟩
        · rcases List.mem_cons.mp hp with rfl | hp
          · exact ht
          · exact h3 p hp
        · rcases List.mem_cons.mp hp with rfl | hp
          · exact ⟨k, rfl, r'⟩
          · exact h4 p hp
theorem rp_refs {B : Av} {H : Hp} {kb : Bool} : ∀ {L : List (Addr × List Int)} {ks : List (List Nat)}, L.map (·.2) = ks.map iN → (∀ p ∈ L, ∃ k, p.2 = iN k ∧ Rp B H (.ref p.1) (.tup kb (k.map dN))) → RpA B H (L.map fun p => V.ref p.1) (ks.map fun k => D.tup kb (k.map dN))
  | [], [], _, _ => .nil
  | [], _ :: _, h, _ => by cases h
  | _ :: _, [], h, _ => by cases h
  | p :: L, k :: ks, h, hp => by
    rw [List.map_cons, List.map_cons, List.cons.injEq] at h
    obtain ⟨k', e, r⟩ := hp p List.mem_cons_self
    rw [e] at h
    rw [iN_inj h.1] at r
    exact .cons r (rp_refs h.2 fun q hq => hp q (List.mem_cons_of_mem _ hq))
section
variable {c : Cp} {Γ : Gm} {a : Expr} {p p2 p3 pos : Pos}
theorem eo_sortSetT {d : Nat} {ks : List (List Nat)} {kb : Bool} (hg : c.gl "sorted") (hm : c.mg "sorted" = none) (hg2 : c.gl "set") (hm2 : c.mg "set" = none) (ha : EW c a Γ (.list (ks.map fun k => D.tup kb (k.map dN)))) (hd : 1 ≤ d) (hk : ∀ k ∈ ks, Gk d k) (hz : ks.length < 60) (he : ∀ env : Env, starEach [a] env = (false, eval a env) :: starEach [] env := by intro _; rfl) : EO c (.Call (.Name "sorted" p) [.Call (.Name "set" p2) [a] [] p3] [] pos) Γ (.lst ((sortC ks).map fun k => D.tup kb (k.map dN))) := fun H0 B0 B σ H Q S k X cx =>
  go_e (pe_callB (cr_sortedT cx.calm) (cx.gl hg) (by rw [cx.mg]; exact hm) (by decide +kernel) (pa_cons (pe_callTy (cr_setOfT cx.calm cx.room.units) (cx.gl hg2) (by rw [cx.mg]; exact hm2) (by decide +kernel) (pa_cons (pe_of X a) pa_nil (he X.env)) (by decide) (by decide) (he X.env) rfl) pa_nil rfl) (by decide) (by decide) rfl rfl)
    (ha H0 B0 B σ H _ S (fun v H1 e1 r1 => by
      cases r1 with
      | @lst l xs _ hl r =>
        obtain ⟨ps, rfl, h2, h3, h4⟩ := refs_rp r
        have hpl : ps.length = ks.length := by have := congrArg List.length h2; simpa using this
        refine ⟨l, ps, rfl, hl.sq, fun p hp => (h3 p hp).sq, by omega, fun q L hq hsub hall => ?_⟩
        have e2 : Ext H1 (upd H1 q (SetTO X.prog X.w q L)) := Ext.new hq
        refine ⟨q, L, d, 64, rfl, upd_same, fun p hp => ?_, hd, fun p hp => ?_, fun L' p' pm nd hf pw hp' => ?_⟩
        · exact ((h3 p (hsub p hp)).to fun u hu => e2 _ _ hu).sq
        · obtain ⟨k', ek, _⟩ := h4 p (hsub p hp)
          have hmem : p.2 ∈ ps.map (·.2) := List.mem_map.mpr ⟨p, hsub p hp, rfl⟩
          rw [h2] at hmem
          obtain ⟨k2, hk2, e⟩ := List.mem_map.mp hmem
          have g := hk k2 hk2
          rw [← e]
          exact ⟨by unfold iN; rw [List.length_map]; exact g.len, g.Bd⟩
        · -- the sorted list's keys
          have hkk : ∀ p ∈ L', ∃ k ∈ ks, p.2 = iN k := fun p hp => by
            have hmem : p.2 ∈ ps.map (·.2) := List.mem_map.mpr ⟨p, hsub p (pm.mem_iff.mp hp), rfl⟩
            rw [h2] at hmem
            obtain ⟨k2, hk2, e⟩ := List.mem_map.mp hmem
            exact ⟨k2, hk2, e.symm⟩
          have hex : ∃ K' : List (List Nat), L'.map (·.2) = K'.map iN ∧ ∀ k ∈ K', k ∈ ks := by
            clear pm nd hf pw hp' k
            induction L' with
            | nil => exact ⟨[], rfl, fun k hk => by cases hk⟩
            | cons p L' ih =>
              obtain ⟨K', e1, e2⟩ := ih fun p hp => hkk p (List.mem_cons_of_mem _ hp)
              obtain ⟨k, hk', e⟩ := hkk p List.mem_cons_self
              exact ⟨k :: K', by rw [List.map_cons, List.map_cons, e1, e], fun z hz => by
                rcases List.mem_cons.mp hz with rfl | hz
                · exact hk'
                · exact e2 z hz⟩
          obtain ⟨K', eK, hK⟩ := hex
          have nK : K'.Nodup := by
            rw [eK] at nd
            exact List.Pairwise.of_map iN (fun a b hne e => hne (congrArg iN e)) nd
          have pK : K'.Pairwise fun a b => cd a < cd b := by
            have pw' : (L'.map (·.2)).Pairwise fun a b => TS.code 64 a ≤ TS.code 64 b := List.Pairwise.map _ (fun a b h => h) pw
            rw [eK] at pw'
            have pw2 : K'.Pairwise fun a b => cd a ≤ cd b := List.Pairwise.of_map iN (fun a b h => h) pw'
            refine (List.Pairwise.and_mem.mp (pw2.and nK)).imp fun {a b} h => ?_
            obtain ⟨ha, hb, h1, h2⟩ := h
            have : cd a ≠ cd b := fun e => h2 (cd_inj (hk a (hK a ha)) (hk b (hK b hb)) e)
            omega
          have eS : K' = sortC ks := cd_unique pK (sortC_lt hk) fun x => by
            rw [sortC_mem]
            refine ⟨fun h => hK x h, fun h => ?_⟩
            have h5 : iN x ∈ ps.map (·.2) := by rw [h2]; exact List.mem_map.mpr ⟨x, h, rfl⟩
            obtain ⟨p, hp, ep⟩ := List.mem_map.mp h5
            have h6 := hall p hp
            have h7 : p.2 ∈ L'.map (·.2) := ((pm.map (·.2)).mem_iff).mpr h6
            rw [eK, ep] at h7
            obtain ⟨x', hx', ex⟩ := List.mem_map.mp h7
            rw [← iN_inj ex]; exact hx'
          subst eS
          have e3 : Ext H1 (upd (upd H1 q (SetTO X.prog X.w q L)) p' (.lst (L'.map fun q => V.ref q.1))) := e2.trans (Ext.new hp')
          refine k p' _ (e1.back (e2.back hp')) (e1.trans e3) ⟨_, upd_same, ?_⟩
          refine RpA.tr ⟨fun a o h _ => Ext.new hp' a o (e2 a o h), fun a z => z.elim (fun z => .inr (z ▸ e2.back hp')) .inl⟩ (B := B) (H := H1) (rp_refs eK fun p hp => h4 p (hsub p (pm.mem_iff.mp hp)))) X cx)
end
end GL
end
/-! ## G19 -/
section
namespace GL
open PySem PySem.Spec PyProof.Rows L2
section
variable {c : Cp} {Γ Γ' Γ1 Γ2 : Gm} {e a b t elt tg iter ix : Expr} {es ifs : List Expr} {d x y z : D} {pos p p2 p3 q apos cpos : Pos} {n n2 : Str} {scope : Scope} {vs ts : List Nat} {i j : Nat} {kk : Bool} {E : En} {st : Stmt} {sts orelse rest body : List Stmt}
/-- the pair is two slots, one after the other -/
theorem slr_two {H0 : Hp} {B0 B1 B2 : Av} {σ : St} {H1 H2 : Hp} {v w : V} {s s2 : Sl} (S1 : Sto H0 B0 B1 σ H1 Γ1) (r1 : SlR H0 B1 σ H1 Γ1 v s) (x2 : Ext H1 H2) (sub : ∀ a, B1 a → B2 a) (nw : ∀ a, B2 a → B1 a ∨ H1 a = none) (r2 : SlR H0 B2 σ H2 Γ1 w s2) (fr : ∀ o b, s2 = .own o → w = .ref b → H1 b = none) : SlR H0 B2 (σ.set i (some v)) H2 (Γ1.set i s) w s2 := by
  cases s2 with
  | any => trivial
  | val d => exact r2
  | own u =>
    obtain ⟨q, h1, h2, h3, h4, h5⟩ := r2
    refine ⟨q, h1, h2, h3, h4, fun m o' g1 g2 => ?_⟩
    rcases set_get_own g1 with ⟨rfl, rfl⟩ | ⟨hne, g1'⟩
    · obtain ⟨q1, f1, f2, f3, f4, f5⟩ := r1
      have hl : i < σ.length := by
        rw [S1.len]
        have := (List.getElem?_eq_some_iff.mp g1).1
        rwa [List.length_set] at this
      rw [List.getElem?_set_self hl, f1] at g2
      have e : q1 = q := by cases g2; rfl
      have z := fr u q rfl h1
      obtain ⟨u0, hu0⟩ := f4.some
      rw [e, z] at hu0
      cases hu0
    · rw [List.getElem?_set_ne hne] at g2
      exact h5 m o' g1' g2
/-- a, b = e1, e2, the names local or cells -/
theorem sx_parC {i j : Nat} {n1 n2 : Str} {p1 p2 pt : Pos} {kt k2 : Nat} {pt2 : Pos} {P : Sl → Gm → Prop} (hN : c.N[i]? = some n1) (hN2 : c.N[j]? = some n2) (hx : Loc c.sc n1) (hf : c.fn n1 = true ∨ c.sc.names.lookup n1 = some .local) (hx2 : Loc c.sc n2) (hf2 : c.fn n2 = true ∨ c.sc.names.lookup n2 = some .local)
    (ha : ES c a Γ P) (hb : ∀ s Γ1, P s Γ1 → ∃ s2, ESp c b Γ1 s2 ∧ E.nx ((Γ1.set i s).set j s2))
    (hw : ∀ env : Env, env.scope = c.sc → swappedStores [.Tuple [.Name n1 p1, .Name n2 p2] kt pt] (.Tuple [a, b] k2 pt2) env = pure none) (hs : ∀ env : Env, swapsWithSole [.Tuple [.Name n1 p1, .Name n2 p2] kt pt] (.Tuple [a, b] k2 pt2) pos.line env = pure false := by intro _; rfl)
    (he : ∀ env : Env, starEach [a, b] env = (false, eval a env) :: starEach [b] env := by intro _; rfl) (he2 : ∀ env : Env, starEach [b] env = (false, eval b env) :: starEach [] env := by intro _; rfl) (h1 : ∀ env : Env, (assignEach [.Tuple [.Name n1 p1, .Name n2 p2] kt pt] env).map (·.2) = [assign (.Tuple [.Name n1 p1, .Name n2 p2] kt pt) env] := by intro _; rfl) :
    SX c (.Assign [.Tuple [.Name n1 p1, .Name n2 p2] kt pt] (.Tuple [a, b] k2 pt2) pos) Γ E := fun H0 B0 B σ H Dn S L X cx =>
  go_s (ps_asg (pe_tup (pa_cons (pe_of X a) (pa_cons (pe_of X b) pa_nil (he2 X.env)) (he X.env))) (pg_tup cx.calm (pgs_cons (pg_name (by rw [cx.N]; exact cx.nd) (by rw [cx.N]; exact hN) (by rw [cx.sc]; exact hx) (by rw [cx.fn, cx.sc]; exact hf)) (pgs_cons (pg_name (by rw [cx.N]; exact cx.nd) (by rw [cx.N]; exact hN2) (by rw [cx.sc]; exact hx2) (by rw [cx.fn, cx.sc]; exact hf2)) pgs_nil))) (hs X.env) (hw X.env cx.sc) (h1 X.env))
    (ha H0 B0 B σ H _ S (fun v H1 B1 s Γ1 pp S1 t1 r1 => by
      obtain ⟨s2, hb2, hn⟩ := hb s Γ1 pp
      refine hb2 H0 B0 B1 σ H1 _ S1 (fun w H2 B2 x2 sub nw S2 r2 fr => ?_) X cx
      refine ⟨sz2, fun tp htp => ?_⟩
      have e3 : Ext H2 (upd H2 tp (.tup [v, w])) := Ext.new htp
      have r1' := S1.slr_ext r1 x2 sub nw
      have r2' : SlR H0 B2 (σ.set i (some v)) H2 (Γ1.set i s) w s2 := slr_two (i := i) S1 r1 x2 sub nw r2 fr
      have S3 := S2.set_slot r1' i
      have r2'' := S3.slr_ext r2' e3 (fun _ h => h) (fun _ h => .inl h)
      have S4 := (S3.ext e3).set_slot r2'' j
      have t2 : Tr B1 H1 B2 (upd H2 tp (.tup [v, w])) := ⟨fun a o h _ => e3 a o (x2 a o h), nw⟩
      exact ⟨tp, [v, w], rfl, .inl (.inl upd_same), rfl, v, [w], rfl, w, [], rfl, rfl, L.nx B2 _ _ _ S4 (t1.trans t2) hn⟩) X cx)
theorem bs_parC (i j : Nat) {n1 : Str} {p1 pt : Pos} {kt k2 : Nat} {pt2 : Pos} {s1 s2 : Sl} (ha : ESp c a Γ s1) (hb : ESp c b Γ s2) (k : BX c rest ((Γ.set i s1).set j s2) E) (hN : c.N[i]? = some n1 := by rfl) (hN2 : c.N[j]? = some n2 := by rfl) (hx : Loc c.sc n1 := by first | exact .inl rfl | exact .inr rfl) (hf : c.fn n1 = true ∨ c.sc.names.lookup n1 = some .local := by first | exact .inl rfl | exact .inr rfl) (hx2 : Loc c.sc n2 := by first | exact .inl rfl | exact .inr rfl) (hf2 : c.fn n2 = true ∨ c.sc.names.lookup n2 = some .local := by first | exact .inl rfl | exact .inr rfl)
    (hw : swappedStores [.Tuple [.Name n1 p1, .Name n2 p2] kt pt] (.Tuple [a, b] k2 pt2) { scope := c.sc, locals := 0, globals := 0, cells := [] } = pure none := by rfl) (hs : ∀ env : Env, swapsWithSole [.Tuple [.Name n1 p1, .Name n2 p2] kt pt] (.Tuple [a, b] k2 pt2) pos.line env = pure false := by intro _; rfl)
    (he : ∀ env : Env, starEach [a, b] env = (false, eval a env) :: starEach [b] env := by intro _; rfl) (he2 : ∀ env : Env, starEach [b] env = (false, eval b env) :: starEach [] env := by intro _; rfl) (h1 : ∀ env : Env, (assignEach [.Tuple [.Name n1 p1, .Name n2 p2] kt pt] env).map (·.2) = [assign (.Tuple [.Name n1 p1, .Name n2 p2] kt pt) env] := by intro _; rfl) :
    BX c (.Assign [.Tuple [.Name n1 p1, .Name n2 p2] kt pt] (.Tuple [a, b] k2 pt2) pos :: rest) Γ E :=
  bx_cons (sx_parC hN hN2 hx hf hx2 hf2 ha.s (fun s Γ1 q => by obtain ⟨rfl, rfl⟩ := q; exact ⟨s2, hb, k⟩) (sws_of hw) hs he he2 h1)
/-- d[i], d one's own, short -/
theorem ep_dg (s : Nat) {f : List (Int × D)} {i : Int} (hi : EP c ix Γ (.int i)) (hl : lookD f i = some d) (hN : c.N[s]? = some n := by rfl) (hv : Vis c.sc n := by first | exact .inl rfl | exact .inr (.inl rfl) | exact .inr (.inr rfl)) (hg : Γ[s]? = some (.own (.dK f)) := by rfl) (hs : NoSl ix := by exact fun _ _ => rfl) (hd : (n == ("__debug__" : Str)) = false := by decide) (hcd : (n == ("__classdict__" : Str)) = false := by decide) : EP c (.Subscript (.Name n p) ix pos) Γ d := ep_dget hN hv hg hi hl hs hd hcd
theorem ep_dgT (s : Nat) {f : List (List Int × D)} {i : List Int} (hi : EP c ix Γ (.tup false (i.map .int))) (hl : lookD f i = some d) (hN : c.N[s]? = some n := by rfl) (hv : Vis c.sc n := by first | exact .inl rfl | exact .inr (.inl rfl) | exact .inr (.inr rfl)) (hg : Γ[s]? = some (.own (.dT f)) := by rfl) (hs : NoSl ix := by exact fun _ _ => rfl) (hd : (n == ("__debug__" : Str)) = false := by decide) (hcd : (n == ("__classdict__" : Str)) = false := by decide) : EP c (.Subscript (.Name n p) ix pos) Γ d := ep_dgetT hN hv hg hi hl hs hd hcd
theorem eo_vals (s : Nat) {f : List (Int × D)} (hg : c.gl "list") (hm : c.mg "list" = none) (hN : c.N[s]? = some n := by rfl) (hv : Vis c.sc n := by first | exact .inl rfl | exact .inr (.inl rfl) | exact .inr (.inr rfl)) (hgs : Γ[s]? = some (.own (.dK f)) := by rfl) (hd : (n == ("__debug__" : Str)) = false := by decide) (hcd : (n == ("__classdict__" : Str)) = false := by decide)
    (hm' : ∀ X te, X.calm = true → PE X (.Name n p2) te → Gl X "list" → X.mg "list" = none → PE X (.Call (.Name "list" p) [.Call (.Attribute (.Name n p2) "values" apos) [] [] cpos] [] pos) (tListValues te) := by exact fun X te h1 h2 h3 h4 => pe_listValues h1 h2 h3 h4 (by decide +kernel)) : EO c (.Call (.Name "list" p) [.Call (.Attribute (.Name n p2) "values" apos) [] [] cpos] [] pos) Γ (.lst (f.map (·.2))) := eo_values hg hm hN hv hgs hd hcd hm'
theorem bs_retO (s : Nat) {o : Ob} (k : E.ro Γ o) (hN : c.N[s]? = some n := by rfl) (hv : Vis c.sc n := by first | exact .inl rfl | exact .inr (.inl rfl) | exact .inr (.inr rfl)) (hg : Γ[s]? = some (.own o) := by rfl) (hd : (n == ("__debug__" : Str)) = false := by decide) (hcd : (n == ("__classdict__" : Str)) = false := by decide) : BX c (.Return (some (.Name n p)) pos :: rest) Γ E := bx_cons (sx_retOwn hN hv hg k hd hcd)
end
end GL
end
/-! ## G20 -/
section
namespace GL
open PySem PySem.Spec PyProof.Rows L2
theorem SlW.trans {a b c : Sl} (h : SlW a b) (g : SlW b c) : SlW a c := by
  cases g with
  | refl => exact h
  | any => exact .any _
  | frz ds => cases h with
    | refl => exact .frz ds
theorem GmW.trans : ∀ {a b c : Gm}, GmW a b → GmW b c → GmW a c
  | [], [], [], _, _ => trivial
  | x :: a, y :: b, z :: c, h, g => ⟨h.1.trans g.1, GmW.trans h.2 g.2⟩
  | [], [], _ :: _, _, g => g.elim
  | [], _ :: _, _, h, _ => h.elim
  | _ :: _, [], _, h, _ => h.elim
  | _ :: _, _ :: _, [], _, g => g.elim
section
variable {c : Cp} {Γ Γ' Γ1 Γ2 : Gm} {e a b t elt tg iter ix e1 e2 e3 : Expr} {es ifs : List Expr} {d x y z : D} {pos p p2 p3 q apos cpos : Pos} {n n2 : Str} {scope : Scope} {vs ts : List Nat} {i j : Nat} {kk : Bool} {E : En} {st : Stmt} {sts orelse rest body : List Stmt}
def rCatE (K : PySem.W.Frag) : R2 := fun x y H Q => ∃ a b ys, x = .ref a ∧ y = .ref b ∧ SqT K H a [] ∧ SqT K H b ys ∧ Q (.ref b) H
theorem op_catE {X : Cx} : OpR X (binaryOp .Add) (rCatE X.K) := by
  intro pins s σ H x y v u Q I rx ry h
  obtain ⟨a, b, ys, rfl, rfl, ha, hb, q⟩ := h
  cases rx
  cases ry
  obtain ⟨its, r1, p1, _⟩ := I.tuple ha
  obtain ⟨its2, r2, p2, _⟩ := I.tuple hb
  have e : its = [] := by cases r1; rfl
  subst e
  exact cat_tup0 p1 p2 ⟨.ref b, H, I, rfl, q⟩
/-- () + t is t itself -/
theorem ep_catE {ys : List D} {k1 k2 : Bool} (ha : EW c a Γ (.tup k1 [])) (hb : EP c b Γ (.tup k2 ys)) : EP c (.BinOp a .Add b pos) Γ (.tup k2 ys) := fun H0 B0 B σ H Q S k X cx =>
  go_e (pe_op (op_catE (X := X)) (pe_of X a) (pe_of X b)) (ha H0 B0 B σ H _ S (fun v H1 e1 r1 => hb H0 B0 B σ H1 _ (S.ext e1) (fun w H2 e2 r2 => by
    cases r1 with
    | tup h r =>
      cases r
      have r2' := r2
      cases r2 with
      | tup g1 g2 g3 => exact ⟨_, _, _, rfl, rfl, (h.to fun u hu => e2 _ _ hu).sq, g2.sq, k _ H2 (e1.trans e2) r2'⟩) X cx) X cx)
theorem ep_catT' {xs ys : List D} (ha : EW c a Γ (.tup true xs)) (hb : EP c b Γ (.tup true ys)) (hy : ys ≠ []) (hz : xs.length + ys.length ≤ 100000) : EP c (.BinOp a .Add b pos) Γ (.tup true (xs ++ ys)) := by
  cases xs with
  | nil => exact ep_catE ha hb
  | cons x xs => exact ep_catT ha hb.w (by simp) hy hz
/-- isinstance(x, (bool, str)) -/
theorem ep_isiBS {k : Bool} {x1} {p3 p4 : Pos} (hg : c.gl "isinstance") (hm : c.mg "isinstance" = none) (hg1 : c.gl "bool") (hm1 : c.mg "bool" = none) (hg2 : c.gl "str") (hm2 : c.mg "str" = none) (ha : EW c a Γ d) (hk : k = (d.isB || d.isS))
    (he : ∀ env : Env, starEach [a, .Tuple [.Name "bool" p2, .Name "str" p3] x1 p4] env = (false, eval a env) :: starEach [.Tuple [.Name "bool" p2, .Name "str" p3] x1 p4] env := by intro _; rfl) : EP c (.Call (.Name "isinstance" p) [a, .Tuple [.Name "bool" p2, .Name "str" p3] x1 p4] [] pos) Γ (.bool k) := fun H0 B0 B σ H Q S q X cx =>
  go_e (pe_callB call_isiT (cx.gl hg) (by rw [cx.mg]; exact hm) (by decide +kernel) (pa_cons (pe_of X a) (pa_cons (pe_tup (pa_cons (pe_bltn (v := .ty "bool") (cx.gl hg1) (by rw [cx.mg]; exact hm1) (by decide +kernel) rfl) (pa_cons (pe_bltn (v := .ty "str") (cx.gl hg2) (by rw [cx.mg]; exact hm2) (by decide +kernel) rfl) pa_nil rfl) rfl)) pa_nil rfl) (he X.env)) (by decide) (by decide) (he X.env) rfl)
    (ha H0 B0 B σ H _ S (fun v H1 e1 r1 => ⟨by show 2 ≤ sizeLine; decide, fun tp htp => ⟨v, tp, [.ty "bool", .ty "str"], _, [.type "bool", .type "str"], k, rfl, upd_same, .cons (.ty _) (.cons (.ty _) .nil), (r1.ext (Ext.new htp)).ty, by
      subst hk
      cases d <;> rfl, q _ _ (e1.trans (Ext.new htp)) (.bl k)⟩⟩) X cx)
theorem tp_isN {j'} {pos'} (ha : EW c a Γ d) : TP c (.Compare a [.Is] [.Constant .none j' pos'] pos) Γ d.isNone := tp_cmp (fun _ _ => op_isN) ha ep_none.w (by
  have z := rvd_isN (d := d)
  cases d <;> exact z)
/-- range(i, j, step) -/
theorem is_rng3 {i j s : Int} {m : Nat} (hg : c.gl "range") (hm : c.mg "range" = none) (h1 : EP c e1 Γ (.int i)) (h2 : EP c e2 Γ (.int j)) (h3 : EP c e3 Γ (.int s)) (hr : RgC i j s m) (he : ∀ env : Env, starEach [e1, e2, e3] env = (false, eval e1 env) :: starEach [e2, e3] env := by intro _; rfl) (he2 : ∀ env : Env, starEach [e2, e3] env = (false, eval e2 env) :: starEach [e3] env := by intro _; rfl) (he3 : ∀ env : Env, starEach [e3] env = (false, eval e3 env) :: starEach [] env := by intro _; rfl)
    (hpl : ∀ env : Env, (backTo pos (starEach [e2, e3] env)).any (·.1) = false := by intro _; rfl) : IS c tg (.Call (.Name "range" p) [e1, e2, e3] [] pos) Γ ((List.range m).map fun q => D.int (i + (q : Nat) * s)) := fun H0 B0 B σ H R S k X cx =>
  go_i (pi_range3 (cx.gl hg) (by rw [cx.mg]; exact hm) (pa_cons (pe_of X e1) (pa_cons (pe_of X e2) (pa_cons (pe_of X e3) pa_nil (he3 X.env)) (he2 X.env)) (he X.env)) (he X.env) (hpl X.env)) (h1 H0 B0 B σ H _ S (fun v H1 x1 r1 => h2 H0 B0 B σ H1 _ (S.ext x1) (fun w H2 x2 r2 => h3 H0 B0 B σ H2 _ ((S.ext x1).ext x2) (fun u H3 x3 r3 => by
    cases r1
    cases r2
    cases r3
    refine ⟨i, j, s, m, rfl, hr, k _ H3 (x1.trans (x2.trans x3)) ⟨fun _ => True, YFn fun q => .int (i + (q : Nat) * s), by rw [List.length_map, List.length_range]; exact walk_rangeC, fun _ _ _ => trivial, fun B2 H4 q x H5 d _ _ y hd => ?_⟩⟩
    obtain ⟨rfl, rfl⟩ := y
    rw [List.getElem?_map] at hd
    obtain ⟨q', hq, rfl⟩ := Option.map_eq_some_iff.mp hd
    have : q' = q := by
      obtain ⟨h1, h2⟩ := List.getElem?_eq_some_iff.mp hq
      rw [List.getElem_range] at h2; exact h2.symm
    subst this
    exact ⟨Ext.refl _, .int _⟩) X cx) X cx) X cx)
/-- x = own.pop(0), one, two = own.pop() -/
theorem ex_pop0 {s : Nat} {ds : List D} {j} {kp : Pos} (hN : c.N[s]? = some n) (hv : Vis c.sc n) (hg : Γ[s]? = some (.own (.lst (d :: ds)))) (hz : ds.length ≤ 1000)
    (hm : ∀ X to t, PE X (.Name n p) to → PA X [.Constant (.int 0) j kp] t → PE X (.Call (.Attribute (.Name n p) "pop" apos) [.Constant (.int 0) j kp] [] cpos) (tBM X.K "list" rPopAt to t) := by exact fun X to t h1 h2 => pe_bm PySem.F.plainAttrs_list PySem.F.slot_list_pop PySem.F.type_list_pop mt_popAt h1 h2) (hd : (n == ("__debug__" : Str)) = false := by decide) (hcd : (n == ("__classdict__" : Str)) = false := by decide) :
    EX c (.Call (.Attribute (.Name n p) "pop" apos) [.Constant (.int 0) j kp] [] cpos) Γ (fun d' Γ' => d' = d ∧ Γ' = Γ.set s (.own (.lst ds))) :=
  ex_popAt (P := fun d' Γ' => d' = .int 0 ∧ Γ' = Γ) hN hv ⟨_, hg⟩ (ep_int.toX) (fun d0 Γ1 q => by obtain ⟨rfl, rfl⟩ := q; exact ⟨0, 0, d :: ds, d, rfl, rfl, hg, rfl, by simp; omega, rfl, rfl⟩) hm (by intro _; rfl) hd hcd
theorem bs_pop0 (i s : Nat) {ds : List D} {j} {kp : Pos} {pn : Pos} (k : BX c rest ((Γ.set s (.own (.lst ds))).set i (.val d)) E) (hz : ds.length ≤ 1000) (hN : c.N[s]? = some n := by rfl) (hv : Vis c.sc n := by first | exact .inl rfl | exact .inr (.inl rfl) | exact .inr (.inr rfl)) (hg : Γ[s]? = some (.own (.lst (d :: ds))) := by rfl)
    (hN2 : c.N[i]? = some n2 := by rfl) (hx : Loc c.sc n2 := by first | exact .inl rfl | exact .inr rfl) (hf : c.fn n2 = true ∨ c.sc.names.lookup n2 = some .local := by first | exact .inl rfl | exact .inr rfl)
    (hm : ∀ X to t, PE X (.Name n p) to → PA X [.Constant (.int 0) j kp] t → PE X (.Call (.Attribute (.Name n p) "pop" apos) [.Constant (.int 0) j kp] [] cpos) (tBM X.K "list" rPopAt to t) := by exact fun X to t h1 h2 => pe_bm PySem.F.plainAttrs_list PySem.F.slot_list_pop PySem.F.type_list_pop mt_popAt h1 h2)
    (hs : ∀ env : Env, env.scope = c.sc → swapsWith (.Call (.Attribute (.Name n p) "pop" apos) [.Constant (.int 0) j kp] [] cpos) (some (.Name n2 pn)) pos.line env = pure false := by intro _ _; rfl) (hd : (n == ("__debug__" : Str)) = false := by decide) (hcd : (n == ("__classdict__" : Str)) = false := by decide) :
    BX c (.Assign [.Name n2 pn] (.Call (.Attribute (.Name n p) "pop" apos) [.Constant (.int 0) j kp] [] cpos) pos :: rest) Γ E :=
  bs_setX i (ex_pop0 hN hv hg hz hm hd hcd) (fun d' Γ' q => by obtain ⟨rfl, rfl⟩ := q; exact k) hN2 hx hf hs
end
end GL
end
/-! ## C1 -/
section
namespace GL
open PySem PySem.Spec PyProof.Rows L2
/-! ### _law_cells, one cell: by the layer's own rules -/
theorem cutV_map (ns : List Int) (lo hi : Option Int) : ∃ ms : List Int, cutV (ns.map V.int) lo hi = ms.map V.int ∧ ms.length ≤ ns.length := by
  unfold cutV
  refine ⟨(ns.drop (HT.sIx (ns.map V.int).length 0 lo)).take (HT.sIx (ns.map V.int).length (ns.map V.int).length hi - HT.sIx (ns.map V.int).length 0 lo), by rw [List.map_take, List.map_drop], ?_⟩
  rw [List.length_take, List.length_drop]; omega
theorem cutV_one (ns : List Int) : cutV (ns.map V.int) none (some 1) = (ns.take 1).map V.int := by
  unfold cutV
  rw [HT.sIx_none, show (some (1 : Int)) = some ((1 : Nat) : Int) from rfl, HT.sIx_nat, List.drop_zero, Nat.sub_zero, List.map_take]
  cases ns with
  | nil => rfl
  | cons n ns => simp
def spCells (K : PySem.W.Frag) : Sp := fun vs H Q _ => ∃ (a : Addr) (ns : List Int), vs = [.ref a, .int 1] ∧ SqL K H a (ns.map V.int) ∧ ns.length ≤ 63 ∧ ∀ (z : Int) p H', H p = none → Ext H H' → H' p = some (.lst [.int z]) → Q (.ref p) H'
section
variable {P : Program} {w : World} {K : PySem.W.Frag} {mg : Str → Option Value} {base : Heap}
theorem p_cells (T : Tx K mg) : Pm P w K mg base 1 "_law_cells" ["_law_script", "_law_most_so"] (spCells K) := by
  refine T.d_l_cells.pm fun f fd F => F.ok sc_l_cells (fun vs H Q E h => ?_) (fun cdv A outer s H vs Q E hr h => ?_)
  · obtain ⟨a, ns, rfl, _⟩ := h; rfl
  · obtain ⟨a, ns, rfl, hS, hl, q⟩ := h
    refine ⟨_, PSs.nox (pss_cons (ps_set (i := 2) sc_l_cells.nd rfl (.inl rfl) (pe_orT (pe_callTy call_list_of (by rfl) T.b_list boot_list (pa_cons (pe_slice sl_list (pv 0) po_none (po_some (pv 1))) pa_nil)) (pe_one (pe_lst (pa_cons pe_int pa_nil)))))
      (pss_cons (ps_for PassesOwn.never rfl (pi_enum (by rfl) T.b_enumerate (pa_cons (pe_slice sl_list (pv 0) (po_some (pv 1)) (po_some pe_int)) pa_nil)) (pg_tup rfl (pgs_cons (pg_name (i := 3) sc_l_cells.nd rfl (.inl rfl)) (pgs_cons (pg_name (i := 4) sc_l_cells.nd rfl (.inl rfl)) pgs_nil)))
        (pss_cons (ps_set (i := 5) sc_l_cells.nd rfl (.inl rfl) (pe_op op_mod (pe_callTy call_int1 (by rfl) T.b_int boot_int (pa_cons (pv 3) pa_nil)) (pv 1)))
        (pss_one (ps_asg (pe_op op_add (pe_ix ix_list (pv 2) (pv 5) (fun _ _ => rfl)) (pe_op op_mul (pv 4) (pe_op op_add (pv 3) pe_int))) (pg_sub (pv 2) (pv 5) set_list)))))
      (pss_one (ps_ret (pv 2))))), ?_⟩
    -- list(script[:most]) or [0]
    refine ⟨_, rfl, _, rfl, _, rfl, a, _, rfl, hS, fun p0 np0 => ?_⟩
    rw [cutV_one]
    refine ⟨p0, _, rfl, .inl (SqL.of upd_same), fun l nl => ?_⟩
    have s1 : Ext H (upd (upd H p0 (.lst ((ns.take 1).map V.int))) l (.lst ((ns.take 1).map V.int))) := (Ext.new np0).trans (Ext.new nl)
    refine ⟨!((ns.take 1).map V.int).isEmpty, .inl ⟨_, SqL.of upd_same, rfl⟩, ?_⟩
    have key : ∀ (Q' : VK) (σ : St), (∀ (z : Int) p H1, H p = none → Ext H H1 → H1 p = some (.lst [.int z]) → Q' (.ref p) H1) → (if (!((ns.take 1).map V.int).isEmpty) = true then Q' (.ref l) (upd (upd H p0 (.lst ((ns.take 1).map V.int))) l (.lst ((ns.take 1).map V.int))) else tLst (tCons (tC (.int 0)) tNil) σ (upd (upd H p0 (.lst ((ns.take 1).map V.int))) l (.lst ((ns.take 1).map V.int))) Q') := fun Q' σ hQ => by
      cases ns with
      | nil =>
        refine iteF ?_
        exact ⟨by show 1 ≤ sizeLine; decide, fun p np => hQ 0 p _ (s1.back np) (s1.trans (Ext.new np)) upd_same⟩
      | cons n ns =>
        refine iteT ?_
        exact hQ n l _ ((Ext.new np0).back nl) s1 upd_same
    refine key _ _ fun z p H1 np e1 h1 => ?_
    -- the loop
    obtain ⟨ms, em, hml⟩ := cutV_map ns (some 1) (some 63)
    refine ⟨_, rfl, _, rfl, 1, rfl, 63, rfl, a, _, rfl, Same.seq e1 hS, fun q0 nq => ?_⟩
    rw [em]
    have hne : p ≠ q0 := ne_of_none h1 nq
    refine ⟨q0, _, rfl, SqL.of upd_same, for_it walk_enum (fun i σ H2 => ∃ (z : Int) (v3 v4 v5 : Option V), σ = [some (.ref a), some (.int 1), some (.ref p), v3, v4, v5] ∧ H2 p = some (.lst [.int z]) ∧ H2 q0 = some (.lst (ms.map V.int)) ∧ Ext H H2) ⟨z, none, none, none, rfl, by rw [upd_ne hne]; exact h1, upd_same, e1.trans (Ext.new nq)⟩ (fun i σ H2 _ ⟨_, _, _, _, _, _, h, _⟩ => SqL.of h) ?_ ?_⟩
    · rintro i x σ H2 H3 hi ⟨z, v3, v4, v5, rfl, hp, hq, e2⟩ ⟨tp, x1, y1, rfl, ntp, rfl, ex, ey⟩
      cases ex
      have ey : (ms.map V.int)[i]? = some y1 := ey
      rw [List.getElem?_map] at ey
      obtain ⟨m, hm, rfl⟩ := Option.map_eq_some_iff.mp ey
      rw [List.length_map] at hi
      have hpt : p ≠ tp := ne_of_none hp ntp
      have hqt : q0 ≠ tp := ne_of_none hq ntp
      have e3 : ((i : Nat) : Int) % 1 = 0 := by omega
      refine ⟨tp, _, rfl, SqT.of upd_same, rfl, _, _, rfl, _, _, rfl, rfl, ?_⟩
      refine ⟨_, rfl, .inl ⟨_, rfl, _, rfl, _, _, rfl, rfl, (show (0 : Int) < 1 by decide), ?_⟩⟩
      refine ⟨_, rfl, _, rfl, p, _, (i : Int) % 1, .int z, rfl, rfl, SqL.of (by rw [upd_ne hpt]; exact hp), (show atI [V.int z] ((i : Int) % 1) = some (.int z) by rw [e3]; rfl), _, rfl, _, rfl, _, _, rfl, rfl, _, _, rfl, rfl, .inr ⟨by omega, by omega⟩, _, _, rfl, rfl, ?_⟩
      refine ⟨_, rfl, _, rfl, p, _, (i : Int) % 1, 0, rfl, rfl, (by rw [upd_ne hpt]; exact hp), (show ixN ([V.int z] : List V).length ((i : Int) % 1) = some 0 by rw [e3]; rfl), ?_⟩
      refine ⟨z + m * (i + 2), _, _, _, rfl, upd_same, by rw [upd_ne hne.symm, upd_ne hqt]; exact hq, fun b o hb => ?_⟩
      rw [upd_ne (ne_of_none hb np), upd_ne (ne_of_none (e2 _ _ hb) ntp)]
      exact e2 _ _ hb
    · rintro σ H2 ⟨z, v3, v4, v5, rfl, hp, hq, e2⟩
      exact ⟨_, rfl, q z p H2 np e2 hp⟩
end
end GL
end
/-! ## D1 -/
section
namespace GL
open PySem PySem.Spec PyProof.Rows L2
section
variable {P : Program} {w : World} {K : PySem.W.Frag} {mg : Str → Option Value} {base : Heap}
/-! ### is_number -/
def D.isNum (d : D) : Bool := d.isI && !d.isB
def R_is_number (ds : List D) (d : D) : Prop := ∃ x, ds = [x] ∧ d = .bool x.isNum
theorem p_is_number (T : Tx K mg) : Pm P w K mg base 1 "is_number" ["thing"] (spD R_is_number) := by
  refine T.d_is_number.pmD sc_is_number (fun ds d h => ?_) fun ds d h => ?_
  · obtain ⟨x, rfl, _⟩ := h; rfl
  · obtain ⟨x, rfl, rfl⟩ := h
    refine bs_ret (ep_and2 (ep_isInt rfl T.b_isinstance rfl T.b_int (nw 0)) (fun h => ep_one (ep_not (ep_isBool rfl T.b_isinstance rfl T.b_bool (nw 0))))) rfl
/-! ### tuple_of -/
mutual
def D.toTup : D → D
  | .list xs => .tup true (D.toTups xs)
  | .tup _ xs => .tup true (D.toTups xs)
  | x => x
def D.toTups : List D → List D
  | [] => []
  | x :: xs => D.toTup x :: D.toTups xs
end
theorem toTups_map : ∀ xs : List D, D.toTups xs = xs.map D.toTup
  | [] => rfl
  | x :: xs => by rw [D.toTups, toTups_map xs]; rfl
/-- depth n at most, no list longer than 1000 -/
def D.wd : Nat → D → Prop
  | 0, d => d.items = Option.none
  | n + 1, d => d.items = Option.none ∨ ∃ xs, d.items = some xs ∧ xs.length ≤ 1000 ∧ ∀ x ∈ xs, D.wd n x
theorem isLT_items : ∀ d : D, (decide (d.ty = "list") || decide (d.ty = "tuple")) = d.items.isSome := fun d => by cases d <;> rfl
theorem toTup_items {d : D} {xs : List D} (h : d.items = some xs) : d.toTup = .tup true (xs.map D.toTup) := by
  rcases items_cases h with rfl | ⟨k, rfl⟩ <;> simp [D.toTup, toTups_map]
theorem toTup_none {d : D} (h : d.items = Option.none) : d.toTup = d := by cases d <;> first | rfl | cases h
def R_tuple_of (n : Nat) (ds : List D) (d : D) : Prop := ∃ x, ds = [x] ∧ x.wd n ∧ d = x.toTup
theorem p_tuple_of (T : Tx K mg) : ∀ n, Pm P w K mg base (n + 1) "tuple_of" ["thing"] (spD (R_tuple_of n))
  | 0 => by
    refine T.d_tuple_of.pmD sc_tuple_of (fun ds d h => ?_) fun ds d h => ?_
    · obtain ⟨x, rfl, _⟩ := h; rfl
    · obtain ⟨x, rfl, hx, rfl⟩ := h
      refine bs_ifr (tp_val (ep_isiLT rfl T.b_isinstance rfl T.b_list rfl T.b_tuple (nw 0) rfl)) (fun h => ?_) (fun h => ?_)
      · rw [isLT_items, hx] at h; cases h
      · exact bs_ret (nm 0) (toTup_none hx).symm
  | n + 1 => by
    have ih := p_tuple_of T n
    refine T.d_tuple_of.pmD sc_tuple_of (fun ds d h => ?_) fun ds d h => ?_
    · obtain ⟨x, rfl, _⟩ := h; rfl
    · obtain ⟨x, rfl, hx, rfl⟩ := h
      refine bs_ifr (tp_val (ep_isiLT rfl T.b_isinstance rfl T.b_list rfl T.b_tuple (nw 0) rfl)) (fun h => ?_) (fun h => ?_)
      · rw [isLT_items] at h
        rcases hx with hx | ⟨xs, hx, hl, hw⟩
        · rw [hx] at h; cases h
        · refine bs_ret (ep_tupleOf rfl T.b_tuple (eo_map [("part", 1)] xs id D.toTup ?_ (fun y hy => ⟨_, gn 1, ?_⟩) (by omega)).ep.w) (toTup_items hx).symm
          · rw [List.map_id]; exact iw_seq (nm 0) hx
          · exact ep_call ((ih.fd (Nat.le_refl _)).blk _) rfl (ap_cons (nm 1) ap_nil) ⟨y, rfl, hw y hy, rfl⟩
      · rw [isLT_items] at h
        have hx' : x.items = Option.none := by cases q : x.items with | none => rfl | some _ => rw [q] at h; cases h
        exact bs_ret (nm 0) (toTup_none hx').symm
end
end GL
end
/-! ## D2 -/
section
namespace GL
open PySem PySem.Spec PyProof.Rows L2
theorem get_dN {l : List Nat} {i : Nat} (h : i < l.length) : (l.map dN)[i]? = some (dN (l.getD i 0)) := by
  rw [List.getElem?_map, List.getD_eq_getElem?_getD, List.getElem?_eq_getElem h]; rfl
/-- a list or a tuple of numbers -/
def dS (b : Bool) (l : List Nat) : D := if b then dL l else dT l
theorem dS_items {b : Bool} {l : List Nat} : (dS b l).items = some (l.map dN) := by cases b <;> rfl
section
variable {P : Program} {w : World} {K : PySem.W.Frag} {mg : Str → Option Value} {base : Heap}
/-! ### numbered -/
def numStep {α : Type} [DecidableEq α] (s : List α × List Nat) (x : α) : List α × List Nat :=
  let m := if x ∈ s.1 then s.1 else s.1 ++ [x]
  (m, s.2 ++ [m.idxOf x])
def numOf {α : Type} [DecidableEq α] (l : List α) : List Nat := (l.foldl numStep ([], [])).2
theorem num_len {α : Type} [DecidableEq α] (l : List α) (s : List α × List Nat) : (l.foldl numStep s).2.length = s.2.length + l.length ∧ (l.foldl numStep s).1.length ≤ s.1.length + l.length := by
  induction l generalizing s with
  | nil => exact ⟨rfl, Nat.le_refl _⟩
  | cons x l ih =>
    obtain ⟨h1, h2⟩ := ih (numStep s x)
    rw [List.foldl_cons]
    refine ⟨by rw [h1]; simp [numStep]; omega, Nat.le_trans h2 ?_⟩
    simp only [numStep, List.length_cons]
    split <;> simp <;> omega
def R_numbered (ds : List D) (d : D) : Prop := ∃ (α : Type) (_ : DecidableEq α) (k : Kd α) (l : List α), l.length ≤ 1000 ∧ ds = [.list (l.map k.f)] ∧ d = dT (numOf l)
theorem p_numbered (T : Tx K mg) : Pm P w K mg base 1 "numbered" ["row"] (spD R_numbered) := by
  refine T.d_numbered.pmD sc_numbered (fun ds d h => ?_) fun ds d h => ?_
  · obtain ⟨_, _, _, l, _, rfl, _⟩ := h; rfl
  · obtain ⟨α, _, kd, l, hl, rfl, rfl⟩ := h
    refine bs_par 1 2 (EO.sp (eo_lst ap_nil (by decide))) (EO.sp (eo_lst ap_nil (by decide))) ?_
    refine bs_fold l kd.f (([], []) : List α × List Nat) numStep (fun s => [.val (.list (l.map kd.f)), .own (.lst (s.1.map kd.f)), .own (.lst (s.2.map dN)), .any]) (fun i s => s.1.length ≤ i ∧ s.2.length = i) (is_list (nm 0)) (by (first | exact GmW.refl _ | (repeat' (first | exact True.intro | refine ⟨?_, ?_⟩ | exact SlW.refl _ | exact SlW.any _ | exact SlW.frz _)))) ⟨Nat.le_refl _, rfl⟩ (fun i x s hx hI => ?_) fun hI => ?_
    · have hi : i < l.length := (List.getElem?_eq_some_iff.mp hx).1
      refine ⟨⟨?_, by simp [numStep, hI.2]⟩, _, _, gn 3, ?_⟩
      · simp only [numStep]; split <;> (try simp) <;> omega
      · refine bs_if [.val (.list (l.map kd.f)), .own (.lst ((numStep s x).1.map kd.f)), .own (.lst (s.2.map dN)), .val (kd.f x)] (tp_ninD (nw 3) (ow 1) (kd.ok _) (kd.oks _)) (fun h => ?_) (fun h => ?_) ?_
        · rw [kd.any, Bool.not_eq_true', decide_eq_false_iff_not] at h
          refine bs_app 1 (nm 3) (bx_nil ?_)
          simp only [numStep, h, if_false, List.map_append]; exact .refl _
        · rw [kd.any, Bool.not_eq_false', decide_eq_true_eq] at h
          refine bx_nil ?_
          simp only [numStep, h, if_true]; exact .refl _
        · have hmem : x ∈ (numStep s x).1 := by
            unfold numStep; simp only
            split
            · assumption
            · simp
          refine bs_app 2 (ep_idx kd (ow 1) (nw 3) hmem) (bx_nil ?_)
          have : (numStep s x).2 = s.2 ++ [(numStep s x).1.idxOf x] := rfl
          rw [this, List.map_append]
          (first | exact GmW.refl _ | (repeat' (first | exact True.intro | refine ⟨?_, ?_⟩ | exact SlW.refl _ | exact SlW.any _ | exact SlW.frz _)))
    · exact bs_ret (ep_tupleOf rfl T.b_tuple (ow 2)) rfl
theorem ifmax (a b : Nat) : (if ((b : Int) + 1) > (a : Int) then ((b : Int) + 1) else (a : Int)) = ((max a (b + 1) : Nat) : Int) := by split <;> omega
/-! ### is_telling, of tellings -/
def freshOf (l : List Nat) : Nat := l.foldl (fun f x => max f (x + 1)) 0
def Tell (l : List Nat) : Prop := l ≠ [] ∧ l.length ≤ 100 ∧ ∀ i, i < l.length → l.getD i 0 ≤ freshOf (l.take i)
def R_is_telling (ds : List D) (d : D) : Prop := (∃ l, Tell l ∧ ds = [dT l] ∧ d = .bool true) ∨ ∃ xs, ds = [.list xs] ∧ d = .bool false
theorem map_bool {α : Type} (l : List α) (f : α → Bool) : l.map (fun x => D.bool (f x)) = (l.map f).map D.bool := by rw [List.map_map]; rfl
theorem p_is_telling (T : Tx K mg) : Pm P w K mg base 2 "is_telling" ["thing"] (spD R_is_telling) := by
  refine T.d_is_telling.pmD sc_is_telling (fun ds d h => ?_) fun ds d h => ?_
  · rcases h with ⟨l, _, rfl, _⟩ | ⟨l, rfl, _⟩ <;> rfl
  · rcases h with ⟨l, ⟨hne, hlen, ht⟩, rfl, rfl⟩ | ⟨l, rfl, rfl⟩
    · refine bs_ifr (WP.toT (wp_or2 (tp_not (tp_val (ep_isTuple rfl T.b_isinstance rfl T.b_tuple (nw 0)))) (fun _ => wp_or2 (tp_eqI (EP.w (ep_len rfl T.b_len (nw 0) rfl)) (EP.w ep_int)) (fun _ => wp_or1 (tp_not (tp_val (ep_all (bs := l.map fun _ => true) rfl T.b_all (EW.is (EP.w (EO.ep (eo_map [("own", 1)] l dN (fun _ => .bool true) (iw_seq (nm 0) rfl) (fun x hx => ⟨_, gn 1, ?_⟩) (by omega)))) ?_)))))))) (fun h => ?_) (fun h => ?_)
      · exact ep_call (((p_is_number T).fd (Nat.le_refl _)).blk _) rfl (ap_cons (nm 1) ap_nil) ⟨dN x, rfl, rfl⟩
      · rw [map_bool]
      · exfalso
        have hl : l.length ≠ 0 := fun q => hne (List.eq_nil_of_length_eq_zero q)
        simp [D.isT] at h
        exact hne h
      · refine bs_set 2 (EP.sp ep_int) ?_
        refine bs_fold l dN 0 (fun f x => max f (x + 1)) (fun s => [.val (dT l), .any, .val (dN s)]) (fun i s => s = freshOf (l.take i)) (is_tup (nm 0)) (by (first | exact GmW.refl _ | (repeat' (first | exact True.intro | refine ⟨?_, ?_⟩ | exact SlW.refl _ | exact SlW.any _ | exact SlW.frz _)))) rfl (fun i x s hx hI => ?_) fun hI => ?_
        · obtain ⟨hi, rfl⟩ := List.getElem?_eq_some_iff.mp hx
          have hle := ht i hi
          rw [List.getD_eq_getElem?_getD, hx, Option.getD_some] at hle
          refine ⟨by rw [hI]; unfold freshOf; rw [fold_take _ _ l hi], _, _, gn 1, ?_⟩
          refine bs_ifr (tp_not (tp_chain (k := true) (k' := true) (fun _ _ => op_le) (fun _ _ => op_le) ep_int.w (nw 1) ?_ (fun _ => ⟨nw 2, ?_⟩) (fun q => by cases q))) (fun h => by cases h) (fun _ => ?_)
          · have := @rvd_b0 (fun i j => decide (i ≤ j)) 0 ((l[i] : Nat) : Int)
            simpa using this
          · have := @rvd_b0 (fun i j => decide (i ≤ j)) ((l[i] : Nat) : Int) ((s : Nat) : Int)
            have e : decide (((l[i] : Nat) : Int) ≤ (s : Nat)) = true := decide_eq_true (by rw [hI]; omega)
            rw [e] at this; exact this
          · refine bs_set 2 (EP.sp (ep_max2 rfl T.b_max (nw 2) (EP.w (ep_add (nw 1) (EP.w ep_int))))) (bx_nil ?_)
            refine ⟨.refl _, .any _, ?_, trivial⟩
            rw [ifmax]
            exact .refl _
        · exact bs_ret ep_bool rfl
    · refine bs_ifr (WP.toT (wp_or (k' := true) (tp_not (tp_val (ep_isTuple rfl T.b_isinstance rfl T.b_tuple (nw 0)))) (fun h => by cases h) (fun _ => rfl))) (fun h => bs_ret ep_bool rfl) (fun h => by cases h)
end
end GL
end
/-! ## D3 -/
section
namespace GL
open PySem PySem.Spec PyProof.Rows L2
section
variable {P : Program} {w : World} {K : PySem.W.Frag} {mg : Str → Option Value} {base : Heap}
/-! ### told -/
def toldF (l w : List Nat) : List Nat := w.map fun x => l.getD (x - 1) 0
def okW (l w : List Nat) : Prop := l.length ≤ 100 ∧ w.length ≤ 1000 ∧ ∀ x ∈ w, 1 ≤ x ∧ x ≤ l.length
def R_told (ds : List D) (d : D) : Prop := ∃ b1 b2 l w, okW l w ∧ ds = [dS b1 l, dS b2 w] ∧ d = dT (toldF l w)
theorem sub1 {x : Nat} (h : 1 ≤ x) : ((x : Int) - 1) = ((x - 1 : Nat) : Int) := by omega
theorem p_told (T : Tx K mg) : Pm P w K mg base 1 "told" ["telling", "word"] (spD R_told) := by
  refine T.d_told.pmD sc_told (fun ds d h => ?_) fun ds d h => ?_
  · obtain ⟨_, _, _, _, _, rfl, _⟩ := h; rfl
  · obtain ⟨b1, b2, l, w, ⟨hl, hw, hx⟩, rfl, rfl⟩ := h
    refine bs_fold w dN () (fun _ _ => ()) (fun _ => [.val (dS b1 l), .val (dS b2 w), .any]) (fun _ _ => True) (is_seq (nm 1) dS_items) (by (first | exact GmW.refl _ | (repeat' (first | exact True.intro | refine ⟨?_, ?_⟩ | exact SlW.refl _ | exact SlW.any _ | exact SlW.frz _)))) trivial (fun i x s h _ => ⟨trivial, _, _, gn 2, ?_⟩) fun _ => ?_
    · have hm := hx x (List.mem_of_getElem? h)
      refine bs_ifr (tp_not (tp_chain (k := true) (k' := true) (fun _ _ => op_le) (fun _ _ => op_le) (EP.w ep_int) (nw 2) ?_ (fun _ => ⟨EP.w (ep_len rfl T.b_len (nw 0) dS_items), ?_⟩) (fun q => by cases q))) (fun h => by cases h) (fun _ => bx_nil (by (first | exact GmW.refl _ | (repeat' (first | exact True.intro | refine ⟨?_, ?_⟩ | exact SlW.refl _ | exact SlW.any _ | exact SlW.frz _)))))
      · have z := @rvd_b0 (fun i j => decide (i ≤ j)) 1 ((x : Nat) : Int)
        rw [show decide ((1 : Int) ≤ (x : Nat)) = true from decide_eq_true (by omega)] at z; exact z
      · have z := @rvd_b0 (fun i j => decide (i ≤ j)) ((x : Nat) : Int) (((l.map dN).length : Nat) : Int)
        rw [show decide (((x : Nat) : Int) ≤ (((l.map dN).length : Nat) : Int)) = true from decide_eq_true (by rw [List.length_map]; omega)] at z; exact z
    · refine bs_ret (ep_tupleOf rfl T.b_tuple (EP.w (EO.ep (eo_map [("letter", 2)] w dN (fun x => dN (l.getD (x - 1) 0)) (iw_seq (nm 1) dS_items) (fun x h => ⟨_, gn 2, ?_⟩) (by omega))))) ?_
      · exact ep_ixS (nw 0) dS_items (EP.w (ep_sub (nw 2) (EP.w ep_int))) (sub1 (hx x h).1) (get_dN (by have := hx x h; omega))
      · simp [toldF]
/-! ### letters_with -/
def lettersF (l : List Nat) (t : Nat) : List Nat := ((List.range l.length).map (1 + ·)).filter fun k => decide (l.getD (k - 1) 0 = t)
def R_letters_with (ds : List D) (d : D) : Prop := ∃ b l t, l.length ≤ 100 ∧ t ∈ l ∧ ds = [dS b l, dN t] ∧ d = dL (lettersF l t)
theorem letters_ne {l : List Nat} {t : Nat} (h : t ∈ l) : lettersF l t ≠ [] := by
  obtain ⟨i, hi, rfl⟩ := List.mem_iff_getElem.mp h
  intro e
  have : i + 1 ∈ lettersF l l[i] := by
    unfold lettersF
    rw [List.mem_filter, List.mem_map]
    refine ⟨⟨i, List.mem_range.mpr hi, by omega⟩, ?_⟩
    rw [show i + 1 - 1 = i from by omega, List.getD_eq_getElem?_getD, List.getElem?_eq_getElem hi]; simp
  rw [e] at this; cases this
theorem letters_mem {l : List Nat} {t k : Nat} (h : k ∈ lettersF l t) : 1 ≤ k ∧ k ≤ l.length ∧ l.getD (k - 1) 0 = t := by
  unfold lettersF at h
  rw [List.mem_filter, List.mem_map] at h
  obtain ⟨⟨i, hi, rfl⟩, h2⟩ := h
  rw [List.mem_range] at hi
  exact ⟨by omega, by omega, of_decide_eq_true h2⟩
theorem letters_len {l : List Nat} {t : Nat} : (lettersF l t).length ≤ l.length := by
  unfold lettersF
  refine Nat.le_trans (List.length_filter_le _ _) (by simp)
theorem p_letters_with (T : Tx K mg) : Pm P w K mg base 1 "letters_with" ["telling", "token"] (spD R_letters_with) := by
  refine T.d_letters_with.pmD sc_letters_with (fun ds d h => ?_) fun ds d h => ?_
  · obtain ⟨_, _, _, _, _, rfl, _⟩ := h; rfl
  · obtain ⟨b, l, t, hl, ht, rfl, rfl⟩ := h
    refine bs_lc 2 [("letter", 3)] (lc_fil [("letter", 3)] ((List.range l.length).map (1 + ·)) dN (fun k => decide (l.getD (k - 1) 0 = t)) dN ?_ (fun x h => ⟨_, gn 3, ?_, fun _ => nm 3⟩) (by simp; omega)) ?_
    · refine IW.is (IS.w (is_rng2 (m := 1) (n := l.length + 1) rfl T.b_range ep_int (EP.is (ep_add (EP.w (ep_len rfl T.b_len (nw 0) dS_items)) (EP.w ep_int)) (by simp)) (by omega))) ?_
      rw [List.map_map]; rfl
    · rw [List.mem_map] at h
      obtain ⟨i, hi, rfl⟩ := h
      rw [List.mem_range] at hi
      refine TP.is (tp_eqI (EP.w (ep_ixS (nw 0) dS_items (EP.w (ep_sub (nw 3) (EP.w ep_int))) (sub1 (by omega)) (get_dN (by omega)))) (nw 1)) ?_
      rw [decide_eq_decide]; omega
    · refine bx_weak (Γ' := [.val (dS b l), .val (dN t), .val (dL (lettersF l t)), .any]) (by (first | exact GmW.refl _ | (repeat' (first | exact True.intro | refine ⟨?_, ?_⟩ | exact SlW.refl _ | exact SlW.any _ | exact SlW.frz _)))) ?_
      refine bs_ifr (tp_eq (nw 2) (EP.w (EO.ep (eo_lst ap_nil (by decide)))) (kdN.oks _) ok_nil) (fun h => ?_) (fun _ => bs_ret (nm 2) rfl)
      rw [eq_nil] at h
      have := letters_ne ht
      cases q : lettersF l t with
      | nil => exact (this q).elim
      | cons _ _ => rw [q] at h; cases h
/-! ### spread -/
def spreadF (l ts : List Nat) : List (List Nat) := ts.foldl (fun found t => found.flatMap fun w => (lettersF l t).map fun x => w ++ [x]) [[]]
def okS (l ts : List Nat) : Prop := l.length ≤ 4 ∧ ts.length ≤ 6 ∧ ∀ t ∈ ts, t ∈ l
def R_spread (ds : List D) (d : D) : Prop := ∃ b1 b2 l ts, okS l ts ∧ ds = [dS b1 l, dS b2 ts] ∧ d = .list ((spreadF l ts).map dT)
theorem flat_le {α β : Type} (l : List α) (f : α → List β) (m : Nat) (h : ∀ x ∈ l, (f x).length ≤ m) : (l.flatMap f).length ≤ l.length * m := by
  induction l with
  | nil => simp
  | cons x l ih =>
    have h1 := h x List.mem_cons_self
    have h2 := ih fun y hy => h y (List.mem_cons_of_mem _ hy)
    rw [List.flatMap_cons, List.length_append, List.length_cons, Nat.succ_mul]; omega
theorem p_spread (T : Tx K mg) : Pm P w K mg base 2 "spread" ["telling", "tokens"] (spD R_spread) := by
  refine T.d_spread.pmD sc_spread (fun ds d h => ?_) fun ds d h => ?_
  · obtain ⟨_, _, _, _, _, rfl, _⟩ := h; rfl
  · obtain ⟨b1, b2, l, ts, ⟨hl, hts, hm⟩, rfl, rfl⟩ := h
    refine bs_set 2 (EO.sp (eo_lst (ap_cons (ep_tup ap_nil (by decide)) ap_nil) (by decide))) ?_
    refine bs_fold ts (fun t => dL (lettersF l t)) [[]] (fun found t => found.flatMap fun w => (lettersF l t).map fun x => w ++ [x]) (fun s => [.val (dS b1 l), .val (dS b2 ts), .val (.list (s.map dT)), .any, .any, .any, .any]) (fun i s => s.length ≤ 4 ^ i ∧ i ≤ ts.length ∧ ∀ w ∈ s, w.length = i) (is_list (EO.ep (eo_map [("token", 4)] ts dN (fun t => dL (lettersF l t)) (iw_seq (nm 1) dS_items) (fun t ht => ⟨_, gn 4, ?_⟩) (by omega)))) (by (first | exact GmW.refl _ | (repeat' (first | exact True.intro | refine ⟨?_, ?_⟩ | exact SlW.refl _ | exact SlW.any _ | exact SlW.frz _)))) ⟨by simp, by omega, by simp⟩ (fun i t s hx hI => ?_) fun hI => bs_ret (nm 2) rfl
    · exact ep_call (((p_letters_with T).fd (Nat.le_refl _)).blk _) rfl (ap_cons (nm 0) (ap_cons (nm 4) ap_nil)) ⟨b1, l, t, by omega, hm t ht, rfl, rfl⟩
    · have hi : i < ts.length := (List.getElem?_eq_some_iff.mp hx).1
      have hlen : (s.flatMap fun w => (lettersF l t).map fun x => w ++ [x]).length ≤ 4 ^ (i + 1) := by
        refine Nat.le_trans (flat_le s _ 4 fun x _ => by rw [List.length_map]; exact Nat.le_trans letters_len hl) ?_
        rw [Nat.pow_succ]; exact Nat.mul_le_mul_right _ hI.1
      have h46 : 4 ^ (i + 1) ≤ 4096 := Nat.le_trans (Nat.pow_le_pow_right (by decide) (show i + 1 ≤ 6 by omega)) (by decide)
      refine ⟨⟨hlen, by omega, fun w hw => ?_⟩, _, _, gn 3, ?_⟩
      · obtain ⟨w', h1, h2⟩ := List.mem_flatMap.mp hw
        obtain ⟨x, _, rfl⟩ := List.mem_map.mp h2
        rw [List.length_append, hI.2.2 w' h1]; rfl
      refine bs_lc2 2 [("word", 5), ("letter", 6)] [6] (lc2_read (ts := [5]) (ts1 := [6]) s dT (fun _ => lettersF l t) (fun _ x => dN x) (fun w x => dT (w ++ [x])) (iw_list (nw 2)) (by decide) (by decide) ?_ (fun w hw => ⟨_, gn 5, ?_, is_list (nm 3), fun x hx => ⟨_, gn 6, ?_⟩⟩)) (bx_nil ?_)
      · refine Nat.le_trans (flat_le s _ 4 fun x _ => Nat.le_trans letters_len hl) ?_
        have : s.length * 4 ≤ 4 ^ i * 4 := Nat.mul_le_mul_right _ hI.1
        rw [Nat.pow_succ] at h46; omega
      · intro i o; rcases i with _ | _ | _ | _ | _ | _ | _ | i <;> simp [wipeG]
      · refine EP.is (ep_tup (ap_star (nw 5) rfl (ap_cons (nm 6) ap_nil)) ?_) ?_
        · rw [sizeLine_eq]; have := hI.2.2 w hw; simp; omega
        · simp
      · show GmW [_, _, _, _, _, _, _] _
        refine ⟨.refl _, .refl _, ?_, .any _, .any _, .any _, .any _, trivial⟩
        have : (s.flatMap fun w => (lettersF l t).map fun x => dT (w ++ [x])) = (s.flatMap fun w => (lettersF l t).map fun x => w ++ [x]).map dT := by
          rw [List.map_flatMap]; simp [List.map_map, Function.comp_def]
        rw [← this]; exact .frz _
end
end GL
end
/-! ## D4 -/
section
namespace GL
open PySem PySem.Spec PyProof.Rows L2
theorem dS_T (l : List Nat) : dT l = dS false l := rfl
theorem wd_dS (b : Bool) (l : List Nat) (h : l.length ≤ 1000) : (dS b l).wd 1 := by
  refine .inr ⟨_, dS_items, by rw [List.length_map]; exact h, fun x hx => ?_⟩
  obtain ⟨y, _, rfl⟩ := List.mem_map.mp hx; rfl
theorem toTup_dS (b : Bool) (l : List Nat) : (dS b l).toTup = dT l := by
  rw [toTup_items dS_items, List.map_map]; rfl
section
variable {P : Program} {w : World} {K : PySem.W.Frag} {mg : Str → Option Value} {base : Heap}
/-! ### stand_in -/
def standF (l w : List Nat) : List Nat := (toldF l w).map fun t => (lettersF l t).getD 0 0
def R_stand_in (ds : List D) (d : D) : Prop := ∃ b1 b2 l w, okW l w ∧ ds = [dS b1 l, dS b2 w] ∧ d = dT (standF l w)
theorem told_mem {l w : List Nat} (h : okW l w) {t : Nat} (ht : t ∈ toldF l w) : t ∈ l := by
  obtain ⟨x, hx, rfl⟩ := List.mem_map.mp ht
  have := h.2.2 x hx
  rw [List.getD_eq_getElem?_getD, List.getElem?_eq_getElem (by omega)]
  exact List.getElem_mem _
theorem p_stand_in (T : Tx K mg) : Pm P w K mg base 2 "stand_in" ["telling", "word"] (spD R_stand_in) := by
  refine T.d_stand_in.pmD sc_stand_in (fun ds d h => ?_) fun ds d h => ?_
  · obtain ⟨_, _, _, _, _, rfl, _⟩ := h; rfl
  · obtain ⟨b1, b2, l, w, hw, rfl, rfl⟩ := h
    refine bs_ret (ep_tupleOf rfl T.b_tuple (EP.w (EO.ep (eo_map [("token", 2)] (toldF l w) dN (fun t => dN ((lettersF l t).getD 0 0)) (iw_seq (d := dT (toldF l w)) (ep_call ((p_told T).fd (Nat.le_refl _)) rfl (ap_cons (nm 0) (ap_cons (nm 1) ap_nil)) ⟨b1, b2, l, w, hw, rfl, rfl⟩) rfl) (fun t ht => ⟨_, gn 2, ?_⟩) ?_)))) ?_
    · have hm := told_mem hw ht
      refine ep_ixL (EP.w (ep_call (((p_letters_with T).fd (Nat.le_refl _)).blk _) rfl (ap_cons (nm 0) (ap_cons (nm 2) ap_nil)) ⟨b1, l, t, hw.1, hm, rfl, rfl⟩)) (EP.w ep_int) (j := 0) rfl (get_dN ?_)
      have := letters_ne hm
      exact List.length_pos_iff.mpr this
    · have := hw.2.1; simp [toldF]; omega
    · simp [standF]
/-! ### two -/
def R_two (ds : List D) (d : D) : Prop := ∃ b1 b2 l1 l2, Tell l1 ∧ Tell l2 ∧ l1.length = l2.length ∧ ds = [dS b1 l1, dS b2 l2] ∧ d = .tup true [dT l1, dT l2]
theorem p_two (T : Tx K mg) : Pm P w K mg base 3 "two" ["one", "other"] (spD R_two) := by
  refine T.d_two.pmD sc_two (fun ds d h => ?_) fun ds d h => ?_
  · obtain ⟨_, _, _, _, _, _, _, rfl, _⟩ := h; rfl
  · obtain ⟨b1, b2, l1, l2, h1, h2, hl, rfl, rfl⟩ := h
    refine bs_par 2 3 (s1 := .val (dT l1)) (s2 := .val (dT l2)) (EP.sp (ep_call ((p_tuple_of T 1).fd (Nat.le_refl _)) rfl (ap_cons (nm 0) ap_nil) ⟨_, rfl, wd_dS _ _ (by have := h1.2.1; omega), (toTup_dS _ _).symm⟩)) (EP.sp (ep_call ((p_tuple_of T 1).fd (Nat.le_refl _)) rfl (ap_cons (nm 1) ap_nil) ⟨_, rfl, wd_dS _ _ (by have := h2.2.1; omega), (toTup_dS _ _).symm⟩)) ?_
    refine bs_ifr (WP.toT (wp_or2 (k := !true) (tp_not (tp_val (ep_call ((p_is_telling T).fd (Nat.le_refl _)) rfl (ap_cons (nm 2) ap_nil) (.inl ⟨l1, h1, rfl, rfl⟩)))) (fun _ => wp_or2 (k := !true) (tp_not (tp_val (ep_call ((p_is_telling T).fd (Nat.le_refl _)) rfl (ap_cons (nm 3) ap_nil) (.inl ⟨l2, h2, rfl, rfl⟩)))) (fun _ => wp_or1 (tp_neI (EP.w (ep_len rfl T.b_len (nw 2) rfl)) (EP.w (ep_len rfl T.b_len (nw 3) rfl))))))) (fun h => ?_) (fun h => ?_)
    · exfalso; simp [hl] at h
    · exact bs_ret (ep_tup (ap_cons (nm 2) (ap_cons (nm 3) ap_nil)) (by show 2 ≤ sizeLine; decide)) rfl
/-! ### is_finer -/
def finB (l1 l2 : List Nat) (i : Nat) : Bool := decide (l2.getD i 0 = l2.getD (l1.idxOf (l1.getD i 0)) 0)
def finF (l1 l2 : List Nat) : Bool := (List.range l1.length).all (finB l1 l2)
def R_is_finer (ds : List D) (d : D) : Prop := ∃ b1 b2 l1 l2, Tell l1 ∧ Tell l2 ∧ l1.length = l2.length ∧ ds = [dS b1 l1, dS b2 l2] ∧ d = .bool (finF l1 l2)
theorem p_is_finer (T : Tx K mg) : Pm P w K mg base 4 "is_finer" ["one", "other"] (spD R_is_finer) := by
  refine T.d_is_finer.pmD sc_is_finer (fun ds d h => ?_) fun ds d h => ?_
  · obtain ⟨_, _, _, _, _, _, _, rfl, _⟩ := h; rfl
  · obtain ⟨b1, b2, l1, l2, h1, h2, hl, rfl, rfl⟩ := h
    refine bs_pair 2 3 (ep_call ((p_two T).fd (Nat.le_refl _)) rfl (ap_cons (nm 0) (ap_cons (nm 1) ap_nil)) ⟨b1, b2, l1, l2, h1, h2, hl, rfl, rfl⟩) ?_
    refine bx_cons (sx_for (is_enumT (kb := true) (ds := l1.map dN) rfl T.b_enumerate (nm 2)) (fun i Γ' => GmW Γ' [.any, .any, .val (dT l1), .val (dT l2), .any, .any] ∧ ∀ j < i, finB l1 l2 j = true) ⟨by (first | exact GmW.refl _ | (repeat' (first | exact True.intro | refine ⟨?_, ?_⟩ | exact SlW.refl _ | exact SlW.any _ | exact SlW.frz _))), fun j hj => by omega⟩ (fun i d Γ' hd hW => ?_) fun Γ' hW => ?_)
    · obtain ⟨d', hd', rfl⟩ := enumD_get hd
      rw [List.getElem?_map] at hd'
      obtain ⟨x, hx, rfl⟩ := Option.map_eq_some_iff.mp hd'
      obtain ⟨hi, hx'⟩ := List.getElem?_eq_some_iff.mp hx
      have hxd : l1.getD i 0 = x := by rw [List.getD_eq_getElem?_getD, hx]; rfl
      have hxm : x ∈ l1 := List.mem_of_getElem? hx
      refine ⟨_, _, _, hW.1, gn2 4 5, ?_⟩
      refine bs_ifr (tp_neI (EP.w (ep_ixT (nw 3) (nw 4) rfl (get_dN (by omega)))) (EP.w (ep_ixT (nw 3) (EP.w (ep_tidx (nw 2) (nw 5) hxm)) rfl (get_dN (by have := List.idxOf_lt_length_iff.mpr hxm; omega))))) (fun h => ?_) (fun h => ?_)
      · have hf : finB l1 l2 i = false := by
          unfold finB; rw [hxd]
          rw [Bool.not_eq_true', decide_eq_false_iff_not] at h
          exact decide_eq_false (by omega)
        refine bs_ret ep_bool ?_
        show _ = _
        congr 1
        symm
        unfold finF
        rw [List.all_eq_false]
        exact ⟨i, List.mem_range.mpr hi, by rw [hf]; decide⟩
      · refine bx_nil ⟨by (first | exact GmW.refl _ | (repeat' (first | exact True.intro | refine ⟨?_, ?_⟩ | exact SlW.refl _ | exact SlW.any _ | exact SlW.frz _))), fun j hj => ?_⟩
        rcases Nat.lt_succ_iff_lt_or_eq.mp hj with hj | rfl
        · exact hW.2 j hj
        · unfold finB; rw [hxd]
          rw [Bool.not_eq_false', decide_eq_true_eq] at h
          exact decide_eq_true (by omega)
    · refine bx_weak hW.1 (bs_ret ep_bool ?_)
      show _ = _
      congr 1
      symm
      unfold finF
      rw [List.all_eq_true]
      intro j hj
      exact hW.2 j (by rw [enumD_len, List.length_map]; exact List.mem_range.mp hj)
/-! ### met -/
def metF (l1 l2 : List Nat) : List Nat := numOf ((List.range l1.length).map fun i => [l1.getD i 0, l2.getD i 0])
def R_met (ds : List D) (d : D) : Prop := ∃ b1 b2 l1 l2, Tell l1 ∧ Tell l2 ∧ l1.length = l2.length ∧ ds = [dS b1 l1, dS b2 l2] ∧ d = dT (metF l1 l2)
theorem p_met (T : Tx K mg) : Pm P w K mg base 4 "met" ["one", "other"] (spD R_met) := by
  refine T.d_met.pmD sc_met (fun ds d h => ?_) fun ds d h => ?_
  · obtain ⟨_, _, _, _, _, _, _, rfl, _⟩ := h; rfl
  · obtain ⟨b1, b2, l1, l2, h1, h2, hl, rfl, rfl⟩ := h
    have hh := h1.2.1
    refine bs_pair 2 3 (ep_call ((p_two T).fd (Nat.le_refl _)) rfl (ap_cons (nm 0) (ap_cons (nm 1) ap_nil)) ⟨b1, b2, l1, l2, h1, h2, hl, rfl, rfl⟩) ?_
    refine bs_ret (ep_call ((p_numbered T).fd (by decide)) rfl (ap_cons (EO.ep (eo_map [("place", 4)] (List.range l1.length) dN (fun i => dT [l1.getD i 0, l2.getD i 0]) (IS.w (is_rng rfl T.b_range (EP.is (ep_len rfl T.b_len (nw 2) rfl) (by simp)) (by omega))) (fun i hi => ⟨_, gn 4, ?_⟩) (by simp; omega))) ap_nil) ⟨_, _, kdT true, (List.range l1.length).map fun i => [l1.getD i 0, l2.getD i 0], by simp; omega, ?_, rfl⟩) rfl
    · have := List.mem_range.mp hi
      exact ep_tup (ap_cons (ep_ixT (nw 2) (nw 4) rfl (get_dN this)) (ap_cons (ep_ixT (nw 3) (nw 4) rfl (get_dN (by omega))) ap_nil)) (by show 2 ≤ sizeLine; decide)
    · rw [List.map_map]; rfl
end
end GL
end
/-! ## D5 -/
section
namespace GL
open PySem PySem.Spec PyProof.Rows L2
section
variable {P : Program} {w : World} {K : PySem.W.Frag} {mg : Str → Option Value} {base : Heap}
/-! ### tellings -/
def tellStep (s : List (List Nat)) : List (List Nat) := s.flatMap fun o => (List.range (mxN o + 2)).map fun t => o ++ [t]
def tellI : Nat → List (List Nat)
  | 0 => [[0]]
  | n + 1 => tellStep (tellI n)
theorem tell_small : ∀ i < 4, (tellI i).length ≤ 15 ∧ ∀ o ∈ tellI i, o ≠ [] ∧ o.length ≤ 4 ∧ mxN o ≤ 4 := by decide +kernel
def R_tellings (ds : List D) (d : D) : Prop := ∃ n, n < 4 ∧ ds = [dN (n + 1)] ∧ d = .list ((tellI n).map dT)
theorem p_tellings (T : Tx K mg) : Pm P w K mg base 1 "tellings" ["many"] (spD R_tellings) := by
  refine T.d_tellings.pmD sc_tellings (fun ds d h => ?_) fun ds d h => ?_
  · obtain ⟨_, _, rfl, _⟩ := h; rfl
  · obtain ⟨n, hn, rfl, rfl⟩ := h
    refine bs_set 1 (EO.sp (eo_lst (ds := [dT [0]]) (ap_cons (ep_tup (ap_cons ep_int ap_nil) sz1) ap_nil) sz1)) ?_
    refine bs_fold (List.range n) dN [[0]] (fun s _ => tellStep s) (fun s => [.val (dN (n + 1)), .val (.list (s.map dT)), .any, .any, .any]) (fun i s => s = tellI i) (is_rng rfl T.b_range (ep_subN (x := n + 1) (y := 1) (nw 0) (EP.w ep_int) (by omega)) (by omega)) (by (first | exact GmW.refl _ | (repeat' (first | exact True.intro | refine ⟨?_, ?_⟩ | exact SlW.refl _ | exact SlW.any _ | exact SlW.frz _)))) rfl (fun i k s hx hI => ?_) fun hI => ?_
    · have hi : i < n := by have := (List.getElem?_eq_some_iff.mp hx).1; rwa [List.length_range] at this
      subst hI
      obtain ⟨h1, h2⟩ := tell_small i (by omega)
      have h3 := (tell_small (i + 1) (by omega)).1
      refine ⟨rfl, _, _, gn 2, ?_⟩
      refine bs_lc2 1 [("own", 3), ("token", 4)] [4] (lc2_read (ts := [3]) (ts1 := [4]) (tellI i) dT (fun o => List.range (mxN o + 2)) (fun _ x => dN x) (fun w x => dT (w ++ [x])) (iw_list (nw 1)) (by decide) (by decide) ?_ (fun o ho => ⟨_, gn 3, ?_, is_rng rfl T.b_range (ep_addN (y := 2) (EP.w (ep_maxN rfl T.b_max (nw 3) (h2 o ho).1)) (EP.w ep_int)) (by have := (h2 o ho).2.2; omega), fun x hx => ⟨_, gn 4, ?_⟩⟩)) (bx_nil ?_)
      · have : ((tellI i).flatMap fun o => List.range (mxN o + 2)).length = (tellI (i + 1)).length := by
          show _ = (tellStep _).length
          unfold tellStep
          rw [List.length_flatMap, List.length_flatMap]; congr 1; exact List.map_congr_left fun x _ => by simp
        omega
      · intro i o; rcases i with _ | _ | _ | _ | _ | i <;> simp [wipeG]
      · refine EP.is (ep_tup (ap_star (nw 3) rfl (ap_cons (nm 4) ap_nil)) ?_) ?_
        · refine szL ?_; have := (h2 o ho).2.1; simp; omega
        · simp
      · show GmW [_, _, _, _, _] _
        refine ⟨.refl _, ?_, .any _, .any _, .any _, trivial⟩
        have : ((tellI i).flatMap fun w => (List.range (mxN w + 2)).map fun x => dT (w ++ [x])) = (tellStep (tellI i)).map dT := by
          unfold tellStep
          rw [List.map_flatMap]; simp [List.map_map, Function.comp_def]
        rw [← this]; exact .frz _
    · rw [List.length_range] at hI
      refine bs_ret (nm 1) ?_
      show _ = _; rw [hI]
/-! ### joined -/
def lotF (s l2 : List Nat) (t : Int) : List Nat := ((List.range l2.length).filter fun p => decide (((l2.getD p 0 : Nat) : Int) = t)).map fun p => s.getD p 0
def joinStep (l2 : List Nat) (s : List Nat) (t : Int) : List Nat := s.map fun o => if o ∈ lotF s l2 t then mnN (lotF s l2 t) else o
def joinF (l1 l2 : List Nat) : List Nat := numOf ((sortSet (l2.map fun (n : Nat) => (n : Int))).foldl (joinStep l2) l1)
def R_joined (ds : List D) (d : D) : Prop := ∃ b1 b2 l1 l2, Tell l1 ∧ Tell l2 ∧ l1.length = l2.length ∧ l1.length ≤ 50 ∧ ds = [dS b1 l1, dS b2 l2] ∧ d = dT (joinF l1 l2)
theorem p_joined (T : Tx K mg) : Pm P w K mg base 4 "joined" ["one", "other"] (spD R_joined) := by
  refine T.d_joined.pmD sc_joined (fun ds d h => ?_) fun ds d h => ?_
  · obtain ⟨_, _, _, _, _, _, _, _, rfl, _⟩ := h; rfl
  · obtain ⟨b1, b2, l1, l2, h1, h2, hl, hz, rfl, rfl⟩ := h
    refine bs_pair 2 3 (ep_call ((p_two T).fd (Nat.le_refl _)) rfl (ap_cons (nm 0) (ap_cons (nm 1) ap_nil)) ⟨b1, b2, l1, l2, h1, h2, hl, rfl, rfl⟩) ?_
    refine bs_set 4 (EO.sp (eo_list rfl T.b_list (nw 2) rfl)) ?_
    refine bs_fold (sortSet (l2.map fun (n : Nat) => (n : Int))) D.int l1 (joinStep l2) (fun s => [.any, .any, .any, .val (dT l2), .val (dL s), .any, .any, .any, .any]) (fun i s => s.length = l1.length) (is_list (EO.ep (eo_sortSet rfl T.b_sorted rfl T.b_set (ew_nT (l := l2) (nw 3)) (by simp; omega)))) (by (first | exact GmW.refl _ | (repeat' (first | exact True.intro | refine ⟨?_, ?_⟩ | exact SlW.refl _ | exact SlW.any _ | exact SlW.frz _)))) rfl (fun i t s hx hI => ?_) fun hI => ?_
    · have ht := sortSet_mem.mp (List.mem_of_getElem? hx)
      obtain ⟨m, hm, rfl⟩ := List.mem_map.mp ht
      have hne : lotF s l2 m ≠ [] := by
        obtain ⟨j, hj, rfl⟩ := List.mem_iff_getElem.mp hm
        intro e
        have : s.getD j 0 ∈ lotF s l2 (l2[j] : Nat) := by
          unfold lotF
          rw [List.mem_map]
          refine ⟨j, List.mem_filter.mpr ⟨List.mem_range.mpr hj, ?_⟩, rfl⟩
          rw [List.getD_eq_getElem?_getD, List.getElem?_eq_getElem hj]; simp
        rw [e] at this; cases this
      refine ⟨by simp [joinStep, hI], _, _, gn 5, ?_⟩
      refine bs_lcC 6 [("place", 7)] (lc_fil [("place", 7)] (List.range l2.length) dN (fun p => decide (((l2.getD p 0 : Nat) : Int) = (m : Nat))) (fun p => dN (s.getD p 0)) (IS.w (is_rng rfl T.b_range (ep_lenN rfl T.b_len (nw 3) rfl (by simp)) (by omega))) (fun p hp => ⟨_, gn 7, ?_, fun _ => ?_⟩) (by simp; omega)) ?_
      · exact tp_eqI (EP.w (ep_ixT (nw 3) (nw 7) rfl (get_dN (List.mem_range.mp hp)))) (nw 5)
      · exact ep_ixL (nw 4) (nw 7) rfl (get_dN (by have := List.mem_range.mp hp; omega))
      · have e : ((List.range l2.length).filter fun p => decide (((l2.getD p 0 : Nat) : Int) = (m : Nat))).map (fun p => dN (s.getD p 0)) = (lotF s l2 m).map dN := by unfold lotF; rw [List.map_map]; rfl
        rw [e]
        refine bs_lcC 4 [("own", 8)] (lc_map [("own", 8)] s dN (fun o => dN (if o ∈ lotF s l2 m then mnN (lotF s l2 m) else o)) (iw_list (nw 4)) (fun o ho => ⟨_, gn 8, ?_⟩) (by omega)) (bx_nil ?_)
        · refine ep_if (tp_inN (l := lotF s l2 m) (nw 8) (ow 6)) (fun h => ?_) (fun h => ?_)
          · rw [if_pos (of_decide_eq_true h)]
            exact ep_minN rfl T.b_min (ow 6) hne
          · rw [if_neg (of_decide_eq_false h)]
            exact nm 8
        · show GmW [_, _, _, _, _, _, _, _, _] _
          refine ⟨.any _, .any _, .any _, .refl _, ?_, .any _, .any _, .any _, .any _, trivial⟩
          have : (joinStep l2 s m).map dN = s.map (fun o => dN (if o ∈ lotF s l2 m then mnN (lotF s l2 m) else o)) := by unfold joinStep; rw [List.map_map]; rfl
          unfold dL
          rw [this]; exact .frz _
    · exact bs_ret (ep_call ((p_numbered T).fd (by decide)) rfl (ap_cons (nm 4) ap_nil) ⟨_, _, kdN, _, by omega, rfl, rfl⟩) rfl
end
end GL
end
/-! ## D6 -/
section
namespace GL
open PySem PySem.Spec PyProof.Rows L2
/-! ### tables of steps -/
abbrev dTT (s : List (List Nat)) : D := .tup true (s.map dT)
structure Tb (s : List (List Nat)) (k : Nat) : Prop where
  pos : 1 ≤ s.length
  le : s.length ≤ 5
  kpos : 1 ≤ k
  kle : k ≤ 3
  row : ∀ r ∈ s, r.length = k
  cl : ∀ r ∈ s, ∀ x ∈ r, x < s.length
def rw' (s : List (List Nat)) (i : Nat) : List Nat := s.getD i []
def go (s : List (List Nat)) (i a : Nat) : Nat := (rw' s i).getD a 0
theorem rw_mem {s : List (List Nat)} {i : Nat} (h : i < s.length) : rw' s i ∈ s := by
  unfold rw'
  rw [List.getD_eq_getElem?_getD, List.getElem?_eq_getElem h]
  exact List.getElem_mem h
theorem get_dT {s : List (List Nat)} {i : Nat} (h : i < s.length) : (s.map dT)[i]? = some (dT (rw' s i)) := by
  unfold rw'
  rw [List.getElem?_map, List.getD_eq_getElem?_getD, List.getElem?_eq_getElem h]; rfl
theorem Tb.go {s : List (List Nat)} {k i a : Nat} (T : Tb s k) (hi : i < s.length) (ha : a < k) : go s i a < s.length := by
  have h := rw_mem hi
  have := T.row _ h
  unfold GL.go
  rw [List.getD_eq_getElem?_getD, List.getElem?_eq_getElem (by omega)]
  exact T.cl _ h _ (List.getElem_mem _)
theorem nodup_le : ∀ {n : Nat} {l : List Nat}, l.Nodup → (∀ x ∈ l, x < n) → l.length ≤ n
  | 0, l, _, h => by cases l with | nil => exact Nat.le_refl _ | cons x l => exact absurd (h x List.mem_cons_self) (by omega)
  | n + 1, l, hn, h => by
    have h1 : (l.erase n).length ≤ n := nodup_le (hn.erase n) fun x hx => by
      have h2 := (hn.mem_erase_iff).mp hx
      have := h x h2.2
      have := h2.1
      omega
    have := List.length_erase (a := n) (l := l)
    split at this <;> omega
/-! ### dicts from numbers -/
def keys {β : Type} (f : List (Nat × β)) : List Nat := f.map (·.1)
def kvD {β : Type} (g : β → D) (f : List (Nat × β)) : List (Int × D) := f.map fun z => ((z.1 : Int), g z.2)
def at' {β : Type} (f : List (Nat × β)) (x : Nat) (b : β) : β := ((f.find? fun z => decide (z.1 = x)).map (·.2)).getD b
theorem lookD_kv {β : Type} (g : β → D) (b : β) (x : Nat) : ∀ f : List (Nat × β), lookD (kvD g f) (x : Int) = if x ∈ keys f then some (g (at' f x b)) else none
  | [] => rfl
  | z :: f => by
    have ih := lookD_kv g b x f
    unfold lookD kvD keys at' at *
    rw [List.map_cons, List.map_cons, List.find?_cons, List.find?_cons]
    by_cases e : z.1 = x
    · have e' : ((z.1 : Int) = (x : Int)) := by omega
      simp [e]
    · have e' : ¬ ((z.1 : Int) = (x : Int)) := by omega
      have e2 : ¬ x = z.1 := fun h => e h.symm
      simp only [e, e', decide_false, List.mem_cons, e2, false_or]
      exact ih
theorem enumD_map {α : Type} (f : α → D) (l : List α) : enumD (l.map f) = l.zipIdx.map fun z => D.tup false [dN z.2, f z.1] := by
  unfold enumD
  rw [List.zipIdx_map, List.map_map]; rfl
section
variable {c : Cp} {Γ : Gm} {a b : Expr} {pos p2 : Pos} {α : Type} [DecidableEq α]
theorem tp_neE (k : Kd α) {l : List α} (ha : EW c a Γ (.list (l.map k.f))) (hm : behindInMarks .NotEq (.List [] p2) = false := by first | exact nomark _ | rfl) : TP c (.Compare a [.NotEq] [.List [] p2] pos) Γ (!l.isEmpty) := by
  refine TP.is (tp_ne ha (EP.w (EO.ep (eo_lst ap_nil (by decide)))) (k.oks l) ok_nil) ?_
  rw [eq_nil]; cases l <;> rfl
end
section
variable {P : Program} {w : World} {K : PySem.W.Frag} {mg : Str → Option Value} {base : Heap}
/-! ### come_to -/
abbrev CtS := List (Nat × List Nat) × List Nat
def ctGoal (x : Nat) (st : CtS) (ig : Nat × Nat) : CtS := if ig.1 ∈ keys st.1 then st else (st.1 ++ [(ig.1, at' st.1 x [] ++ [ig.2 + 1])], st.2 ++ [ig.1])
def ctRow (s : List (List Nat)) (st : CtS) (x : Nat) : CtS := (rw' s x).zipIdx.foldl (ctGoal x) st
def ctLoop (s : List (List Nat)) : Nat → CtS → Option (List (Nat × List Nat))
  | 0, _ => none
  | f + 1, st => if st.2.isEmpty then some st.1 else ctLoop s f (st.2.foldl (ctRow s) (st.1, []))
structure CtJ (n : Nat) (st : CtS) : Prop where
  nd : (keys st.1).Nodup
  lt : ∀ x ∈ keys st.1, x < n
  wl : ∀ z ∈ st.1, z.2.length ≤ st.1.length
  sub : ∀ x ∈ st.2, x ∈ keys st.1
  ll : st.2.length ≤ st.1.length
theorem CtJ.len {n : Nat} {st : CtS} (j : CtJ n st) : st.1.length ≤ n := by
  have := nodup_le j.nd j.lt
  unfold keys at this
  rwa [List.length_map] at this
theorem at_wl {n : Nat} {st : CtS} (j : CtJ n st) (x : Nat) : (at' st.1 x []).length ≤ st.1.length := by
  unfold at'
  cases e : st.1.find? fun z => decide (z.1 = x) with
  | none => simp
  | some z => exact j.wl z (List.mem_of_find?_eq_some e)
theorem CtJ.goal {n : Nat} {st : CtS} (j : CtJ n st) {x : Nat} {ig : Nat × Nat} (h : ig.1 < n) : CtJ n (ctGoal x st ig) := by
  unfold ctGoal
  split
  · exact j
  · rename_i hg
    have hw := at_wl j x
    refine ⟨?_, fun y hy => ?_, fun z hz => ?_, fun y hy => ?_, ?_⟩
    · unfold keys; rw [List.map_append]
      refine List.nodup_append.mpr ⟨j.nd, by simp, fun a ha b hb => ?_⟩
      simp at hb
      subst hb
      exact fun e => hg (e ▸ ha)
    · unfold keys at hy; rw [List.map_append, List.mem_append] at hy
      rcases hy with hy | hy
      · exact j.lt y hy
      · simp at hy; omega
    · rw [List.length_append]
      rcases List.mem_append.mp hz with hz | hz
      · have := j.wl z hz; omega
      · simp at hz; subst hz; simp; omega
    · unfold keys; rw [List.map_append, List.mem_append]
      rcases List.mem_append.mp hy with hy | hy
      · exact .inl (j.sub y hy)
      · exact .inr (by simpa using hy)
    · rw [List.length_append, List.length_append]; have := j.ll; simp; omega
theorem ctGoal_sub {x y : Nat} {st : CtS} {ig : Nat × Nat} (h : y ∈ keys st.1) : y ∈ keys (ctGoal x st ig).1 := by
  unfold ctGoal
  split
  · exact h
  · unfold keys; rw [List.map_append]; exact List.mem_append_left _ h
theorem ctFold {n x : Nat} : ∀ (l : List (Nat × Nat)) (st : CtS), CtJ n st → (∀ z ∈ l, z.1 < n) → CtJ n (l.foldl (ctGoal x) st) ∧ ∀ y ∈ keys st.1, y ∈ keys (l.foldl (ctGoal x) st).1
  | [], st, j, _ => ⟨j, fun y h => h⟩
  | z :: l, st, j, h => by
    obtain ⟨h1, h2⟩ := ctFold (x := x) l (ctGoal x st z) (j.goal (h z List.mem_cons_self)) fun y hy => h y (List.mem_cons_of_mem _ hy)
    exact ⟨h1, fun y hy => h2 y (ctGoal_sub hy)⟩
theorem zip_lt {s : List (List Nat)} {k x : Nat} (Ts : Tb s k) (hx : x < s.length) : ∀ z ∈ (rw' s x).zipIdx, z.1 < s.length := fun z hz => by
  have : z.1 ∈ rw' s x := by
    obtain ⟨h1, h2, h3⟩ := List.mem_zipIdx hz
    rw [h3]
    exact List.getElem_mem _
  exact Ts.cl _ (rw_mem hx) _ this
def R_come_to (ds : List D) (o : Ob) : Prop := ∃ s k f r, Tb s k ∧ ctLoop s f ([(0, [])], [0]) = some r ∧ ds = [dTT s] ∧ o = .dK (kvD dT r)
theorem p_come_to (T : Tx K mg) : Pm P w K mg base 1 "come_to" ["steps"] (spO R_come_to) := by
  refine T.d_come_to.pmO sc_come_to (fun ds d h => ?_) fun ds d h => ?_
  · obtain ⟨_, _, _, _, _, _, rfl, _⟩ := h; rfl
  · obtain ⟨s, k, f, r, Ts, hr, rfl, rfl⟩ := h
    refine bs_par 1 2 (EO.sp (eo_disp1 (d := dT []) ep_int (ep_tup ap_nil (by decide)))) (EO.sp (eo_lst (ds := [dN 0]) (ap_cons ep_int ap_nil) sz1)) ?_
    refine bs_while (fun m Γ' => ∃ st : CtS, ctLoop s m st = some r ∧ CtJ s.length st ∧ GmW Γ' [.val (dTT s), .own (.dK (kvD dT st.1)), .val (dL st.2), .any, .any, .any, .any]) (m := f) ⟨_, hr, ⟨by simp [keys], fun x hx => by simp [keys] at hx; subst hx; exact Ts.pos, by simp, by simp [keys], by simp⟩, by (first | exact GmW.refl _ | (repeat' (first | exact True.intro | refine ⟨?_, ?_⟩ | exact SlW.refl _ | exact SlW.any _ | exact SlW.frz _)))⟩ (fun m Γ0 hW => ?_)
    obtain ⟨⟨found, now⟩, h1, j, hg⟩ := hW
    refine ⟨_, _, hg, tp_neE kdN (nw 2), fun hk => ?_, fun hk => ?_⟩
    · cases m with
      | zero => cases h1
      | succ m =>
        have he : now.isEmpty = false := by simpa using hk
        rw [ctLoop] at h1
        simp only [he] at h1
        refine bs_set 3 (EO.sp (eo_lst (ds := []) ap_nil (by decide))) ?_
        refine bs_fold now dN ((found, []) : CtS) (ctRow s) (fun st => [.val (dTT s), .own (.dK (kvD dT st.1)), .val (dL now), .own (.lst (st.2.map dN)), .any, .any, .any]) (fun i st => CtJ s.length st ∧ ∀ x ∈ now, x ∈ keys st.1) (is_list (nm 2)) (by (first | exact GmW.refl _ | (repeat' (first | exact True.intro | refine ⟨?_, ?_⟩ | exact SlW.refl _ | exact SlW.any _ | exact SlW.frz _)))) ⟨⟨j.nd, j.lt, j.wl, by simp, by simp⟩, j.sub⟩ (fun i x st hx hI => ?_) fun hI => ?_
        · have hxm := List.mem_of_getElem? hx
          have hxn : x < s.length := hI.1.lt x (hI.2 x hxm)
          have hz := zip_lt Ts hxn
          have hF := ctFold (x := x) _ st hI.1 hz
          refine ⟨⟨hF.1, fun y hy => hF.2 y (hI.2 y hy)⟩, _, _, gn 4, ?_⟩
          refine bs_fold (rw' s x).zipIdx (fun z => D.tup false [dN z.2, dN z.1]) st (ctGoal x) (fun st => [.val (dTT s), .own (.dK (kvD dT st.1)), .val (dL now), .own (.lst (st.2.map dN)), .val (dN x), .any, .any]) (fun i st => CtJ s.length st ∧ x ∈ keys st.1) (IS.is (is_enumT (kb := true) rfl T.b_enumerate (ep_ixT (nw 0) (nw 4) rfl (get_dT hxn))) (enumD_map dN _)) (by (first | exact GmW.refl _ | (repeat' (first | exact True.intro | refine ⟨?_, ?_⟩ | exact SlW.refl _ | exact SlW.any _ | exact SlW.frz _)))) ⟨hI.1, hI.2 x hxm⟩ (fun i ig st hx hI => ?_) fun hI => bx_nil (by (first | exact GmW.refl _ | (repeat' (first | exact True.intro | refine ⟨?_, ?_⟩ | exact SlW.refl _ | exact SlW.any _ | exact SlW.frz _))))
          · have hig := hz ig (List.mem_of_getElem? hx)
            refine ⟨⟨hI.1.goal hig, ctGoal_sub hI.2⟩, _, _, gn2 5 6, ?_⟩
            have hl := hI.1.len
            have hle := Ts.le
            have hll := hI.1.ll
            refine bx_cons (sx_if (tp_din (s := 1) rfl (.inl rfl) rfl (nm 6)) (fun h => ?_) (fun h => ?_))
            · rw [lookD_kv dT [], ] at h
              have hn : ¬ ig.1 ∈ keys st.1 := fun q => by rw [if_pos q] at h; cases h
              refine bx_cons (sx_dput (s := 1) rfl (.inl rfl) rfl (d := dT (at' st.1 x [] ++ [ig.2 + 1])) (EP.is (ep_tup (ap_star (EP.w (ep_dget (s := 1) (d := dT (at' st.1 x [])) rfl (.inl rfl) rfl (nm 4) (by rw [lookD_kv dT [], if_pos hI.2]))) rfl (ap_cons (ep_addN (y := 1) (nw 5) (EP.w ep_int)) ap_nil)) ?_) (by simp)) (nm 6) (by rw [lookD_kv dT [], if_neg hn]) (by unfold kvD; rw [List.length_map]; omega) ?_)
              · have := at_wl hI.1 x
                refine szL ?_
                rw [List.length_append, List.length_map]; simp; omega
              · refine bs_app 3 (nm 6) (bx_nil (bx_nil ?_))
                simp only [ctGoal, hn, if_false, List.map_append, kvD]
                (first | exact GmW.refl _ | (repeat' (first | exact True.intro | refine ⟨?_, ?_⟩ | exact SlW.refl _ | exact SlW.any _ | exact SlW.frz _)))
            · rw [lookD_kv dT [], ] at h
              have hn : ig.1 ∈ keys st.1 := Decidable.byContradiction fun q => by rw [if_neg q] at h; cases h
              refine bx_nil (bx_nil ?_)
              simp only [ctGoal, hn, if_true]
              (first | exact GmW.refl _ | (repeat' (first | exact True.intro | refine ⟨?_, ?_⟩ | exact SlW.refl _ | exact SlW.any _ | exact SlW.frz _)))
        · refine bx_weak (Γ' := [.val (dTT s), .own (.dK (kvD dT (now.foldl (ctRow s) (found, [])).1)), .val (dL now), .val (dL (now.foldl (ctRow s) (found, [])).2), .any, .any, .any]) (by (first | exact GmW.refl _ | (repeat' (first | exact True.intro | refine ⟨?_, ?_⟩ | exact SlW.refl _ | exact SlW.any _ | exact SlW.frz _)))) ?_
          refine bs_set 2 (EP.sp (nm 3)) (bx_nil ⟨m, Nat.lt_succ_self m, _, h1, hI.1, by (first | exact GmW.refl _ | (repeat' (first | exact True.intro | refine ⟨?_, ?_⟩ | exact SlW.refl _ | exact SlW.any _ | exact SlW.frz _)))⟩)
    · cases m with
      | zero => cases h1
      | succ m =>
        have he : now.isEmpty = true := by simpa using hk
        rw [ctLoop] at h1
        simp only [he, if_true, Option.some.injEq] at h1
        refine bx_cons (sx_retOwn (s := 1) rfl (.inl rfl) rfl ?_)
        show _ = _; rw [h1]
end
end GL
end
/-! ## D7 -/
section
namespace GL
open PySem PySem.Spec PyProof.Rows L2
section
variable {P : Program} {w : World} {K : PySem.W.Frag} {mg : Str → Option Value} {base : Heap}
/-! ### kinds_of -/
abbrev KiF := List (Nat × Nat)
def cntN (l : List Nat) : Nat := (firstMet (fun i => (iN l).getD i 0) (iN l).length).length
def vals (f : KiF) : List Nat := f.map (·.2)
def kind0 (e sts : List Nat) : KiF := sts.map fun x => (x, if x ∈ e then 1 else 0)
def keyOf (s : List (List Nat)) (f : KiF) (x : Nat) : List Nat := at' f x 0 :: (rw' s x).map fun g => at' f g 0
def sortK (s : List (List Nat)) (f : KiF) (sts : List Nat) : List (List Nat) := sortC (sts.map (keyOf s f))
def nextK (s : List (List Nat)) (sts : List Nat) (f : KiF) : KiF := sts.map fun x => (x, (sortK s f sts).idxOf (keyOf s f x))
def kiLoop (s : List (List Nat)) (sts : List Nat) : Nat → Nat → KiF → Option KiF
  | 0, _, _ => none
  | n + 1, many, f => if many = cntN (vals f) then some f else kiLoop s sts n (cntN (vals f)) (nextK s sts f)
structure Cl (s : List (List Nat)) (sts : List Nat) : Prop where
  nd : sts.Nodup
  lt : ∀ x ∈ sts, x < s.length
  cl : ∀ x ∈ sts, ∀ g ∈ rw' s x, g ∈ sts
structure KiJ (sts : List Nat) (f : KiF) : Prop where
  ks : keys f = sts
  lt : ∀ z ∈ f, z.2 < 64
theorem at_lt {sts : List Nat} {f : KiF} (j : KiJ sts f) (x : Nat) : at' f x 0 < 64 := by
  unfold at'
  cases e : f.find? fun z => decide (z.1 = x) with
  | none => simp
  | some z => exact j.lt z (List.mem_of_find?_eq_some e)
theorem key_gk {s : List (List Nat)} {k : Nat} {sts : List Nat} {f : KiF} (Ts : Tb s k) (C : Cl s sts) (j : KiJ sts f) : ∀ y ∈ sts.map (keyOf s f), Gk (k + 1) y := fun y hy => by
  obtain ⟨x, hx, rfl⟩ := List.mem_map.mp hy
  refine ⟨?_, fun z hz => ?_⟩
  · unfold keyOf; rw [List.length_cons, List.length_map, Ts.row _ (rw_mem (C.lt x hx))]
  · unfold keyOf at hz
    rcases List.mem_cons.mp hz with rfl | hz
    · exact at_lt j _
    · obtain ⟨g, _, rfl⟩ := List.mem_map.mp hz
      exact at_lt j _
theorem sortC_len {l : List (List Nat)} : (sortC l).length ≤ l.length := by
  induction l with
  | nil => exact Nat.le_refl _
  | cons x l ih =>
    have : ∀ m : List (List Nat), (insC x m).length ≤ m.length + 1 := fun m => by
      induction m with
      | nil => simp [insC]
      | cons y m ih => unfold insC; split <;> (try split) <;> simp <;> omega
    show (insC x (sortC l)).length ≤ _
    have h := this (sortC l)
    rw [List.length_cons]; omega
theorem next_j {s : List (List Nat)} {sts : List Nat} {f : KiF} (hl : sts.length ≤ 5) : KiJ sts (nextK s sts f) := by
  refine ⟨?_, fun z hz => ?_⟩
  · unfold keys nextK; rw [List.map_map]; simp [Function.comp_def]
  · obtain ⟨x, hx, rfl⟩ := List.mem_map.mp hz
    have h1 : keyOf s f x ∈ sortK s f sts := sortC_mem.mpr (List.mem_map.mpr ⟨x, hx, rfl⟩)
    have h2 := List.idxOf_lt_length_iff.mpr h1
    have h3 : (sortK s f sts).length ≤ (sts.map (keyOf s f)).length := sortC_len
    rw [List.length_map] at h3
    show List.idxOf _ _ < 64
    omega
theorem kind0_j {e sts : List Nat} : KiJ sts (kind0 e sts) := by
  refine ⟨?_, fun z hz => ?_⟩
  · unfold keys kind0; rw [List.map_map]; simp [Function.comp_def]
  · obtain ⟨x, hx, rfl⟩ := List.mem_map.mp hz
    show (if _ then 1 else 0) < 64
    split <;> omega
def namD (K : List (List Nat)) : List (List Int × D) := K.zipIdx.map fun z => (iN z.1, dN z.2)
theorem look_nam {x : List Nat} : ∀ {K : List (List Nat)} {n : Nat}, x ∈ K → K.Nodup → lookD ((K.zipIdx n).map fun z => (iN z.1, dN z.2)) (iN x) = some (dN (n + K.idxOf x))
  | [], _, h, _ => by cases h
  | y :: K, n, h, hn => by
    obtain ⟨h1, h2⟩ := List.nodup_cons.mp hn
    unfold lookD
    rw [List.zipIdx_cons, List.map_cons, List.find?_cons, List.idxOf_cons]
    by_cases e : y = x
    · subst e; simp
    · have e1 : ¬ iN y = iN x := fun q => e (iN_inj q)
      have e2 : (y == x) = false := beq_eq_false_iff_ne.mpr e
      have h' : x ∈ K := by
        rcases List.mem_cons.mp h with q | q
        · exact (e q.symm).elim
        · exact q
      have ih := look_nam (n := n + 1) h' h2
      unfold lookD at ih
      simp only [e1, decide_false, e2, cond_false]
      rw [ih]
      rw [show n + 1 + List.idxOf x K = n + (List.idxOf x K + 1) from by omega]
      try rfl
def R_kinds_of (ds : List D) (o : Ob) : Prop := ∃ s k e sts f r, Tb s k ∧ Cl s sts ∧ kiLoop s sts f 0 (kind0 e sts) = some r ∧ ds = [dTT s, dT e, dL sts] ∧ o = .dK (kvD dN r)
theorem p_kinds_of (T : Tx K mg) : Pm P w K mg base 1 "kinds_of" ["steps", "ends", "states"] (spO R_kinds_of) := by
  refine T.d_kinds_of.pmO sc_kinds_of (fun ds d h => ?_) fun ds d h => ?_
  · obtain ⟨_, _, _, _, _, _, _, _, _, rfl, _⟩ := h; rfl
  · obtain ⟨s, k, e, sts, fu, r, Ts, C, hr, rfl, rfl⟩ := h
    have hlen : sts.length ≤ 5 := Nat.le_trans (nodup_le C.nd C.lt) Ts.le
    refine bs_set 3 (EO.sp (eo_dict (kvs := kvD dN (kind0 e sts)) (kb := true) rfl T.b_dict (EW.is (EP.w (EO.ep (eo_map [("state", 7)] sts dN (fun x => dT [x, if x ∈ e then 1 else 0]) (iw_list (nw 2)) (fun x hx => ⟨_, gn 7, ep_tup (ap_cons (nm 7) (ap_cons (EP.is (ep_intB rfl T.b_int (EP.w (ep_inNT (nw 7) (nw 1)))) ?_) ap_nil)) sz2⟩) (by omega)))) ?_) ?_)) ?_
    · show D.int _ = dN _
      by_cases q : x ∈ e <;> simp [q]
    · unfold kvD kind0
      rw [List.map_map, List.map_map]
      rfl
    · have := kind0_j (e := e) (sts := sts)
      unfold kvD
      rw [List.map_map]
      have e2 : (kind0 e sts).map ((fun x => x.1) ∘ fun z => ((z.1 : Int), dN z.2)) = sts.map fun (x : Nat) => (x : Int) := by
        have q := congrArg (List.map fun (x : Nat) => (x : Int)) this.ks
        rw [← q]; unfold keys; rw [List.map_map]; rfl
      rw [e2]
      exact List.Pairwise.map _ (fun a b h q => h (by omega)) C.nd
    refine bs_set 4 (EP.sp ep_int) ?_
    refine bs_while (fun m Γ' => ∃ many f, kiLoop s sts m many f = some r ∧ KiJ sts f ∧ GmW Γ' [.val (dTT s), .val (dT e), .val (dL sts), .own (.dK (kvD dN f)), .val (dN many), .any, .any, .any, .any, .any, .any]) (m := fu) ⟨0, _, hr, kind0_j, by (first | exact GmW.refl _ | (repeat' (first | exact True.intro | refine ⟨?_, ?_⟩ | exact SlW.refl _ | exact SlW.any _ | exact SlW.frz _)))⟩ (fun m Γ0 hW => ?_)
    obtain ⟨many, f, h1, j, hg⟩ := hW
    have hvals : (kvD dN f).map (·.2) = (iN (vals f)).map D.int := by
      rw [← dN_iN]; unfold kvD vals; rw [List.map_map, List.map_map]; rfl
    have hvl : (iN (vals f)).length < 60 := by
      have := congrArg List.length j.ks
      unfold keys at this
      rw [List.length_map] at this
      unfold iN vals; rw [List.length_map, List.length_map]; omega
    refine ⟨_, _, hg, tp_neN (nw 4) (EP.w (ep_lenSet (ns := iN (vals f)) rfl T.b_len rfl T.b_set (EW.is (EP.w (EO.ep (eo_vals 3 rfl T.b_list))) (by rw [hvals])) hvl)), fun hk => ?_, fun hk => ?_⟩
    · cases m with
      | zero => cases h1
      | succ m =>
        have he : ¬ many = cntN (vals f) := by
          intro q
          rw [Bool.not_eq_true', decide_eq_false_iff_not] at hk
          exact hk q
        rw [kiLoop, if_neg he] at h1
        refine bs_set 4 (EP.sp (ep_lenSet (ns := iN (vals f)) rfl T.b_len rfl T.b_set (EW.is (EP.w (EO.ep (eo_vals 3 rfl T.b_list))) (by rw [hvals])) hvl)) ?_
        have hkv : ∀ g ∈ sts, lookD (kvD dN f) (g : Int) = some (dN (at' f g 0)) := fun g hg => by
          rw [lookD_kv dN 0, if_pos (by rw [j.ks]; exact hg)]
        have kvnd : ∀ (h : Nat → D), (((sts.map fun (x : Nat) => ((x : Int), h x)) : List (Int × D)).map (·.1)).Nodup := fun h => by
          rw [List.map_map]
          exact List.Pairwise.map _ (fun a b h q => h (Int.ofNat.inj q)) C.nd
        have hlook : ∀ (h : Nat → D) (x : Nat), x ∈ sts → lookD (sts.map fun (x : Nat) => ((x : Int), h x)) (x : Int) = some (h x) := fun h x hx => by
          have z := lookD_kv h 0 x (sts.map fun x => (x, x))
          have e1 : kvD h (sts.map fun x => (x, x)) = sts.map fun (x : Nat) => ((x : Int), h x) := by unfold kvD; rw [List.map_map]; rfl
          have e2 : keys (sts.map fun x => (x, x)) = sts := by unfold keys; rw [List.map_map]; simp [Function.comp_def]
          rw [e1, e2, if_pos hx] at z
          rw [z]
          congr 2
          unfold at'
          cases q : (sts.map fun x => (x, x)).find? fun z => decide (z.1 = x) with
          | none => exact absurd (List.find?_eq_none.mp q (x, x) (List.mem_map.mpr ⟨x, hx, rfl⟩)) (by simp)
          | some z =>
            have h1 := List.find?_some q
            obtain ⟨y, _, rfl⟩ := List.mem_map.mp (List.mem_of_find?_eq_some q)
            simpa using h1
        refine bs_set 5 (s := .own (.dK (sts.map fun (x : Nat) => ((x : Int), D.tup false ((keyOf s f x).map dN))))) (EO.sp (eo_dict (kb := true) rfl T.b_dict (EW.is (EP.w (EO.ep (eo_map [("state", 7)] sts dN (fun x => .tup true [dN x, .tup false ((keyOf s f x).map dN)]) (iw_list (nw 2)) (fun x hx => ⟨_, gn 7, ep_tup (ap_cons (nm 7) (ap_cons (EP.is (ep_tup0 (ap_cons (ep_dg 3 (nm 7) (hkv x hx)) (ap_star (EP.w (EO.ep (eo_map [("goal", 8)] (rw' s x) dN (fun g => dN (at' f g 0)) (iw_seq (ep_ixT (nw 0) (nw 7) rfl (get_dT (C.lt x hx))) rfl) (fun g hg => ⟨_, gn 8, ep_dg 3 (nm 8) (hkv g (C.cl x hx g hg))⟩) ?_))) rfl ap_nil)) ?_) ?_) ap_nil)) sz2⟩) (by omega)))) ?_) (kvnd _))) ?_
        · have := Ts.row _ (rw_mem (C.lt x hx)); have := Ts.kle; omega
        · refine szL ?_
          have := Ts.row _ (rw_mem (C.lt x hx)); have := Ts.kle
          simp; omega
        · simp [keyOf]
        · rw [List.map_map]; rfl
        have gk := key_gk Ts C j
        have hsl : (sortK s f sts).length ≤ sts.length := by
          have := sortC_len (l := sts.map (keyOf s f))
          rwa [List.length_map] at this
        refine bs_set 6 (s := .own (.dT (namD (sortK s f sts)))) (EO.sp (eo_dictT (kb := true) rfl T.b_dict (EW.is (EP.w (EO.ep (eo_map [("number", 9), ("key", 10)] (sortK s f sts).zipIdx (fun z => D.tup false [dN z.2, .tup false (z.1.map dN)]) (fun z => .tup true [.tup false (z.1.map dN), dN z.2]) (IW.is (iw_enumL rfl T.b_enumerate (EP.w (EO.ep (eo_sortSetT (d := k + 1) (kb := false) (ks := sts.map (keyOf s f)) rfl T.b_sorted rfl T.b_set (EW.is (EP.w (EO.ep (eo_vals 5 rfl T.b_list))) ?_) (by omega) gk (by rw [List.length_map]; omega))))) (enumD_map _ _)) (fun z hz => ⟨_, gn2 9 10, ep_tup (ap_cons (nm 10) (ap_cons (nm 9) ap_nil)) sz2⟩) ?_))) ?_) ?_)) ?_
        · rw [List.map_map, List.map_map]; rfl
        · simp; omega
        · unfold namD
          rw [List.map_map]
          congr 1
          exact List.map_congr_left fun z _ => by
            show D.tup true [.tup false (z.1.map dN), dN z.2] = D.tup true [.tup false ((iN z.1).map D.int), dN z.2]
            rw [← dN_iN]
        · unfold namD
          rw [List.map_map]
          have e1 : (sortK s f sts).zipIdx.map ((fun x => x.1) ∘ fun z => (iN z.1, dN z.2)) = (sortK s f sts).map iN := by
            have q : (sortK s f sts).zipIdx.map (fun z => z.1) = sortK s f sts := by simp
            conv => rhs; rw [← q]
            rw [List.map_map]; rfl
          rw [e1]
          exact List.Pairwise.map _ (fun a b h q => h (iN_inj q)) (sortC_nodup gk)
        refine bs_set 3 (s := .own (.dK (kvD dN (nextK s sts f)))) (EO.sp (eo_dict (kb := true) rfl T.b_dict (EW.is (EP.w (EO.ep (eo_map [("state", 7)] sts dN (fun x => .tup true [dN x, dN ((sortK s f sts).idxOf (keyOf s f x))]) (iw_list (nw 2)) (fun x hx => ⟨_, gn 7, ep_tup (ap_cons (nm 7) (ap_cons (ep_dgT 6 (i := iN (keyOf s f x)) (EP.is (ep_dg 5 (nm 7) (hlook (fun x => D.tup false ((keyOf s f x).map dN)) x hx)) (by rw [dN_iN])) ?_) ap_nil)) sz2⟩) (by omega)))) ?_) ?_)) ?_
        · have hm : keyOf s f x ∈ sortK s f sts := sortC_mem.mpr (List.mem_map.mpr ⟨x, hx, rfl⟩)
          have := look_nam (n := 0) hm (sortC_nodup gk)
          unfold namD
          rw [this, Nat.zero_add]
        · unfold kvD nextK
          rw [List.map_map, List.map_map]
          rfl
        · have := kvnd fun x => dN ((sortK s f sts).idxOf (keyOf s f x))
          unfold kvD nextK
          rw [List.map_map, List.map_map]
          rw [List.map_map] at this
          exact this
        · refine bx_nil ⟨m, Nat.lt_succ_self m, _, _, h1, next_j hlen, ?_⟩
          show GmW [_, _, _, _, _, _, _, _, _, _, _] _
          exact ⟨.refl _, .refl _, .refl _, .refl _, .refl _, .any _, .any _, .any _, .any _, .any _, .any _, trivial⟩
    · cases m with
      | zero => cases h1
      | succ m =>
        have he : many = cntN (vals f) := by
          rw [Bool.not_eq_false', decide_eq_true_eq] at hk
          exact hk
        rw [kiLoop, if_pos he] at h1
        cases h1
        exact bs_retO 3 rfl
end
end GL
end
/-! ## D8 -/
section
namespace GL
open PySem PySem.Spec PyProof.Rows L2
section
variable {P : Program} {w : World} {K : PySem.W.Frag} {mg : Str → Option Value} {base : Heap}
/-! ### least_of -/
abbrev FiS := List (Nat × Nat) × List Nat
def fiStep (f : KiF) (st : FiS) (x : Nat) : FiS := if at' f x 0 ∈ keys st.1 then st else (st.1 ++ [(at' f x 0, st.2.length)], st.2 ++ [x])
def fiF (f : KiF) (sts : List Nat) : FiS := sts.foldl (fiStep f) ([], [])
def rowsF (s : List (List Nat)) (f : KiF) (sts : List Nat) : List (List Nat) := (fiF f sts).2.map fun x => (rw' s x).map fun g => at' (fiF f sts).1 (at' f g 0) 0
def endsF (e : List Nat) (f : KiF) (sts : List Nat) : List Nat := ((fiF f sts).2.zipIdx.filter fun z => decide (z.1 ∈ e)).map (·.2)
def LeastP (s : List (List Nat)) (e : List Nat) (S' : List (List Nat)) (E' : List Nat) : Prop := ∃ f1 r1 f2 r2, ctLoop s f1 ([(0, [])], [0]) = some r1 ∧ Cl s (keys r1) ∧ kiLoop s (keys r1) f2 0 (kind0 e (keys r1)) = some r2 ∧ S' = rowsF s r2 (keys r1) ∧ E' = endsF e r2 (keys r1)
theorem kiLoop_j {s : List (List Nat)} {sts : List Nat} (hl : sts.length ≤ 5) {r : KiF} : ∀ {n many : Nat} {f : KiF}, KiJ sts f → kiLoop s sts n many f = some r → KiJ sts r
  | 0, _, _, _, h => by cases h
  | n + 1, many, f, j, h => by
    rw [kiLoop] at h
    split at h
    · cases h; exact j
    · exact kiLoop_j hl (next_j hl) h
structure FiJ (f : KiF) (st : FiS) (n : Nat) : Prop where
  ll : st.2.length ≤ n
  nl : st.1.length = st.2.length
theorem FiJ.step {f : KiF} {st : FiS} {n x : Nat} (j : FiJ f st n) : FiJ f (fiStep f st x) (n + 1) := by
  unfold fiStep
  split
  · exact ⟨Nat.le_succ_of_le j.ll, j.nl⟩
  · exact ⟨by have := j.ll; simp; omega, by have := j.nl; simp; omega⟩
theorem fi_sub {f : KiF} {st : FiS} {x y : Nat} (h : y ∈ keys st.1) : y ∈ keys (fiStep f st x).1 := by
  unfold fiStep
  split
  · exact h
  · unfold keys; rw [List.map_append]; exact List.mem_append_left _ h
theorem fi_has {f : KiF} : ∀ {l : List Nat} {st : FiS}, (∀ y ∈ keys st.1, y ∈ keys (l.foldl (fiStep f) st).1) ∧ ∀ x ∈ l, at' f x 0 ∈ keys (l.foldl (fiStep f) st).1
  | [], st => ⟨fun y h => h, fun x h => by cases h⟩
  | a :: l, st => by
    obtain ⟨h1, h2⟩ := fi_has (f := f) (l := l) (st := fiStep f st a)
    refine ⟨fun y h => h1 y (fi_sub h), fun x hx => ?_⟩
    rcases List.mem_cons.mp hx with rfl | hx
    · refine h1 _ ?_
      unfold fiStep
      split
      · assumption
      · unfold keys; rw [List.map_append]; exact List.mem_append_right _ (by simp)
    · exact h2 x hx
theorem fi_mem {f : KiF} {sts : List Nat} : ∀ {l : List Nat} {st : FiS}, (∀ x ∈ l, x ∈ sts) → (∀ x ∈ st.2, x ∈ sts) → ∀ x ∈ (l.foldl (fiStep f) st).2, x ∈ sts
  | [], st, _, h => h
  | a :: l, st, hl, h => fi_mem (l := l) (fun x hx => hl x (List.mem_cons_of_mem _ hx)) (fun x hx => by
      unfold fiStep at hx
      split at hx
      · exact h x hx
      · rcases List.mem_append.mp hx with hx | hx
        · exact h x hx
        · rw [List.mem_singleton.mp hx]; exact hl a List.mem_cons_self)
def R_least_of (ds : List D) (d : D) : Prop := ∃ s k e S' E', Tb s k ∧ LeastP s e S' E' ∧ ds = [dTT s, dT e] ∧ d = .tup true [dTT S', dT E']
theorem p_least_of (T : Tx K mg) : Pm P w K mg base 2 "least_of" ["steps", "ends"] (spD R_least_of) := by
  refine T.d_least_of.pmD sc_least_of (fun ds d h => ?_) fun ds d h => ?_
  · obtain ⟨_, _, _, _, _, _, _, rfl, _⟩ := h; rfl
  · obtain ⟨s, k, e, S', E', Ts, ⟨f1, r1, f2, r2, hr1, C, hr2, rfl, rfl⟩, rfl, rfl⟩ := h
    have hlen : (keys r1).length ≤ 5 := Nat.le_trans (nodup_le C.nd C.lt) Ts.le
    have j := kiLoop_j hlen kind0_j hr2
    have hkv : ∀ g ∈ keys r1, lookD (kvD dN r2) (g : Int) = some (dN (at' r2 g 0)) := fun g hg => by
      rw [lookD_kv dN 0, if_pos (by rw [j.ks]; exact hg)]
    refine bs_set 2 (s := .own (.lst ((keys r1).map dN))) (EO.sp (EO.is (eo_listDict rfl T.b_list (eo_call ((p_come_to T).fd (Nat.le_refl _)) rfl (ap_cons (nm 0) ap_nil) ⟨s, k, f1, r1, Ts, hr1, rfl, rfl⟩)) (by unfold kvD keys; rw [List.map_map, List.map_map]; rfl))) ?_
    refine bx_weak (Γ' := [.val (dTT s), .val (dT e), .val (dL (keys r1)), .any, .any, .any, .any, .any, .any, .any]) (by (first | exact GmW.refl _ | (repeat' (first | exact True.intro | refine ⟨?_, ?_⟩ | exact SlW.refl _ | exact SlW.any _ | exact SlW.frz _)))) ?_
    refine bs_set 3 (EO.sp (eo_call ((p_kinds_of T).fd (Nat.le_refl _)) rfl (ap_cons (nm 0) (ap_cons (nm 1) (ap_cons (nm 2) ap_nil))) ⟨s, k, e, keys r1, f2, r2, Ts, C, hr2, rfl, rfl⟩)) ?_
    refine bs_parC 4 5 (EO.sp (eo_lst (ds := []) ap_nil (by decide))) (EO.sp eo_dnew) ?_
    refine bs_fold (keys r1) dN (([], []) : FiS) (fiStep r2) (fun st => [.val (dTT s), .val (dT e), .val (dL (keys r1)), .own (.dK (kvD dN r2)), .own (.lst (st.2.map dN)), .own (.dK (kvD dN st.1)), .any, .any, .any, .any]) (fun i st => FiJ r2 st i ∧ i ≤ 5) (is_list (nm 2)) (by (first | exact GmW.refl _ | (repeat' (first | exact True.intro | refine ⟨?_, ?_⟩ | exact SlW.refl _ | exact SlW.any _ | exact SlW.frz _)))) ⟨⟨Nat.le_refl _, rfl⟩, by omega⟩ (fun i x st hx hI => ?_) fun hI => ?_
    · have hi : i < (keys r1).length := (List.getElem?_eq_some_iff.mp hx).1
      refine ⟨⟨hI.1.step, by omega⟩, _, _, gn 6, ?_⟩
      have h1 := hI.1.ll
      have h2 := hI.1.nl
      have h3 := hI.2
      have kx := hkv x (List.mem_of_getElem? hx)
      refine bs_if [.val (dTT s), .val (dT e), .val (dL (keys r1)), .own (.dK (kvD dN r2)), .own (.lst ((fiStep r2 st x).2.map dN)), .own (.dK (kvD dN (fiStep r2 st x).1)), .any, .any, .any, .any] (tp_din (s := 5) rfl (.inr (.inl rfl)) rfl (ep_dg 3 (nm 6) kx)) (fun h => ?_) (fun h => ?_) (bx_nil (by (first | exact GmW.refl _ | (repeat' (first | exact True.intro | refine ⟨?_, ?_⟩ | exact SlW.refl _ | exact SlW.any _ | exact SlW.frz _)))))
      · rw [lookD_kv dN 0] at h
        have hn : ¬ at' r2 x 0 ∈ keys st.1 := fun q => by rw [if_pos q] at h; cases h
        refine bx_cons (sx_dput (s := 5) rfl (.inr (.inl rfl)) rfl (d := dN st.2.length) (ep_lenN rfl T.b_len (ow 4) rfl (by rw [List.length_map])) (ep_dg 3 (nm 6) kx) (by rw [lookD_kv dN 0, if_neg hn]) (by unfold kvD; rw [List.length_map]; omega) ?_)
        refine bs_app 4 (nm 6) (bx_nil ?_)
        simp only [fiStep, hn, if_false, List.map_append, kvD]
        (first | exact GmW.refl _ | (repeat' (first | exact True.intro | refine ⟨?_, ?_⟩ | exact SlW.refl _ | exact SlW.any _ | exact SlW.frz _)))
      · rw [lookD_kv dN 0] at h
        have hn : at' r2 x 0 ∈ keys st.1 := Decidable.byContradiction fun q => by rw [if_neg q] at h; cases h
        refine bx_nil ?_
        simp only [fiStep, hn, if_true]
        (first | exact GmW.refl _ | (repeat' (first | exact True.intro | refine ⟨?_, ?_⟩ | exact SlW.refl _ | exact SlW.any _ | exact SlW.frz _)))
    · show BX _ _ [.val (dTT s), .val (dT e), .val (dL (keys r1)), .own (.dK (kvD dN r2)), .own (.lst ((fiF r2 (keys r1)).2.map dN)), .own (.dK (kvD dN (fiF r2 (keys r1)).1)), .any, .any, .any, .any] _
      have hl : (fiF r2 (keys r1)).2.length ≤ (keys r1).length := hI.1.ll
      have hm : ∀ x ∈ (fiF r2 (keys r1)).2, x ∈ keys r1 := fi_mem (fun x h => h) (fun x h => by cases h)
      have hh := (fi_has (f := r2) (l := keys r1) (st := ([], []))).2
      refine bs_set 7 (s := .val (dTT (rowsF s r2 (keys r1)))) (EP.sp (EP.is (ep_tupleOf rfl T.b_tuple (EP.w (EO.ep (eo_map [("state", 6)] (fiF r2 (keys r1)).2 dN (fun x => dT ((rw' s x).map fun g => at' (fiF r2 (keys r1)).1 (at' r2 g 0) 0)) (iw_list (ow 4)) (fun x hx => ⟨_, gn 6, EP.is (ep_tupleOf rfl T.b_tuple (EP.w (EO.ep (eo_map [("goal", 8)] (rw' s x) dN (fun g => dN (at' (fiF r2 (keys r1)).1 (at' r2 g 0) 0)) (iw_seq (ep_ixT (nw 0) (nw 6) rfl (get_dT (C.lt x (hm x hx)))) rfl) (fun g hg => ⟨_, gn 8, ep_dg 5 (ep_dg 3 (nm 8) (hkv g (C.cl x (hm x hx) g hg))) ?_⟩) ?_)))) ?_⟩) ?_)))) ?_)) ?_
      · rw [lookD_kv dN 0]
        exact if_pos (hh g (C.cl x (hm x hx) g hg))
      · have := Ts.row _ (rw_mem (C.lt x (hm x hx))); have := Ts.kle; omega
      · rw [dT, List.map_map]; rfl
      · omega
      · unfold rowsF dTT; rw [List.map_map]; rfl
      · refine bs_ret (ep_tup (ap_cons (nm 7) (ap_cons (EP.is (ep_tupleOf rfl T.b_tuple (EP.w (EO.ep (eo_fil [("number", 9), ("state", 6)] (fiF r2 (keys r1)).2.zipIdx (fun z => D.tup false [dN z.2, dN z.1]) (fun z => decide (z.1 ∈ e)) (fun z => dN z.2) (IW.is (iw_enumL rfl T.b_enumerate (ow 4)) (enumD_map dN _)) (fun z hz => ⟨_, gn2 9 6, tp_inNT (nw 6) (nw 1), fun _ => nm 9⟩) ?_)))) ?_) ap_nil)) sz2) rfl
        · simp; omega
        · unfold endsF dT; rw [List.map_map]; rfl
/-! ### least -/
def Mach (m : D) (s : List (List Nat)) (e : List Nat) : Prop := m.wd 3 ∧ m.toTup = .tup true [dTT s, dT e]
def R_least (ds : List D) (d : D) : Prop := ∃ m s k e S' E', Mach m s e ∧ Tb s k ∧ LeastP s e S' E' ∧ ds = [m] ∧ d = .tup true [dTT S', dT E']
theorem p_least (T : Tx K mg) : Pm P w K mg base 5 "least" ["machine"] (spD R_least) := by
  refine T.d_least.pmD sc_least (fun ds d h => ?_) fun ds d h => ?_
  · obtain ⟨_, _, _, _, _, _, _, _, _, rfl, _⟩ := h; rfl
  · obtain ⟨m, s, k, e, S', E', hm, Ts, hL, rfl, rfl⟩ := h
    refine bs_pair 1 2 (kb := true) (d1 := dTT s) (d2 := dT e) (ep_call ((p_tuple_of T 3).fd (Nat.le_refl _)) rfl (ap_cons (nm 0) ap_nil) ⟨m, rfl, hm.1, hm.2.symm⟩) ?_
    exact bs_ret (ep_call ((p_least_of T).fd (by decide)) rfl (ap_cons (nm 1) (ap_cons (nm 2) ap_nil)) ⟨s, k, e, S', E', Ts, hL, rfl, rfl⟩) rfl
/-! ### returns_machine -/
def R_returns_machine (ds : List D) (d : D) : Prop := ∃ m s k e S' E' S2 E2, Mach m s e ∧ Tb s k ∧ LeastP s e S' E' ∧ Tb S' k ∧ LeastP S' [0] S2 E2 ∧ ds = [m] ∧ d = .tup true [dTT S2, dT E2]
theorem p_returns_machine (T : Tx K mg) : Pm P w K mg base 6 "returns_machine" ["machine"] (spD R_returns_machine) := by
  refine T.d_returns_machine.pmD sc_returns_machine (fun ds d h => ?_) fun ds d h => ?_
  · obtain ⟨_, _, _, _, _, _, _, _, _, _, _, _, _, rfl, _⟩ := h; rfl
  · obtain ⟨m, s, k, e, S', E', S2, E2, hm, Ts, hL, Ts', hL2, rfl, rfl⟩ := h
    exact bs_ret (ep_call ((p_least_of T).fd (by decide)) rfl (ap_cons (ep_ixT (d := dTT S') (EP.w (ep_call ((p_least T).fd (by decide)) rfl (ap_cons (nm 0) ap_nil) ⟨m, s, k, e, S', E', hm, Ts, hL, rfl, rfl⟩)) (EP.w ep_int) (j := 0) rfl rfl) (ap_cons (ep_tup (ds := [dN 0]) (ap_cons ep_int ap_nil) sz1) ap_nil)) ⟨S', k, [0], S2, E2, Ts', hL2, rfl, rfl⟩) rfl
end
end GL
end
/-! ## D9 -/
section
namespace GL
open PySem PySem.Spec PyProof.Rows L2
theorem zip_mem {α : Type} {l : List α} {z : α × Nat} (h : z ∈ l.zipIdx) : z.1 ∈ l := by
  obtain ⟨h1, h2, h3⟩ := List.mem_zipIdx h
  rw [h3]
  exact List.getElem_mem _
theorem zip_lt2 {α : Type} {l : List α} {z : α × Nat} (h : z ∈ l.zipIdx) : z.2 < l.length := by
  obtain ⟨h1, h2, h3⟩ := List.mem_zipIdx h
  omega
section
variable {P : Program} {w : World} {K : PySem.W.Frag} {mg : Str → Option Value} {base : Heap}
/-! ### backs_of -/
def bkNow (s : List (List Nat)) (fd now : List Nat) : List Nat := (s.zipIdx.filter fun z => !decide (z.2 ∈ fd) && z.1.any fun g => decide (g ∈ now)).map (·.2)
def bkLoop (s : List (List Nat)) : Nat → List Nat → List Nat → Option (List Nat)
  | 0, _, _ => none
  | n + 1, fd, now => if now.isEmpty then some fd else bkLoop s n (fd ++ bkNow s fd now) (bkNow s fd now)
theorem bkNow_len {s : List (List Nat)} {fd now : List Nat} : (bkNow s fd now).length ≤ s.length := by
  unfold bkNow
  rw [List.length_map]
  exact Nat.le_trans (List.length_filter_le _ _) (by simp)
def srtI (l : List Int) : List Int := l.mergeSort (fun a b => decide (a ≤ b))
theorem srtI_perm (l : List Int) : (srtI l).Perm l := List.mergeSort_perm l _
theorem srtI_sorted (l : List Int) : (srtI l).Pairwise (· ≤ ·) := by
  have := List.pairwise_mergeSort (le := fun a b : Int => decide (a ≤ b)) (fun a b c h1 h2 => by simp at *; omega) (fun a b => by simp; omega) l
  exact this.imp fun h => by simpa using h
def BackP (s : List (List Nat)) (fd : List Nat) : Prop := ∃ n, n ≤ 1000 ∧ bkLoop s n [0] [0] = some fd
def R_backs_of (ds : List D) (d : D) : Prop := ∃ s k fd, Tb s k ∧ BackP s fd ∧ ds = [dTT s] ∧ d = .tup true ((srtI (iN fd)).map .int)
theorem p_backs_of (T : Tx K mg) : Pm P w K mg base 1 "backs_of" ["steps"] (spD R_backs_of) := by
  refine T.d_backs_of.pmD sc_backs_of (fun ds d h => ?_) fun ds d h => ?_
  · obtain ⟨_, _, _, _, _, rfl, _⟩ := h; rfl
  · obtain ⟨s, k, fd, Ts, ⟨n, hn, hr⟩, rfl, rfl⟩ := h
    refine bs_parC 1 2 (s1 := .own (.lst ([0].map dN))) (s2 := .own (.lst ([0].map dN))) (EO.sp (eo_lst (ap_cons ep_int ap_nil) sz1)) (EO.sp (eo_lst (ap_cons ep_int ap_nil) sz1)) ?_
    refine bs_while (fun m Γ' => ∃ fd0 now, bkLoop s m fd0 now = some fd ∧ fd0.length + 6 * m ≤ 6010 ∧ GmW Γ' [.val (dTT s), .own (.lst (fd0.map dN)), .val (dL now), .any, .any, .any]) (m := n) ⟨[0], [0], hr, by simp; omega, by (first | exact GmW.refl _ | (repeat' (first | exact True.intro | refine ⟨?_, ?_⟩ | exact SlW.refl _ | exact SlW.any _ | exact SlW.frz _)))⟩ (fun m Γ0 hW => ?_)
    obtain ⟨fd0, now, h1, hl, hg⟩ := hW
    refine ⟨_, _, hg, tp_neE kdN (nw 2), fun hk => ?_, fun hk => ?_⟩
    · cases m with
      | zero => cases h1
      | succ m =>
        have he : now.isEmpty = false := by simpa using hk
        rw [bkLoop, he] at h1
        simp only [Bool.false_eq_true, if_false] at h1
        have hnl := bkNow_len (s := s) (fd := fd0) (now := now)
        have hle := Ts.le
        refine bs_lcC 2 [("state", 4), ("row", 5)] (lc_fil [("state", 4), ("row", 5)] s.zipIdx (fun z => D.tup false [dN z.2, dT z.1]) (fun z => !decide (z.2 ∈ fd0) && z.1.any fun g => decide (g ∈ now)) (fun z => dN z.2) (IW.is (IS.w (is_enumT (kb := true) rfl T.b_enumerate (nm 0))) (enumD_map dT s)) (fun z hz => ⟨_, gn2 4 5, WP.toT (wp_and2 (tp_ninN (nw 4) (ow 1)) (fun _ => wp_and1 (TP.is (tp_val (ep_any (bs := z.1.map fun g => decide (g ∈ now)) rfl T.b_any (EW.is (EP.w (EO.ep (eo_map [("goal", 3)] z.1 dN (fun g => .bool (decide (g ∈ now))) (iw_seq (nm 5) rfl) (fun g hg => ⟨_, gn 3, ep_inN (nw 3) (nw 2)⟩) ?_))) ?_))) ?_))), fun _ => nm 4⟩) (by simp; omega)) ?_
        · have := Ts.row _ (zip_mem hz); have := Ts.kle; omega
        · rw [List.map_map]; rfl
        · rw [List.any_map]; rfl
        · have e : (s.zipIdx.filter fun z => !decide (z.2 ∈ fd0) && z.1.any fun g => decide (g ∈ now)).map (fun z => dN z.2) = (bkNow s fd0 now).map dN := by unfold bkNow; rw [List.map_map]; rfl
          rw [e]
          refine bx_weak (Γ' := [.val (dTT s), .own (.lst (fd0.map dN)), .val (dL (bkNow s fd0 now)), .any, .any, .any]) (by (first | exact GmW.refl _ | (repeat' (first | exact True.intro | refine ⟨?_, ?_⟩ | exact SlW.refl _ | exact SlW.any _ | exact SlW.frz _)))) ?_
          refine bx_cons (sx_extend (s := 1) rfl (.inr (.inl rfl)) rfl (nm 2) (by simp; omega) (bx_nil ⟨m, Nat.lt_succ_self m, _, _, h1, by simp; omega, ?_⟩))
          rw [List.map_append]
          (first | exact GmW.refl _ | (repeat' (first | exact True.intro | refine ⟨?_, ?_⟩ | exact SlW.refl _ | exact SlW.any _ | exact SlW.frz _)))
    · cases m with
      | zero => cases h1
      | succ m =>
        have he : now.isEmpty = true := by simpa using hk
        rw [bkLoop, he] at h1
        simp only [if_true, Option.some.injEq] at h1
        subst h1
        refine bs_ret (ep_tupleOf rfl T.b_tuple (EP.w (EO.ep (eo_sortedI (ns := iN fd0) (ms := srtI (iN fd0)) rfl T.b_sorted (EW.is (ow 1) (by rw [← dN_iN])) (srtI_perm _) (srtI_sorted _))))) rfl
/-! ### leads_back -/
def R_leads_back (ds : List D) (d : D) : Prop := ∃ m s k e S' E' fd, Mach m s e ∧ Tb s k ∧ LeastP s e S' E' ∧ Tb S' k ∧ BackP S' fd ∧ ds = [m] ∧ d = .bool (decide (fd.length = S'.length))
theorem p_leads_back (T : Tx K mg) : Pm P w K mg base 6 "leads_back" ["machine"] (spD R_leads_back) := by
  refine T.d_leads_back.pmD sc_leads_back (fun ds d h => ?_) fun ds d h => ?_
  · obtain ⟨_, _, _, _, _, _, _, _, _, _, _, _, rfl, _⟩ := h; rfl
  · obtain ⟨m, s, k, e, S', E', fd, hm, Ts, hL, Ts', hb, rfl, rfl⟩ := h
    refine bs_set 1 (EP.sp (ep_ixT (d := dTT S') (EP.w (ep_call ((p_least T).fd (by decide)) rfl (ap_cons (nm 0) ap_nil) ⟨m, s, k, e, S', E', hm, Ts, hL, rfl, rfl⟩)) (EP.w ep_int) (j := 0) rfl rfl)) ?_
    refine bs_ret (EP.is (ep_eqI (EP.w (ep_len rfl T.b_len (EP.w (ep_call ((p_backs_of T).fd (by decide)) rfl (ap_cons (nm 1) ap_nil) ⟨S', k, fd, Ts', hb, rfl, rfl⟩)) rfl)) (EP.w (ep_len rfl T.b_len (nw 1) rfl))) ?_) rfl
    congr 1
    have : (srtI (iN fd)).length = fd.length := by rw [(srtI_perm _).length_eq]; unfold iN; simp
    rw [List.length_map, List.length_map, this, decide_eq_decide]; omega
/-! ### tail_of -/
abbrev pD (z : Nat × Nat) : D := .tup false [dN z.1, dN z.2]
abbrev pI (z : Nat × Nat) : List Int := [(z.1 : Int), (z.2 : Int)]
abbrev TaM := List ((Nat × Nat) × List Nat)
def keysP (f : TaM) : List (Nat × Nat) := f.map (·.1)
def taD (f : TaM) : List (List Int × D) := f.map fun z => (pI z.1, dT z.2)
def atP (f : TaM) (x : Nat × Nat) : List Nat := ((f.find? fun z => decide (z.1 = x)).map (·.2)).getD []
theorem pI_inj {a b : Nat × Nat} (h : pI a = pI b) : a = b := by
  simp only [pI, List.cons.injEq, and_true] at h
  exact Prod.ext (Int.ofNat.inj h.1) (Int.ofNat.inj h.2)
theorem lookD_ta (x : Nat × Nat) : ∀ f : TaM, lookD (taD f) (pI x) = if x ∈ keysP f then some (dT (atP f x)) else none
  | [] => rfl
  | z :: f => by
    have ih := lookD_ta x f
    unfold lookD taD keysP atP at *
    rw [List.map_cons, List.map_cons, List.find?_cons, List.find?_cons]
    by_cases e : z.1 = x
    · simp [e]
    · have e' : ¬ (pI z.1 = pI x) := fun q => e (pI_inj q)
      have e2 : ¬ x = z.1 := fun h => e h.symm
      simp only [e, e', decide_false, List.mem_cons, e2, false_or]
      exact ih
abbrev TaS := TaM × List (Nat × Nat)
def taGo (s : List (List Nat)) (x : Nat × Nat) (a : Nat) : Nat × Nat := (go s x.1 a, go s x.2 a)
def taStep (s : List (List Nat)) (wd : List Nat) (x : Nat × Nat) (st : TaS) (a : Nat) : TaS := if taGo s x a ∈ keysP st.1 then st else (st.1 ++ [(taGo s x a, wd ++ [a + 1])], st.2 ++ [taGo s x a])
def taRow (s : List (List Nat)) (k : Nat) (x : Nat × Nat) (st : TaS) : TaS := (List.range k).foldl (taStep s (atP st.1 x) x) st
def taNow (s : List (List Nat)) (k : Nat) : TaS → List (Nat × Nat) → List Nat ⊕ TaS
  | st, [] => .inr st
  | st, x :: l => if x.1 = 0 ∧ x.2 = 0 then .inl (atP st.1 x) else taNow s k (taRow s k x st) l
def taLoop (s : List (List Nat)) (k : Nat) : Nat → TaS → Option (Option (List Nat))
  | 0, _ => none
  | n + 1, st => if st.2.isEmpty then some none else match taNow s k (st.1, []) st.2 with
    | .inl wd => some (some wd)
    | .inr st' => taLoop s k n st'
structure TaJ (n : Nat) (st : TaS) : Prop where
  nd : (keysP st.1).Nodup
  lt : ∀ x ∈ keysP st.1, x.1 < n ∧ x.2 < n
  wl : ∀ z ∈ st.1, z.2.length ≤ st.1.length
  sub : ∀ x ∈ st.2, x ∈ keysP st.1
  ll : st.2.length ≤ st.1.length
theorem TaJ.len {n : Nat} {st : TaS} (j : TaJ n st) : st.1.length ≤ n * n := by
  have h1 : ((keysP st.1).map fun x => x.1 * n + x.2).Nodup := by
    have h2 : (keysP st.1).Pairwise fun a b => a ≠ b ∧ (a.1 < n ∧ a.2 < n) ∧ (b.1 < n ∧ b.2 < n) := List.Pairwise.imp_of_mem (fun {a b} ha hb h => ⟨h, j.lt a ha, j.lt b hb⟩) j.nd
    refine List.Pairwise.map _ (fun a b h e => ?_) h2
    obtain ⟨hne, ha, hb⟩ := h
    have e1 : a.1 = b.1 := by
      have h3 : (a.1 * n + a.2) / n = a.1 := by rw [Nat.mul_comm, Nat.mul_add_div (by omega), Nat.div_eq_of_lt ha.2, Nat.add_zero]
      have h4 : (b.1 * n + b.2) / n = b.1 := by rw [Nat.mul_comm, Nat.mul_add_div (by omega), Nat.div_eq_of_lt hb.2, Nat.add_zero]
      rw [← h3, ← h4, e]
    have e2 : a.2 = b.2 := by rw [e1] at e; omega
    exact hne (Prod.ext e1 e2)
  have h2 := nodup_le (n := n * n) h1 fun x hx => by
    obtain ⟨y, hy, rfl⟩ := List.mem_map.mp hx
    have := j.lt y hy
    have h5 : y.1 * n + n ≤ n * n := by
      have : (y.1 + 1) * n ≤ n * n := Nat.mul_le_mul_right _ (by omega)
      rwa [Nat.succ_mul] at this
    omega
  unfold keysP at h2
  rwa [List.length_map, List.length_map] at h2
theorem atP_wl {n : Nat} {st : TaS} (j : TaJ n st) (x : Nat × Nat) : (atP st.1 x).length ≤ st.1.length := by
  unfold atP
  cases e : st.1.find? fun z => decide (z.1 = x) with
  | none => simp
  | some z => exact j.wl z (List.mem_of_find?_eq_some e)
theorem TaJ.step {s : List (List Nat)} {n : Nat} {st : TaS} (j : TaJ n st) {wd : List Nat} (hw : wd.length ≤ st.1.length) {x : Nat × Nat} {a : Nat} (h : (taGo s x a).1 < n ∧ (taGo s x a).2 < n) : TaJ n (taStep s wd x st a) ∧ st.1.length ≤ (taStep s wd x st a).1.length := by
  unfold taStep
  split
  · exact ⟨j, Nat.le_refl _⟩
  · rename_i hg
    refine ⟨⟨?_, fun y hy => ?_, fun z hz => ?_, fun y hy => ?_, ?_⟩, by simp⟩
    · unfold keysP; rw [List.map_append]
      refine List.nodup_append.mpr ⟨j.nd, by simp, fun a ha b hb => ?_⟩
      simp at hb
      subst hb
      exact fun e => hg (e ▸ ha)
    · unfold keysP at hy; rw [List.map_append, List.mem_append] at hy
      rcases hy with hy | hy
      · exact j.lt y hy
      · simp at hy; rw [hy]; exact h
    · rw [List.length_append]
      rcases List.mem_append.mp hz with hz | hz
      · have := j.wl z hz; omega
      · simp at hz; subst hz; simp; omega
    · unfold keysP; rw [List.map_append, List.mem_append]
      rcases List.mem_append.mp hy with hy | hy
      · exact .inl (j.sub y hy)
      · exact .inr (by simpa using hy)
    · rw [List.length_append, List.length_append]; have := j.ll; simp; omega
theorem taStep_sub {s : List (List Nat)} {wd : List Nat} {x y : Nat × Nat} {st : TaS} {a : Nat} (h : y ∈ keysP st.1) : y ∈ keysP (taStep s wd x st a).1 := by
  unfold taStep
  split
  · exact h
  · unfold keysP; rw [List.map_append]; exact List.mem_append_left _ h
theorem taFold {s : List (List Nat)} {n : Nat} {x : Nat × Nat} {wd : List Nat} : ∀ (l : List Nat) (st : TaS), TaJ n st → wd.length ≤ st.1.length → (∀ a ∈ l, (taGo s x a).1 < n ∧ (taGo s x a).2 < n) → TaJ n (l.foldl (taStep s wd x) st) ∧ ∀ y ∈ keysP st.1, y ∈ keysP (l.foldl (taStep s wd x) st).1
  | [], st, j, _, _ => ⟨j, fun y h => h⟩
  | a :: l, st, j, hw, h => by
    obtain ⟨g1, g2⟩ := j.step hw (h a List.mem_cons_self)
    obtain ⟨h1, h2⟩ := taFold (s := s) (x := x) (wd := wd) l (taStep s wd x st a) g1 (by omega) fun y hy => h y (List.mem_cons_of_mem _ hy)
    exact ⟨h1, fun y hy => h2 y (taStep_sub hy)⟩
def R_tail_of (ds : List D) (d : D) : Prop := ∃ s k st n r, Tb s k ∧ st < s.length ∧ taLoop s k n ([((0, st), [])], [(0, st)]) = some r ∧ ds = [dTT s, dN st] ∧ d = (match r with | none => .none | some wd => dT wd)
end
end GL
end
/-! ## D10 -/
section
namespace GL
open PySem PySem.Spec PyProof.Rows L2
theorem sz0 : 0 ≤ sizeLine := Nat.zero_le _
theorem eq_pD (a b : Nat × Nat) : (pD a).eq (pD b) = decide (a = b) := by
  have h := eq_tup (k1 := false) (k2 := false) eq_dN [a.1, a.2] [b.1, b.2]
  have e : (pD a).eq (pD b) = decide ([a.1, a.2] = [b.1, b.2]) := h
  rw [e, decide_eq_decide]
  simp only [List.cons.injEq, and_true]
  exact ⟨fun h => Prod.ext h.1 h.2, fun h => by rw [h]; exact ⟨rfl, rfl⟩⟩
def kdP : Kd (Nat × Nat) := Kd.mk' pD 1 (by decide) eq_pD fun a => fit_tup fun d hd => by
  rcases List.mem_cons.mp hd with rfl | hd
  · exact fit_int _
  · rw [List.mem_singleton.mp hd]; exact fit_int _
section
variable {P : Program} {w : World} {K : PySem.W.Frag} {mg : Str → Option Value} {base : Heap}
theorem p_tail_of (T : Tx K mg) : Pm P w K mg base 1 "tail_of" ["steps", "state"] (spD R_tail_of) := by
  refine T.d_tail_of.pmD sc_tail_of (fun ds d h => ?_) fun ds d h => ?_
  · obtain ⟨_, _, _, _, _, _, _, _, rfl, _⟩ := h; rfl
  · obtain ⟨s, k, st0, n, r, Ts, hst, hr, rfl, rfl⟩ := h
    have hn5 := Ts.le
    refine bs_par 2 3 (s1 := .own (.dT (taD [((0, st0), [])]))) (s2 := .own (.lst ([(0, st0)].map pD))) (EO.sp (eo_disp1T (i := pI (0, st0)) (d := dT []) (ep_tup0 (ds := [dN 0, dN st0]) (ap_cons ep_int (ap_cons (nm 1) ap_nil)) sz2) (ep_tup (ds := []) ap_nil sz0))) (EO.sp (eo_lst (ds := [pD (0, st0)]) (ap_cons (ep_tup0 (ds := [dN 0, dN st0]) (ap_cons ep_int (ap_cons (nm 1) ap_nil)) sz2) ap_nil) sz1)) ?_
    refine bs_while (fun m Γ' => ∃ st : TaS, taLoop s k m st = some r ∧ TaJ s.length st ∧ GmW Γ' [.val (dTT s), .val (dN st0), .own (.dT (taD st.1)), .val (.list (st.2.map pD)), .any, .any, .any, .any, .any, .any]) (m := n) ⟨_, hr, ⟨by simp [keysP], fun x hx => by simp [keysP] at hx; subst hx; exact ⟨Ts.pos, hst⟩, by simp, by simp [keysP], by simp⟩, by (first | exact GmW.refl _ | (repeat' (first | exact True.intro | refine ⟨?_, ?_⟩ | exact SlW.refl _ | exact SlW.any _ | exact SlW.frz _)))⟩ (fun m Γ0 hW => ?_)
    obtain ⟨⟨met, now⟩, h1, j, hg⟩ := hW
    refine ⟨_, _, hg, tp_neE kdP (nw 3), fun hk => ?_, fun hk => ?_⟩
    · cases m with
      | zero => cases h1
      | succ m =>
        have he : now.isEmpty = false := by simpa using hk
        rw [taLoop] at h1
        simp only [he, Bool.false_eq_true, if_false] at h1
        refine bs_set 4 (EO.sp (eo_lst (ds := []) ap_nil (by decide))) ?_
        refine bx_cons (sx_for (is_list (ds := now.map pD) (nm 3)) (fun i Γ' => ∃ st : TaS, taNow s k st (now.drop i) = taNow s k (met, []) now ∧ TaJ s.length st ∧ (∀ x ∈ now, x ∈ keysP st.1) ∧ GmW Γ' [.val (dTT s), .val (dN st0), .own (.dT (taD st.1)), .val (.list (now.map pD)), .own (.lst (st.2.map pD)), .any, .any, .any, .any, .any]) ⟨(met, []), rfl, ⟨j.nd, j.lt, j.wl, by simp, by simp⟩, j.sub, by (first | exact GmW.refl _ | (repeat' (first | exact True.intro | refine ⟨?_, ?_⟩ | exact SlW.refl _ | exact SlW.any _ | exact SlW.frz _)))⟩ (fun i d Γ' hd hW => ?_) fun Γ' hW => ?_)
        · obtain ⟨st, e1, J, hs, hg2⟩ := hW
          rw [List.getElem?_map] at hd
          obtain ⟨x, hx, rfl⟩ := Option.map_eq_some_iff.mp hd
          obtain ⟨hi, hxe⟩ := List.getElem?_eq_some_iff.mp hx
          have hdrop : now.drop i = x :: now.drop (i + 1) := by rw [← hxe]; exact List.drop_eq_getElem_cons hi
          rw [hdrop, taNow] at e1
          have hxm := hs x (List.mem_of_getElem? hx)
          have hxl := J.lt x hxm
          refine ⟨_, _, _, hg2, gn2 5 6, ?_⟩
          refine bs_set 7 (s := .val (dT (atP st.1 x))) (EP.sp (ep_dgT 2 (i := pI x) (ep_tup0 (ds := [dN x.1, dN x.2]) (ap_cons (nm 5) (ap_cons (nm 6) ap_nil)) sz2) (by rw [lookD_ta, if_pos hxm]))) ?_
          refine bs_ifr (tp_chain (k := decide ((x.1 : Int) = (x.2 : Int))) (k' := decide (x.1 = 0 ∧ x.2 = 0)) (fun _ _ => op_eq) (fun _ _ => op_eq) (nw 5) (nw 6) rvd_eqI (fun hk => ⟨EP.w ep_int, ?_⟩) (fun hk => ?_)) (fun h => ?_) (fun h => ?_)
          · have z := @rvd_eqI ((x.2 : Nat) : Int) 0
            have e : decide (((x.2 : Nat) : Int) = 0) = decide (x.1 = 0 ∧ x.2 = 0) := by
              rw [decide_eq_decide]; have := of_decide_eq_true hk; omega
            rw [e] at z; exact z
          · have := of_decide_eq_false hk
            exact decide_eq_false (by omega)
          · have hc := of_decide_eq_true h
            rw [if_pos hc] at e1
            rw [← e1] at h1
            cases h1
            exact bs_ret (nm 7) rfl
          · have hc := of_decide_eq_false h
            rw [if_neg hc] at e1
            have hgo : ∀ a ∈ List.range k, (taGo s x a).1 < s.length ∧ (taGo s x a).2 < s.length := fun a ha => ⟨Ts.go hxl.1 (List.mem_range.mp ha), Ts.go hxl.2 (List.mem_range.mp ha)⟩
            have hwd := atP_wl J x
            obtain ⟨F1, F2⟩ := taFold (s := s) (x := x) (wd := atP st.1 x) (List.range k) st J hwd hgo
            refine bs_fold (List.range k) dN st (taStep s (atP st.1 x) x) (fun t => [.val (dTT s), .val (dN st0), .own (.dT (taD t.1)), .val (.list (now.map pD)), .own (.lst (t.2.map pD)), .val (dN x.1), .val (dN x.2), .val (dT (atP st.1 x)), .any, .any]) (fun i t => TaJ s.length t ∧ (atP st.1 x).length ≤ t.1.length) (is_rng rfl T.b_range (ep_lenN (d := dT (rw' s 0)) rfl T.b_len (EP.w (ep_ixT (nw 0) (EP.w ep_int) (j := 0) rfl (get_dT Ts.pos))) rfl (by rw [List.length_map]; exact Ts.row _ (rw_mem Ts.pos))) (by have := Ts.kle; omega)) (by (first | exact GmW.refl _ | (repeat' (first | exact True.intro | refine ⟨?_, ?_⟩ | exact SlW.refl _ | exact SlW.any _ | exact SlW.frz _)))) ⟨J, hwd⟩ (fun i a t ha hI => ?_) fun hI => ?_
            · have ham := List.mem_of_getElem? ha
              have hak := List.mem_range.mp ham
              have hS := hI.1.step (s := s) hI.2 (hgo a ham)
              have hr1 := Ts.row _ (rw_mem hxl.1)
              have hr2 := Ts.row _ (rw_mem hxl.2)
              have htl := hI.1.len
              have htl2 := hI.1.ll
              have h25 : s.length * s.length ≤ 25 := Nat.mul_le_mul hn5 hn5
              refine ⟨⟨hS.1, by have := hS.2; have := hI.2; omega⟩, _, _, gn 8, ?_⟩
              refine bs_set 9 (s := .val (pD (taGo s x a))) (EP.sp (ep_tup0 (ds := [dN (go s x.1 a), dN (go s x.2 a)]) (ap_cons (ep_ixT (EP.w (ep_ixT (nw 0) (nw 5) rfl (get_dT hxl.1))) (nw 8) rfl (get_dN (by omega))) (ap_cons (ep_ixT (EP.w (ep_ixT (nw 0) (nw 6) rfl (get_dT hxl.2))) (nw 8) rfl (get_dN (by omega))) ap_nil)) sz2)) ?_
              refine bx_cons (sx_if (tp_dinT (s := 2) (i := pI (taGo s x a)) rfl (.inl rfl) rfl (nm 9)) (fun h => ?_) (fun h => ?_))
              · rw [lookD_ta] at h
                have hn : ¬ taGo s x a ∈ keysP t.1 := fun q => by rw [if_pos q] at h; cases h
                refine bx_cons (sx_dputT (s := 2) (i := pI (taGo s x a)) rfl (.inl rfl) rfl (d := dT (atP st.1 x ++ [a + 1])) (EP.is (ep_tup (ap_star (nw 7) rfl (ap_cons (ep_addN (y := 1) (nw 8) (EP.w ep_int)) ap_nil)) ?_) (by simp)) (nm 9) (by rw [lookD_ta, if_neg hn]) (by unfold taD; rw [List.length_map]; omega) ?_)
                · have := hI.2
                  refine szL ?_
                  rw [List.length_append, List.length_map]; simp; omega
                · refine bs_app 4 (nm 9) (bx_nil (bx_nil ?_))
                  simp only [taStep, hn, if_false, List.map_append, taD]
                  (first | exact GmW.refl _ | (repeat' (first | exact True.intro | refine ⟨?_, ?_⟩ | exact SlW.refl _ | exact SlW.any _ | exact SlW.frz _)))
              · rw [lookD_ta] at h
                have hn : taGo s x a ∈ keysP t.1 := Decidable.byContradiction fun q => by rw [if_neg q] at h; cases h
                refine bx_nil (bx_nil ?_)
                simp only [taStep, hn, if_true]
                (first | exact GmW.refl _ | (repeat' (first | exact True.intro | refine ⟨?_, ?_⟩ | exact SlW.refl _ | exact SlW.any _ | exact SlW.frz _)))
            · refine bx_nil ⟨taRow s k x st, e1, F1, fun y hy => F2 y (hs y hy), ?_⟩
              unfold taRow
              (first | exact GmW.refl _ | (repeat' (first | exact True.intro | refine ⟨?_, ?_⟩ | exact SlW.refl _ | exact SlW.any _ | exact SlW.frz _)))
        · obtain ⟨st, e1, J, hs, hg2⟩ := hW
          rw [List.length_map, List.drop_length, taNow] at e1
          rw [← e1] at h1
          refine bx_weak hg2 ?_
          refine bx_weak (Γ' := [.val (dTT s), .val (dN st0), .own (.dT (taD st.1)), .any, .val (.list (st.2.map pD)), .any, .any, .any, .any, .any]) (by (first | exact GmW.refl _ | (repeat' (first | exact True.intro | refine ⟨?_, ?_⟩ | exact SlW.refl _ | exact SlW.any _ | exact SlW.frz _)))) ?_
          exact bs_set 3 (EP.sp (nm 4)) (bx_nil ⟨m, Nat.lt_succ_self m, st, h1, J, by (first | exact GmW.refl _ | (repeat' (first | exact True.intro | refine ⟨?_, ?_⟩ | exact SlW.refl _ | exact SlW.any _ | exact SlW.frz _)))⟩)
    · cases m with
      | zero => cases h1
      | succ m =>
        have he : now.isEmpty = true := by simpa using hk
        rw [taLoop] at h1
        simp only [he, if_true, Option.some.injEq] at h1
        subst h1
        exact bs_ret ep_none rfl
end
end GL
end
/-! ## D11 -/
section
namespace GL
open PySem PySem.Spec PyProof.Rows L2
instance (l : List Nat) : Decidable (Tell l) := by unfold Tell; infer_instance
theorem tell_all : ∀ i < 4, ∀ o ∈ tellI i, Tell o ∧ o.length = i + 1 := by decide +kernel
def TailP (s : List (List Nat)) (k st : Nat) (r : Option (List Nat)) : Prop := ∃ n, taLoop s k n ([((0, st), [])], [(0, st)]) = some r
def KeepP (m : D) (k : Nat) (S' : List (List Nat)) (b : Bool) : Prop := ∃ s e E' fd, ∃ rs : Nat → Option (List Nat), Mach m s e ∧ Tb s k ∧ LeastP s e S' E' ∧ Tb S' k ∧ BackP S' fd ∧ (∀ st, 1 ≤ st → st < S'.length → TailP S' k st (rs st)) ∧ b = (decide (fd.length = S'.length) && (List.range (S'.length - 1)).all fun i => (rs (1 + i)).isNone)
def colsF (s : List (List Nat)) (k : Nat) : List (List Nat) := (List.range k).map fun a => s.map fun r => r.getD a 0
theorem num_length {α : Type} [DecidableEq α] (l : List α) : (numOf l).length = l.length := by
  have := (num_len l ([], [])).1
  unfold numOf; rw [this]; simp
section
variable {P : Program} {w : World} {K : PySem.W.Frag} {mg : Str → Option Value} {base : Heap}
/-! ### keeps_tails -/
def R_keeps_tails (ds : List D) (d : D) : Prop := ∃ m k S' b, KeepP m k S' b ∧ ds = [m] ∧ d = .bool b
theorem p_keeps_tails (T : Tx K mg) : Pm P w K mg base 7 "keeps_tails" ["machine"] (spD R_keeps_tails) := by
  refine T.d_keeps_tails.pmD sc_keeps_tails (fun ds d h => ?_) fun ds d h => ?_
  · obtain ⟨_, _, _, _, _, rfl, _⟩ := h; rfl
  · obtain ⟨m, k, S', b, ⟨s, e, E', fd, rs, hm, Ts, hL, Ts', hb, ht, rfl⟩, rfl, rfl⟩ := h
    have hle := Ts'.le
    refine bs_set 1 (EP.sp (ep_ixT (d := dTT S') (EP.w (ep_call ((p_least T).fd (by decide)) rfl (ap_cons (nm 0) ap_nil) ⟨m, s, k, e, S', E', hm, Ts, hL, rfl, rfl⟩)) (EP.w ep_int) (j := 0) rfl rfl)) ?_
    refine bs_ifr (tp_not (tp_val (ep_call ((p_leads_back T).fd (by decide)) rfl (ap_cons (nm 0) ap_nil) ⟨m, s, k, e, S', E', fd, hm, Ts, hL, Ts', hb, rfl, rfl⟩))) (fun h => ?_) (fun h => ?_)
    · rw [Bool.not_eq_true'] at h
      refine bs_ret ep_bool ?_
      show _ = _
      rw [h, Bool.false_and]
    · rw [Bool.not_eq_false'] at h
      refine bs_ret (EP.is (ep_all (bs := (List.range (S'.length - 1)).map fun i => (rs (1 + i)).isNone) rfl T.b_all (EW.is (EP.w (EO.ep (eo_map [("state", 2)] (List.range (S'.length - 1)) (fun i => dN (1 + i)) (fun i => .bool (rs (1 + i)).isNone) (IS.w (is_rng2 (m := 1) rfl T.b_range ep_int (ep_lenN (x := S'.length) rfl T.b_len (nw 1) rfl (by rw [List.length_map])) (by omega))) (fun i hi => ⟨_, gn 2, ?_⟩) (by simp; omega)))) ?_)) ?_) rfl
      · have hi' := List.mem_range.mp hi
        obtain ⟨n, hn⟩ := ht (1 + i) (by omega) (by omega)
        refine EP.is (ep_isN (EP.w (ep_call (d := match rs (1 + i) with | none => .none | some wd => dT wd) (((p_tail_of T).fd (by decide)).blk _) rfl (ap_cons (nm 1) (ap_cons (nm 2) ap_nil)) ⟨S', k, 1 + i, n, rs (1 + i), Ts', by omega, hn, rfl, rfl⟩))) ?_
        cases rs (1 + i) <;> rfl
      · rw [List.map_map]; rfl
      · rw [h, Bool.true_and, List.all_map]; rfl
/-! ### coarsest, where it can -/
def R_coarsest (ds : List D) (d : D) : Prop := ∃ m k S' S2 E2, KeepP m k S' true ∧ LeastP S' [0] S2 E2 ∧ Tb S2 k ∧ ds = [m] ∧ d = dT (numOf (colsF S2 k))
theorem p_coarsest (T : Tx K mg) : Pm P w K mg base 8 "coarsest" ["machine"] (spD R_coarsest) := by
  refine T.d_coarsest.pmD sc_coarsest (fun ds d h => ?_) fun ds d h => ?_
  · obtain ⟨_, _, _, _, _, _, _, _, rfl, _⟩ := h; rfl
  · obtain ⟨m, k, S', S2, E2, hK, hL2, T2, rfl, rfl⟩ := h
    have hkle := T2.kle
    refine bs_ifr (tp_not (tp_val (ep_call ((p_keeps_tails T).fd (by decide)) rfl (ap_cons (nm 0) ap_nil) ⟨m, k, S', true, hK, rfl, rfl⟩))) (fun h => by cases h) (fun h => ?_)
    obtain ⟨s, e, E', fd, rs, hm, Ts, hL, Ts', hb, ht, hbb⟩ := hK
    refine bs_set 1 (EP.sp (ep_ixT (d := dTT S2) (EP.w (ep_call ((p_returns_machine T).fd (by decide)) rfl (ap_cons (nm 0) ap_nil) ⟨m, s, k, e, S', E', S2, E2, hm, Ts, hL, Ts', hL2, rfl, rfl⟩)) (EP.w ep_int) (j := 0) rfl rfl)) ?_
    refine bs_ret (ep_call ((p_numbered T).fd (by decide)) rfl (ap_cons (EO.ep (eo_map [("letter", 3)] (List.range k) dN (fun a => dT (S2.map fun r => r.getD a 0)) (IS.w (is_rng rfl T.b_range (ep_lenN (d := dT (rw' S2 0)) rfl T.b_len (EP.w (ep_ixT (nw 1) (EP.w ep_int) (j := 0) rfl (get_dT T2.pos))) rfl (by rw [List.length_map]; exact T2.row _ (rw_mem T2.pos))) (by omega))) (fun a ha => ⟨_, gn 3, EP.is (ep_tupleOf rfl T.b_tuple (EP.w (EO.ep (eo_map [("row", 2)] S2 dT (fun r => dN (r.getD a 0)) (iw_seq (nm 1) rfl) (fun r hr => ⟨_, gn 2, ep_ixT (nw 2) (nw 3) rfl (get_dN (by have := List.mem_range.mp ha; rw [T2.row r hr]; exact this))⟩) (by have := T2.le; omega))))) ?_⟩) (by simp; omega))) ap_nil) ⟨_, _, kdT true, colsF S2 k, by unfold colsF; simp; omega, ?_, rfl⟩) rfl
    · rw [dT, List.map_map]; rfl
    · unfold colsF; rw [List.map_map]; rfl
/-! ### good_tellings -/
def goodF (k : Nat) (most : List Nat) : List (List Nat) := (tellI (k - 1)).filter fun o => finF o most
def R_good_tellings (ds : List D) (d : D) : Prop := ∃ m k S', ds = [m] ∧ ((KeepP m k S' false ∧ d = .list []) ∨ (KeepP m k S' true ∧ ∃ S2 E2, LeastP S' [0] S2 E2 ∧ Tb S2 k ∧ Tell (numOf (colsF S2 k)) ∧ d = .list ((goodF k (numOf (colsF S2 k))).map dT)))
theorem p_good_tellings (T : Tx K mg) : Pm P w K mg base 9 "good_tellings" ["machine"] (spD R_good_tellings) := by
  refine T.d_good_tellings.pmD sc_good_tellings (fun ds d h => ?_) fun ds d h => ?_
  · obtain ⟨_, _, _, rfl, _⟩ := h; rfl
  · obtain ⟨m, k, S', rfl, ⟨hK, rfl⟩ | ⟨hK, S2, E2, hL2, T2, hT, rfl⟩⟩ := h
    · refine bs_ifr (tp_not (tp_val (ep_call ((p_keeps_tails T).fd (by decide)) rfl (ap_cons (nm 0) ap_nil) ⟨m, k, S', false, hK, rfl, rfl⟩))) (fun h => ?_) (fun h => by cases h)
      exact bs_ret (EO.ep (eo_lst (ds := []) ap_nil sz0)) rfl
    · refine bs_ifr (tp_not (tp_val (ep_call ((p_keeps_tails T).fd (by decide)) rfl (ap_cons (nm 0) ap_nil) ⟨m, k, S', true, hK, rfl, rfl⟩))) (fun h => by cases h) (fun h => ?_)
      have hk1 := T2.kpos
      have hk2 := T2.kle
      have hlen : (numOf (colsF S2 k)).length = k := by rw [num_length]; unfold colsF; simp
      refine bs_set 1 (EP.sp (ep_call ((p_coarsest T).fd (by decide)) rfl (ap_cons (nm 0) ap_nil) ⟨m, k, S', S2, E2, hK, hL2, T2, rfl, rfl⟩)) ?_
      refine bs_ret (EO.ep (eo_fil [("own", 2)] (tellI (k - 1)) dT (fun o => finF o (numOf (colsF S2 k))) dT (iw_list (EP.w (ep_call ((p_tellings T).fd (by decide)) rfl (ap_cons (ep_lenN (x := k) rfl T.b_len (nw 1) rfl (by rw [List.length_map, hlen])) ap_nil) ⟨k - 1, by omega, by rw [show k - 1 + 1 = k from by omega], rfl⟩))) (fun o ho => ⟨_, gn 2, tp_val (ep_call (((p_is_finer T).fd (by decide)).blk _) rfl (ap_cons (nm 2) (ap_cons (nm 1) ap_nil)) ?_), fun _ => nm 2⟩) ?_)) rfl
      · obtain ⟨h1, h2⟩ := tell_all (k - 1) (by omega) o ho
        exact ⟨false, false, o, _, h1, hT, by omega, rfl, rfl⟩
      · have := (tell_small (k - 1) (by omega)).1; omega
end
end GL
end
/-! ## E1 -/
section
namespace GL
open PySem PySem.Spec PyProof.Rows L2
section
variable {P : Program} {w : World} {K : PySem.W.Frag} {mg : Str → Option Value} {base : Heap}
/-! ### _law_lists -/
mutual
def D.toLst : D → D
  | .list xs => .list (D.toLsts xs)
  | .tup _ xs => .list (D.toLsts xs)
  | x => x
def D.toLsts : List D → List D
  | [] => []
  | x :: xs => D.toLst x :: D.toLsts xs
end
theorem toLsts_map : ∀ xs : List D, D.toLsts xs = xs.map D.toLst
  | [] => rfl
  | x :: xs => by rw [D.toLsts, toLsts_map xs]; rfl
theorem toLst_items {d : D} {xs : List D} (h : d.items = some xs) : d.toLst = .list (xs.map D.toLst) := by
  rcases items_cases h with rfl | ⟨k, rfl⟩ <;> simp [D.toLst, toLsts_map]
theorem toLst_none {d : D} (h : d.items = Option.none) : d.toLst = d := by cases d <;> first | rfl | cases h
def R_lists (n : Nat) (ds : List D) (d : D) : Prop := ∃ x, ds = [x] ∧ x.wd n ∧ d = x.toLst
theorem p_lists (T : Tx K mg) : ∀ n, Pm P w K mg base (n + 1) "_law_lists" ["_law_matter"] (spD (R_lists n))
  | 0 => by
    refine T.d_l_lists.pmD sc_l_lists (fun ds d h => ?_) fun ds d h => ?_
    · obtain ⟨x, rfl, _⟩ := h; rfl
    · obtain ⟨x, rfl, hx, rfl⟩ := h
      refine bs_ret (ep_if (tp_val (ep_isiLT rfl T.b_isinstance rfl T.b_list rfl T.b_tuple (nw 0) rfl)) (fun h => ?_) (fun h => nm 0)) (toLst_none hx).symm
      rw [isLT_items, hx] at h; cases h
  | n + 1 => by
    have ih := p_lists T n
    refine T.d_l_lists.pmD sc_l_lists (fun ds d h => ?_) fun ds d h => ?_
    · obtain ⟨x, rfl, _⟩ := h; rfl
    · obtain ⟨x, rfl, hx, rfl⟩ := h
      refine bs_ret (d := x.toLst) (ep_if (tp_val (ep_isiLT rfl T.b_isinstance rfl T.b_list rfl T.b_tuple (nw 0) rfl)) (fun h => ?_) (fun h => ?_)) rfl
      · rw [isLT_items] at h
        rcases hx with hx | ⟨xs, hx, hl, hw⟩
        · rw [hx] at h; cases h
        · refine EP.is (EO.ep (eo_map [("_law_bit", 1)] xs id D.toLst ?_ (fun y hy => ⟨_, gn 1, ?_⟩) (by omega))) (toLst_items hx).symm
          · rw [List.map_id]; exact iw_seq (nm 0) hx
          · exact ep_call ((ih.fd (Nat.le_refl _)).blk _) rfl (ap_cons (nm 1) ap_nil) ⟨y, rfl, hw y hy, rfl⟩
      · rw [isLT_items] at h
        have hx' : x.items = Option.none := by cases q : x.items with | none => rfl | some _ => rw [q] at h; cases h
        exact EP.is (nm 0) (toLst_none hx').symm
/-! ### _law_same, where both are alike -/
def D.wk : D → Prop := fun d => d.fit 10
def R_same (n : Nat) (ds : List D) (d : D) : Prop := ∃ x, ds = [x, x] ∧ x.wd n ∧ x.fit n ∧ d = .bool true
theorem fit_items {n : Nat} {d : D} {xs : List D} (h : d.items = some xs) (hf : d.fit (n + 1)) : ∀ x ∈ xs, x.fit n := by
  have aux : ∀ ys : List D, PyData.canLayAll0 (D.pyAll ys) = true → PyData.depthAll (D.pyAll ys) ≤ n → ∀ y ∈ ys, y.fit n := by
    intro ys
    induction ys with
    | nil => intro _ _ y hy; cases hy
    | cons z ys ih =>
      intro h1 h2 y hy
      simp only [D.pyAll, PyData.canLayAll0, PyData.depthAll, Bool.and_eq_true] at h1 h2
      rcases List.mem_cons.mp hy with rfl | hy
      · exact ⟨h1.1, by omega⟩
      · exact ih h1.2 (by omega) y hy
  rcases items_cases h with rfl | ⟨k, rfl⟩
  · obtain ⟨h1, h2⟩ := hf
    simp only [D.py, PyData.canLay0, PyData.depth] at h1 h2
    exact aux xs h1 (by omega)
  · obtain ⟨h1, h2⟩ := hf
    simp only [D.py, PyData.canLay0, PyData.depth] at h1 h2
    exact aux xs h1 (by omega)
theorem eq_refl_atom {d : D} (h : d.items = Option.none) : d.eq d = true := by
  cases d with
  | none => decide
  | bool b => show PyData.eqv _ _ = true; simp [D.py, PyData.eqv]
  | int i => show PyData.eqv _ _ = true; simp [D.py, PyData.eqv]
  | str s => show PyData.eqv _ _ = true; simp [D.py, PyData.eqv]
  | list _ => cases h
  | tup _ _ => cases h
section
variable {k : Nat}
theorem same_atom (T : Tx K mg) {x : D} (hx : x.items = Option.none) (hok : x.ok) (N : List Str) : BX (c0 P w K mg base n_l_same s_l_same k) (defBody s_l_same) (startG n_l_same [x, x]) { rt := fun _ r => r = .bool true, nx := fun _ => D.bool true = .none } := by
  refine bs_ifr (tp_val (ep_isiLT rfl T.b_isinstance rfl T.b_list rfl T.b_tuple (nw 1) rfl)) (fun h => ?_) (fun h => ?_)
  · rw [isLT_items, hx] at h; cases h
  · refine bs_ifr (k := x.isNone || (x.isB || x.isS)) (WP.toT (wp_or2 (tp_isN (nw 1)) (fun _ => wp_or1 (tp_val (ep_isiBS rfl T.b_isinstance rfl T.b_bool rfl T.b_str (nw 1) rfl))))) (fun h => ?_) (fun h => ?_)
    · refine bs_ret (EP.is (ep_and2 (k := true) (EP.is (ep_eq (nw 0) (nw 1) hok hok) (by rw [eq_refl_atom hx])) (fun _ => ep_and2 (k := true) (EP.is (ep_eqB (EP.w (ep_isBool rfl T.b_isinstance rfl T.b_bool (nw 0))) (EP.w (ep_isBool rfl T.b_isinstance rfl T.b_bool (nw 1)))) (by simp)) (fun _ => ep_one (d := .bool true) (EP.is (ep_eqB (EP.w (ep_isN (nw 0))) (EP.w (ep_isN (nw 1)))) (by simp))))) rfl) rfl
    · have hi : ∃ i, x = .int i := by
        cases x with
        | int i => exact ⟨i, rfl⟩
        | none => simp [D.isNone] at h
        | bool _ => simp [D.isNone, D.isB] at h
        | str _ => simp [D.isNone, D.isB, D.isS] at h
        | list _ => cases hx
        | tup _ _ => cases hx
      obtain ⟨i, rfl⟩ := hi
      refine bs_ret (EP.is (ep_and2 (ep_isInt rfl T.b_isinstance rfl T.b_int (nw 0)) (fun _ => ep_and2 (ep_not (ep_isBool rfl T.b_isinstance rfl T.b_bool (nw 0))) (fun _ => ep_one (d := .bool true) (EP.is (ep_eqI (nw 0) (nw 1)) (by simp))))) (by simp [D.isI, D.isB])) rfl
end
theorem ep_zipself (l : List D) : zipD l l = l.map fun x => D.tup false [x, x] := by
  unfold zipD
  induction l with
  | nil => rfl
  | cons x l ih => rw [List.zip_cons_cons, List.map_cons, List.map_cons, ih]
theorem p_same (T : Tx K mg) : ∀ n, n ≤ 60 → Pm P w K mg base (n + 1) "_law_same" ["_law_got", "_law_due"] (spD (R_same n))
  | 0, _ => by
    refine T.d_l_same.pmD sc_l_same (fun ds d h => ?_) fun ds d h => ?_
    · obtain ⟨x, rfl, _⟩ := h; rfl
    · obtain ⟨x, rfl, hx, hf, rfl⟩ := h
      exact same_atom T hx (hf.ok (by omega)) []
  | n + 1, hn => by
    have ih := p_same T n (by omega)
    refine T.d_l_same.pmD sc_l_same (fun ds d h => ?_) fun ds d h => ?_
    · obtain ⟨x, rfl, _⟩ := h; rfl
    · obtain ⟨x, rfl, hx, hf, rfl⟩ := h
      rcases hx with hx | ⟨xs, hx, hl, hw⟩
      · exact same_atom T hx (hf.ok (by omega)) []
      · have hfi := fit_items hx hf
        refine bs_ifr (k := true) (TP.is (tp_val (ep_isiLT rfl T.b_isinstance rfl T.b_list rfl T.b_tuple (nw 1) rfl)) (by rw [isLT_items, hx]; rfl)) (fun _ => ?_) (fun h => by cases h)
        refine bx_cons (sx_if (WP.toT (wp_or2 (tp_neB (EP.w (ep_isList rfl T.b_isinstance rfl T.b_list (nw 0))) (EP.w (ep_isList rfl T.b_isinstance rfl T.b_list (nw 1)))) (fun _ => wp_or1 (tp_neB (EP.w (ep_isTuple rfl T.b_isinstance rfl T.b_tuple (nw 0))) (EP.w (ep_isTuple rfl T.b_isinstance rfl T.b_tuple (nw 1))))))) (fun h => ?_) (fun h => bx_nil ?_))
        · exfalso; simp at h
        · refine bs_ret (d := .bool true) (EP.is (ep_and2 (ep_eqI (EP.w (ep_len rfl T.b_len (nw 0) hx)) (EP.w (ep_len rfl T.b_len (nw 1) hx))) (fun _ => ep_one (ep_all (bs := xs.map fun _ => true) rfl T.b_all (EW.is (EP.w (EO.ep (eo_map [("_law_mine", 2), ("_law_its", 3)] xs (fun x => D.tup false [x, x]) (fun _ => .bool true) (IW.is (iw_zip rfl T.b_zip (nw 0) (nw 1) ?_) (ep_zipself xs)) (fun y hy => ⟨_, gn2 2 3, ?_⟩) (by omega)))) ?_)))) ?_) rfl
          · rcases items_cases hx with rfl | ⟨k, rfl⟩
            · exact .inl ⟨rfl, rfl⟩
            · exact .inr ⟨k, k, rfl, rfl⟩
          · exact ep_call ((ih.fd (Nat.le_refl _)).blk _) rfl (ap_cons (nm 2) (ap_cons (nm 3) ap_nil)) ⟨y, rfl, hw y hy, hfi y hy, rfl⟩
          · rw [List.map_map]; rfl
          · simp
end
end GL
end
/-! ## E2 -/
section
namespace GL
open PySem PySem.Spec PyProof.Rows L2
section
variable {P : Program} {w : World} {K : PySem.W.Frag} {mg : Str → Option Value} {base : Heap}
/-! ### _law_go -/
def goF (s : List (List Nat)) (st : Nat) (w : List Nat) : Nat := w.foldl (fun x a => go s x (a - 1)) st
def R_go (ds : List D) (d : D) : Prop := ∃ s k st w, Tb s k ∧ st < s.length ∧ w.length ≤ 1000 ∧ (∀ a ∈ w, 1 ≤ a ∧ a ≤ k) ∧ ds = [dTT s, dN st, dL w] ∧ d = dN (goF s st w)
theorem p_go (T : Tx K mg) : Pm P w K mg base 1 "_law_go" ["_law_steps_so", "_law_state_so", "_law_word_so"] (spD R_go) := by
  refine T.d_l_go.pmD sc_l_go (fun ds d h => ?_) fun ds d h => ?_
  · obtain ⟨_, _, _, _, _, _, _, _, rfl, _⟩ := h; rfl
  · obtain ⟨s, k, st, wd, Ts, hst, hl, hw, rfl, rfl⟩ := h
    refine bs_fold wd dN st (fun x a => go s x (a - 1)) (fun x => [.val (dTT s), .val (dN x), .val (dL wd), .any]) (fun i x => x < s.length) (is_list (nm 2)) (by (first | exact GmW.refl _ | (repeat' (first | exact True.intro | refine ⟨?_, ?_⟩ | exact SlW.refl _ | exact SlW.any _ | exact SlW.frz _)))) hst (fun i a x ha hI => ?_) fun hI => bs_ret (nm 1) rfl
    have h1 := hw a (List.mem_of_getElem? ha)
    have h2 := Ts.row _ (rw_mem hI)
    refine ⟨Ts.go hI (by omega), _, _, gn 3, ?_⟩
    exact bs_set 1 (EP.sp (ep_ixT (EP.w (ep_ixT (nw 0) (nw 1) rfl (get_dT hI))) (EP.w (ep_subN (y := 1) (nw 3) (EP.w ep_int) h1.1)) rfl (get_dN (by omega)))) (bx_nil (by (first | exact GmW.refl _ | (repeat' (first | exact True.intro | refine ⟨?_, ?_⟩ | exact SlW.refl _ | exact SlW.any _ | exact SlW.frz _)))))
/-! ### _law_finer -/
def finB2 (l1 l2 : List Nat) (k n : Nat) : Bool := decide (l1.getD k 0 = l1.getD n 0) && !decide (l2.getD k 0 = l2.getD n 0)
def finL (l1 l2 : List Nat) : Bool := (List.range l1.length).all fun k => (List.range k).all fun n => !finB2 l1 l2 k n
def R_finer (ds : List D) (d : D) : Prop := ∃ l1 l2, l1.length ≤ 100 ∧ l1.length = l2.length ∧ ds = [dT l1, dT l2] ∧ d = .bool (finL l1 l2)
theorem p_finer (T : Tx K mg) : Pm P w K mg base 1 "_law_finer" ["_law_one_so", "_law_two_so"] (spD R_finer) := by
  refine T.d_l_finer.pmD sc_l_finer (fun ds d h => ?_) fun ds d h => ?_
  · obtain ⟨_, _, _, _, rfl, _⟩ := h; rfl
  · obtain ⟨l1, l2, hz, hl, rfl, rfl⟩ := h
    refine bx_cons (sx_for (is_rng (n := l1.length) rfl T.b_range (ep_lenN rfl T.b_len (nw 0) rfl (by rw [List.length_map])) (by omega)) (fun i Γ' => GmW Γ' [.val (dT l1), .val (dT l2), .any, .any] ∧ ∀ k < i, (List.range k).all (fun n => !finB2 l1 l2 k n) = true) ⟨by (first | exact GmW.refl _ | (repeat' (first | exact True.intro | refine ⟨?_, ?_⟩ | exact SlW.refl _ | exact SlW.any _ | exact SlW.frz _))), fun j hj => by omega⟩ (fun i d Γ' hd hW => ?_) fun Γ' hW => ?_)
    · rw [List.getElem?_map] at hd
      obtain ⟨q, hq, rfl⟩ := Option.map_eq_some_iff.mp hd
      obtain ⟨hi, e⟩ := List.getElem?_eq_some_iff.mp hq
      rw [List.getElem_range] at e
      subst e
      rw [List.length_range] at hi
      refine ⟨_, _, _, hW.1, gn 2, ?_⟩
      refine bx_cons (sx_for (is_rng (n := i) rfl T.b_range (nm 2) (by omega)) (fun j Γ' => GmW Γ' [.val (dT l1), .val (dT l2), .val (dN i), .any] ∧ ∀ n < j, finB2 l1 l2 i n = false) ⟨by (first | exact GmW.refl _ | (repeat' (first | exact True.intro | refine ⟨?_, ?_⟩ | exact SlW.refl _ | exact SlW.any _ | exact SlW.frz _))), fun j hj => by omega⟩ (fun j d Γ' hd hW2 => ?_) fun Γ' hW2 => ?_)
      · rw [List.getElem?_map] at hd
        obtain ⟨q, hq, rfl⟩ := Option.map_eq_some_iff.mp hd
        obtain ⟨hj, e⟩ := List.getElem?_eq_some_iff.mp hq
        rw [List.getElem_range] at e
        subst e
        rw [List.length_range] at hj
        refine ⟨_, _, _, hW2.1, gn 3, ?_⟩
        refine bx_cons (sx_if (WP.toT (wp_and2 (tp_eqN (EP.w (ep_ixT (nw 0) (nw 2) rfl (get_dN hi))) (EP.w (ep_ixT (nw 0) (nw 3) rfl (get_dN (by omega))))) (fun _ => wp_and1 (tp_neN (EP.w (ep_ixT (nw 1) (nw 2) rfl (get_dN (by omega)))) (EP.w (ep_ixT (nw 1) (nw 3) rfl (get_dN (by omega)))))))) (fun h => ?_) (fun h => bx_nil (bx_nil ⟨by (first | exact GmW.refl _ | (repeat' (first | exact True.intro | refine ⟨?_, ?_⟩ | exact SlW.refl _ | exact SlW.any _ | exact SlW.frz _))), fun n hn => ?_⟩)))
        · refine bs_ret ep_bool ?_
          show _ = _
          congr 1
          symm
          unfold finL
          rw [List.all_eq_false]
          refine ⟨i, List.mem_range.mpr hi, ?_⟩
          rw [Bool.not_eq_true, List.all_eq_false]
          exact ⟨j, List.mem_range.mpr hj, by unfold finB2; rw [h]; decide⟩
        · rcases Nat.lt_succ_iff_lt_or_eq.mp hn with hn | rfl
          · exact hW2.2 n hn
          · exact h
      · refine bx_nil ⟨by obtain ⟨g, _⟩ := hW2; exact GmW.trans g (by (first | exact GmW.refl _ | (repeat' (first | exact True.intro | refine ⟨?_, ?_⟩ | exact SlW.refl _ | exact SlW.any _ | exact SlW.frz _)))), fun k hk => ?_⟩
        rcases Nat.lt_succ_iff_lt_or_eq.mp hk with hk | rfl
        · exact hW.2 k hk
        · rw [List.all_eq_true]
          intro n hn
          rw [hW2.2 n (by rw [List.length_map, List.length_range]; exact List.mem_range.mp hn)]; rfl
    · refine bx_weak hW.1 (bs_ret ep_bool ?_)
      show _ = _
      congr 1
      symm
      unfold finL
      rw [List.all_eq_true]
      intro k hk
      exact hW.2 k (by rw [List.length_map, List.length_range]; exact List.mem_range.mp hk)
/-! ### _law_numbered -/
def knStep {α : Type} [DecidableEq α] (s : List α) (x : α) : List α := if x ∈ s then s else s ++ [x]
def knownF {α : Type} [DecidableEq α] (l : List α) : List α := l.foldl knStep []
def numL {α : Type} [DecidableEq α] (l : List α) : List Nat := l.map fun x => (knownF l).idxOf x
theorem kn_mem {α : Type} [DecidableEq α] : ∀ (l s : List α) (x : α), x ∈ l.foldl knStep s ↔ x ∈ s ∨ x ∈ l
  | [], s, x => by simp
  | a :: l, s, x => by
    rw [List.foldl_cons, kn_mem l, List.mem_cons]
    unfold knStep
    split
    · rename_i h
      constructor
      · rintro (h' | h')
        · exact .inl h'
        · exact .inr (.inr h')
      · rintro (h' | rfl | h')
        · exact .inl h'
        · exact .inl h
        · exact .inr h'
    · rw [List.mem_append, List.mem_singleton]
      constructor
      · rintro ((h' | h') | h')
        · exact .inl h'
        · exact .inr (.inl h')
        · exact .inr (.inr h')
      · rintro (h' | h' | h')
        · exact .inl (.inl h')
        · exact .inl (.inr h')
        · exact .inr h'
def R_lnum (ds : List D) (d : D) : Prop := ∃ (α : Type) (_ : DecidableEq α) (k : Kd α) (l : List α), l.length ≤ 1000 ∧ ds = [.list (l.map k.f)] ∧ d = dT (numL l)
theorem p_lnum (T : Tx K mg) : Pm P w K mg base 1 "_law_numbered" ["_law_row_so"] (spD R_lnum) := by
  refine T.d_l_numbered.pmD sc_l_numbered (fun ds d h => ?_) fun ds d h => ?_
  · obtain ⟨_, _, _, l, _, rfl, _⟩ := h; rfl
  · obtain ⟨α, _, kd, l, hl, rfl, rfl⟩ := h
    refine bs_set 1 (EO.sp (eo_lst (ds := []) ap_nil sz0)) ?_
    refine bs_fold l kd.f ([] : List α) knStep (fun s => [.val (.list (l.map kd.f)), .own (.lst (s.map kd.f)), .any]) (fun i s => s.length ≤ i) (is_list (nm 0)) (by (first | exact GmW.refl _ | (repeat' (first | exact True.intro | refine ⟨?_, ?_⟩ | exact SlW.refl _ | exact SlW.any _ | exact SlW.frz _)))) (Nat.le_refl _) (fun i x s hx hI => ?_) fun hI => ?_
    · have hi : i < l.length := (List.getElem?_eq_some_iff.mp hx).1
      refine ⟨?_, _, _, gn 2, ?_⟩
      · simp only [knStep]; split <;> (try simp) <;> omega
      · refine bx_cons (sx_if (tp_ninD (nw 2) (ow 1) (kd.ok _) (kd.oks _)) (fun h => ?_) (fun h => ?_))
        · rw [kd.any, Bool.not_eq_true', decide_eq_false_iff_not] at h
          refine bs_app 1 (nm 2) (bx_nil (bx_nil ?_))
          simp only [knStep, h, if_false, List.map_append]; (first | exact GmW.refl _ | (repeat' (first | exact True.intro | refine ⟨?_, ?_⟩ | exact SlW.refl _ | exact SlW.any _ | exact SlW.frz _)))
        · rw [kd.any, Bool.not_eq_false', decide_eq_true_eq] at h
          refine bx_nil (bx_nil ?_)
          simp only [knStep, h, if_true]; (first | exact GmW.refl _ | (repeat' (first | exact True.intro | refine ⟨?_, ?_⟩ | exact SlW.refl _ | exact SlW.any _ | exact SlW.frz _)))
    · refine bs_ret (ep_tupleOf rfl T.b_tuple (EP.w (EO.ep (eo_map [("_law_own", 2)] l kd.f (fun x => dN ((knownF l).idxOf x)) (iw_list (nw 0)) (fun x hx => ⟨_, gn 2, ep_idx kd (ow 1) (nw 2) ((kn_mem l [] x).mpr (.inr hx))⟩) (by omega))))) ?_
      show _ = _
      unfold numL dT; rw [List.map_map]; rfl
end
end GL
end
/-! ## E3 -/
section
namespace GL
open PySem PySem.Spec PyProof.Rows L2
theorem foldl_app {α β : Type} (f : α → List β) : ∀ (l : List α) (acc : List β), l.foldl (fun a x => a ++ f x) acc = acc ++ l.flatMap f
  | [], acc => by simp
  | x :: l, acc => by rw [List.foldl_cons, foldl_app f l, List.flatMap_cons, List.append_assoc]
theorem flat_map_dT {α : Type} (l : List α) (f : α → List (List Nat)) : (l.flatMap f).map dT = l.flatMap fun x => (f x).map dT := by rw [List.map_flatMap]
theorem letters_eq (l : List Nat) (t : Nat) : lettersF l t = ((List.range l.length).filter fun k => decide (l.getD k 0 = t)).map (1 + ·) := by
  unfold lettersF
  rw [List.filter_map]
  congr 1
  refine List.filter_congr fun k _ => ?_
  show decide (l.getD (1 + k - 1) 0 = t) = _
  rw [show 1 + k - 1 = k from by omega]
section
variable {P : Program} {w : World} {K : PySem.W.Frag} {mg : Str → Option Value} {base : Heap}
/-! ### _law_all_tellings -/
theorem p_all_tellings (T : Tx K mg) : Pm P w K mg base 1 "_law_all_tellings" ["_law_many_so"] (spD R_tellings) := by
  refine T.d_l_all_tellings.pmD sc_l_all_tellings (fun ds d h => ?_) fun ds d h => ?_
  · obtain ⟨_, _, rfl, _⟩ := h; rfl
  · obtain ⟨n, hn, rfl, rfl⟩ := h
    refine bs_set 1 (EO.sp (eo_lst (ds := [dT [0]]) (ap_cons (ep_tup (ap_cons ep_int ap_nil) sz1) ap_nil) sz1)) ?_
    refine bs_fold (List.range n) dN [[0]] (fun s _ => tellStep s) (fun s => [.val (dN (n + 1)), .val (.list (s.map dT)), .any, .any, .any, .any]) (fun i s => s = tellI i) (is_rng rfl T.b_range (ep_subN (x := n + 1) (y := 1) (nw 0) (EP.w ep_int) (by omega)) (by omega)) (by (first | exact GmW.refl _ | (repeat' (first | exact True.intro | refine ⟨?_, ?_⟩ | exact SlW.refl _ | exact SlW.any _ | exact SlW.frz _)))) rfl (fun i k s hx hI => ?_) fun hI => ?_
    · have hi : i < n := by have := (List.getElem?_eq_some_iff.mp hx).1; rwa [List.length_range] at this
      subst hI
      obtain ⟨h1, h2⟩ := tell_small i (by omega)
      refine ⟨rfl, _, _, gn 2, ?_⟩
      refine bs_set 3 (EO.sp (eo_lst (ds := []) ap_nil sz0)) ?_
      refine bs_fold (tellI i) dT ([] : List (List Nat)) (fun acc o => acc ++ (List.range (mxN o + 2)).map fun t => o ++ [t]) (fun acc => [.val (dN (n + 1)), .val (.list ((tellI i).map dT)), .any, .val (.list (acc.map dT)), .any, .any]) (fun j acc => acc.length ≤ 6 * j ∧ j ≤ 15) (is_list (nm 1)) (by (first | exact GmW.refl _ | (repeat' (first | exact True.intro | refine ⟨?_, ?_⟩ | exact SlW.refl _ | exact SlW.any _ | exact SlW.frz _)))) ⟨by simp, by omega⟩ (fun j o acc ho hI => ?_) fun hI => ?_
      · have hom := List.mem_of_getElem? ho
        have hj : j < (tellI i).length := (List.getElem?_eq_some_iff.mp ho).1
        obtain ⟨g1, g2, g3⟩ := h2 o hom
        have hll : (acc ++ (List.range (mxN o + 2)).map fun t => o ++ [t]).length ≤ 6 * (j + 1) := by
          have := hI.1; simp; omega
        refine ⟨⟨hll, by omega⟩, _, _, gn 4, ?_⟩
        refine bs_set 3 (EP.sp (ep_cat (nw 3) (EP.w (EO.ep (eo_map [("_law_k", 5)] (List.range (mxN o + 2)) dN (fun t => dT (o ++ [t])) (IS.w (is_rng rfl T.b_range (ep_addN (y := 2) (EP.w (ep_maxN rfl T.b_max (nw 4) g1)) (EP.w ep_int)) (by omega))) (fun t ht => ⟨_, gn 5, EP.is (ep_catT' (ys := [dN t]) (nw 4) (ep_tup (ap_cons (nm 5) ap_nil) sz1) (by simp) ?_) (by simp)⟩) ?_))) ?_)) (bx_nil ?_)
        · simp; omega
        · simp; omega
        · have := hI.1; have := hI.2; simp; omega
        · have e : (acc ++ (List.range (mxN o + 2)).map fun t => o ++ [t]).map dT = acc.map dT ++ (List.range (mxN o + 2)).map fun t => dT (o ++ [t]) := by
            rw [List.map_append, List.map_map]; rfl
          rw [e]
          (first | exact GmW.refl _ | (repeat' (first | exact True.intro | refine ⟨?_, ?_⟩ | exact SlW.refl _ | exact SlW.any _ | exact SlW.frz _)))
      · rw [foldl_app, List.nil_append]
        exact bs_set 1 (EP.sp (nm 3)) (bx_nil (by unfold tellStep; (first | exact GmW.refl _ | (repeat' (first | exact True.intro | refine ⟨?_, ?_⟩ | exact SlW.refl _ | exact SlW.any _ | exact SlW.frz _)))))
    · rw [List.length_range] at hI
      refine bs_ret (nm 1) ?_
      show _ = _; rw [hI]
/-! ### _law_spread -/
def R_lspread (ds : List D) (d : D) : Prop := ∃ l ts, okS l ts ∧ ds = [dT l, dL ts] ∧ d = .list ((spreadF l ts).map dT)
theorem p_lspread (T : Tx K mg) : Pm P w K mg base 1 "_law_spread" ["_law_telling_so", "_law_tokens_so"] (spD (fun ds d => ∃ b l ts, okS l ts ∧ ds = [dT l, dS b ts] ∧ d = .list ((spreadF l ts).map dT))) := by
  refine T.d_l_spread.pmD sc_l_spread (fun ds d h => ?_) fun ds d h => ?_
  · obtain ⟨_, _, _, _, rfl, _⟩ := h; rfl
  · obtain ⟨b, l, ts, ⟨hl, hts, hm⟩, rfl, rfl⟩ := h
    refine bs_set 2 (EO.sp (eo_lst (ds := [dT []]) (ap_cons (ep_tup ap_nil sz0) ap_nil) sz1)) ?_
    refine bs_fold ts dN [[]] (fun found t => found.flatMap fun w => (lettersF l t).map fun x => w ++ [x]) (fun s => [.val (dT l), .val (dS b ts), .val (.list (s.map dT)), .any, .any, .any, .any]) (fun i s => s.length ≤ 4 ^ i ∧ i ≤ ts.length ∧ ∀ w ∈ s, w.length = i) (is_seq (nm 1) dS_items) (by (first | exact GmW.refl _ | (repeat' (first | exact True.intro | refine ⟨?_, ?_⟩ | exact SlW.refl _ | exact SlW.any _ | exact SlW.frz _)))) ⟨by simp, by omega, by simp⟩ (fun i t s hx hI => ?_) fun hI => bs_ret (nm 2) rfl
    · have hi : i < ts.length := (List.getElem?_eq_some_iff.mp hx).1
      have hlen : (s.flatMap fun w => (lettersF l t).map fun x => w ++ [x]).length ≤ 4 ^ (i + 1) := by
        refine Nat.le_trans (flat_le s _ 4 fun x _ => by rw [List.length_map]; exact Nat.le_trans letters_len hl) ?_
        rw [Nat.pow_succ]; exact Nat.mul_le_mul_right _ hI.1
      have h46 : 4 ^ (i + 1) ≤ 4096 := Nat.le_trans (Nat.pow_le_pow_right (by decide) (show i + 1 ≤ 6 by omega)) (by decide)
      have hs46 : s.length ≤ 4096 := by
        have : 4 ^ i ≤ 4 ^ (i + 1) := Nat.pow_le_pow_right (by decide) (by omega)
        have := hI.1; omega
      refine ⟨⟨hlen, by omega, fun w hw => ?_⟩, _, _, gn 3, ?_⟩
      · obtain ⟨w', h1, h2⟩ := List.mem_flatMap.mp hw
        obtain ⟨x, _, rfl⟩ := List.mem_map.mp h2
        rw [List.length_append, hI.2.2 w' h1]; rfl
      refine bs_set 4 (EO.sp (eo_lst (ds := []) ap_nil sz0)) ?_
      refine bs_fold s dT ([] : List (List Nat)) (fun acc w => acc ++ (lettersF l t).map fun x => w ++ [x]) (fun acc => [.val (dT l), .val (dS b ts), .val (.list (s.map dT)), .val (dN t), .val (.list (acc.map dT)), .any, .any]) (fun j acc => acc.length ≤ 4 * j ∧ j ≤ s.length) (is_list (nm 2)) (by (first | exact GmW.refl _ | (repeat' (first | exact True.intro | refine ⟨?_, ?_⟩ | exact SlW.refl _ | exact SlW.any _ | exact SlW.frz _)))) ⟨by simp, by omega⟩ (fun j wd acc hw hJ => ?_) fun hJ => ?_
      · have hwm := List.mem_of_getElem? hw
        have hj : j < s.length := (List.getElem?_eq_some_iff.mp hw).1
        have hwl := hI.2.2 wd hwm
        have hle := letters_len (l := l) (t := t)
        refine ⟨⟨by have := hJ.1; simp; omega, by omega⟩, _, _, gn 5, ?_⟩
        refine bs_set 4 (EP.sp (ep_cat (nw 4) (EP.w (EO.ep (eo_fil [("_law_k", 6)] (List.range l.length) dN (fun k => decide (l.getD k 0 = t)) (fun k => dT (wd ++ [1 + k])) (IS.w (is_rng rfl T.b_range (ep_lenN rfl T.b_len (nw 0) rfl (by rw [List.length_map])) (by omega))) (fun k hk => ⟨_, gn 6, tp_eqN (EP.w (ep_ixT (nw 0) (nw 6) rfl (get_dN (List.mem_range.mp hk)))) (nw 3), fun _ => EP.is (ep_catT' (ys := [dN (1 + k)]) (nw 5) (ep_tup (ap_cons (EP.is (ep_addN (y := 1) (nw 6) (EP.w ep_int)) (by rw [Nat.add_comm])) ap_nil) sz1) (by simp) ?_) (by simp)⟩) ?_))) ?_)) (bx_nil ?_)
        · simp; omega
        · simp; omega
        · have e1 : ((List.range l.length).filter fun k => decide (l.getD k 0 = t)).length = (lettersF l t).length := by rw [letters_eq, List.length_map]
          have := hJ.1
          rw [List.length_map, List.length_map, e1]; omega
        · have e : (acc ++ (lettersF l t).map fun x => wd ++ [x]).map dT = acc.map dT ++ ((List.range l.length).filter fun k => decide (l.getD k 0 = t)).map fun k => dT (wd ++ [1 + k]) := by
            rw [List.map_append, List.map_map, letters_eq, List.map_map]; rfl
          rw [e]
          (first | exact GmW.refl _ | (repeat' (first | exact True.intro | refine ⟨?_, ?_⟩ | exact SlW.refl _ | exact SlW.any _ | exact SlW.frz _)))
      · rw [foldl_app, List.nil_append]
        exact bs_set 2 (EP.sp (nm 4)) (bx_nil (by (first | exact GmW.refl _ | (repeat' (first | exact True.intro | refine ⟨?_, ?_⟩ | exact SlW.refl _ | exact SlW.any _ | exact SlW.frz _)))))
/-! ### _law_backs -/
def lbStep (s : List (List Nat)) (fd : List Nat) : List Nat := (List.range s.length).filter fun i => decide (i = 0) || !((rw' s i).filter fun g => decide (g ∈ fd)).isEmpty
def lbF (s : List (List Nat)) : List Nat := (List.range s.length).foldl (fun fd _ => lbStep s fd) [0]
def R_lbacks (ds : List D) (d : D) : Prop := ∃ s k, Tb s k ∧ ds = [dTT s] ∧ d = dL (lbF s)
theorem p_lbacks (T : Tx K mg) : Pm P w K mg base 1 "_law_backs" ["_law_steps_so"] (spD R_lbacks) := by
  refine T.d_l_backs.pmD sc_l_backs (fun ds d h => ?_) fun ds d h => ?_
  · obtain ⟨_, _, _, rfl, _⟩ := h; rfl
  · obtain ⟨s, k, Ts, rfl, rfl⟩ := h
    have hle := Ts.le
    refine bs_set 1 (EO.sp (eo_lst (ds := [dN 0]) (ap_cons ep_int ap_nil) sz1)) ?_
    refine bs_fold (List.range s.length) dN [0] (fun fd _ => lbStep s fd) (fun fd => [.val (dTT s), .val (dL fd), .any, .any, .any]) (fun i fd => True) (is_rng rfl T.b_range (ep_lenN rfl T.b_len (nw 0) rfl (by rw [List.length_map])) (by omega)) (by (first | exact GmW.refl _ | (repeat' (first | exact True.intro | refine ⟨?_, ?_⟩ | exact SlW.refl _ | exact SlW.any _ | exact SlW.frz _)))) trivial (fun i q fd hx hI => ⟨trivial, _, _, gn 2, ?_⟩) fun hI => bs_ret (nm 1) rfl
    refine bs_lcC 1 [("_law_own", 4)] (lc_fil [("_law_own", 4)] (List.range s.length) dN (fun i => decide (i = 0) || !((rw' s i).filter fun g => decide (g ∈ fd)).isEmpty) dN (IS.w (is_rng rfl T.b_range (ep_lenN rfl T.b_len (nw 0) rfl (by rw [List.length_map])) (by omega))) (fun i hi => ⟨_, gn 4, WP.toT (wp_or2 (tp_eqN (y := 0) (nw 4) (EP.w ep_int)) (fun _ => wp_or1 (tp_neE kdN (EP.w (EO.ep (eo_fil [("_law_its", 3)] (rw' s i) dN (fun g => decide (g ∈ fd)) dN (iw_seq (ep_ixT (nw 0) (nw 4) rfl (get_dT (List.mem_range.mp hi))) rfl) (fun g hg => ⟨_, gn 3, tp_inN (nw 3) (nw 1), fun _ => nm 3⟩) ?_)))))), fun _ => nm 4⟩) (by simp; omega)) (bx_nil ?_)
    · have := Ts.row _ (rw_mem (List.mem_range.mp hi)); have := Ts.kle; omega
    · show GmW [_, _, _, _, _] _
      exact ⟨.refl _, .frz _, .any _, .any _, .any _, trivial⟩
/-! ### _law_nearer -/
def nrStep (s : List (List Nat)) (far : List Nat) : List Nat := (List.range s.length).map fun i => mnN (far.getD i 0 :: (rw' s i).map fun g => 1 + far.getD g 0)
def nr0 (s : List (List Nat)) : List Nat := (List.range s.length).map fun i => if i = 0 then 0 else 99
def farF (s : List (List Nat)) : List Nat := (List.range s.length).foldl (fun f _ => nrStep s f) (nr0 s)
def R_nearer (ds : List D) (d : D) : Prop := ∃ s k st a, Tb s k ∧ st < s.length ∧ a < k ∧ ds = [dTT s, dN st, dN a] ∧ d = .bool (decide ((farF s).getD (go s st a) 0 < (farF s).getD st 0))
theorem p_nearer (T : Tx K mg) : Pm P w K mg base 1 "_law_nearer" ["_law_steps_so", "_law_state_so", "_law_letter_so"] (spD R_nearer) := by
  refine T.d_l_nearer.pmD sc_l_nearer (fun ds d h => ?_) fun ds d h => ?_
  · obtain ⟨_, _, _, _, _, _, _, rfl, _⟩ := h; rfl
  · obtain ⟨s, k, st, a, Ts, hst, ha, rfl, rfl⟩ := h
    have hle := Ts.le
    refine bs_lcC 3 [("_law_own", 5)] (lc_map [("_law_own", 5)] (List.range s.length) dN (fun i => dN (if i = 0 then 0 else 99)) (IS.w (is_rng rfl T.b_range (ep_lenN rfl T.b_len (nw 0) rfl (by rw [List.length_map])) (by omega))) (fun i hi => ⟨_, gn 5, ep_if (tp_eqN (y := 0) (nw 5) (EP.w ep_int)) (fun h => ?_) (fun h => ?_)⟩) (by simp; omega)) ?_
    · rw [if_pos (of_decide_eq_true h)]; exact ep_int
    · rw [if_neg (of_decide_eq_false h)]; exact ep_int
    refine bs_fold (List.range s.length) dN (nr0 s) (fun f _ => nrStep s f) (fun f => [.val (dTT s), .val (dN st), .val (dN a), .val (dL f), .any, .any, .any]) (fun i f => f.length = s.length) (is_rng rfl T.b_range (ep_lenN rfl T.b_len (nw 0) rfl (by rw [List.length_map])) (by omega)) ?_ (by simp [nr0]) (fun i q f hx hI => ⟨by simp [nrStep], _, _, gn 4, ?_⟩) fun hI => ?_
    · show GmW [_, _, _, _, _, _, _] _
      have e : (nr0 s).map dN = (List.range s.length).map fun i => dN (if i = 0 then 0 else 99) := by unfold nr0; rw [List.map_map]; rfl
      unfold dL
      rw [e]
      exact ⟨.refl _, .refl _, .refl _, .frz _, .any _, .any _, .any _, trivial⟩
    · refine bs_lcC 3 [("_law_own", 5)] (lc_map [("_law_own", 5)] (List.range s.length) dN (fun i => dN (mnN (f.getD i 0 :: (rw' s i).map fun g => 1 + f.getD g 0))) (IS.w (is_rng rfl T.b_range (ep_lenN rfl T.b_len (nw 0) rfl (by rw [List.length_map])) (by omega))) (fun i hi => ⟨_, gn 5, ?_⟩) (by simp; omega)) (bx_nil ?_)
      · have hi' := List.mem_range.mp hi
        have hr := Ts.row _ (rw_mem hi')
        have hk := Ts.kle
        refine ep_minN (l := f.getD i 0 :: (rw' s i).map fun g => 1 + f.getD g 0) rfl T.b_min (EW.is (EP.w (ep_cat (xs := [dN (f.getD i 0)]) (EP.w (EO.ep (eo_lst (ap_cons (ep_ixL (nw 3) (nw 5) rfl (get_dN (by omega))) ap_nil) sz1))) (EP.w (EO.ep (eo_map [("_law_its", 6)] (rw' s i) dN (fun g => dN (1 + f.getD g 0)) (iw_seq (ep_ixT (nw 0) (nw 5) rfl (get_dT hi')) rfl) (fun g hg => ⟨_, gn 6, ep_addN (x := 1) (EP.w ep_int) (EP.w (ep_ixL (nw 3) (nw 6) rfl (get_dN (by have := Ts.cl _ (rw_mem hi') g hg; omega))))⟩) (by omega)))) ?_)) ?_) (by simp)
        · simp; omega
        · unfold dL; rw [List.map_cons, List.map_map]; rfl
      · show GmW [_, _, _, _, _, _, _] _
        have e : (nrStep s f).map dN = (List.range s.length).map fun i => dN (mnN (f.getD i 0 :: (rw' s i).map fun g => 1 + f.getD g 0)) := by unfold nrStep; rw [List.map_map]; rfl
        unfold dL
        rw [e]
        exact ⟨.refl _, .refl _, .refl _, .frz _, .any _, .any _, .any _, trivial⟩
    · have hg := Ts.go hst ha
      have hr := Ts.row _ (rw_mem hst)
      have hfl : (farF s).length = s.length := hI
      refine bs_ret (EP.is (ep_lt (EP.w (ep_ixL (nw 3) (EP.w (ep_ixT (EP.w (ep_ixT (nw 0) (nw 1) rfl (get_dT hst))) (nw 2) rfl (get_dN (i := a) (by omega)))) rfl (get_dN (l := farF s) (i := go s st a) (by omega)))) (EP.w (ep_ixL (nw 3) (nw 1) rfl (get_dN (l := farF s) (i := st) (by omega))))) ?_) rfl
      congr 1
      rw [decide_eq_decide]; omega
end
end GL
end
/-! ## E4 -/
section
namespace GL
open PySem PySem.Spec PyProof.Rows L2
theorem Kd.any_iff {α : Type} [DecidableEq α] (k : Kd α) (x : α) (l : List α) : ((l.map k.f).any fun z => z.eq (k.f x)) = true ↔ x ∈ l := by rw [k.any, decide_eq_true_iff]
section
variable {P : Program} {w : World} {K : PySem.W.Frag} {mg : Str → Option Value} {base : Heap}
/-! ### _law_tails -/
abbrev LtS := List (Nat × Nat) × List (Nat × Nat)
def ltStep (s : List (List Nat)) (x : Nat × Nat) (st : LtS) (a : Nat) : LtS := if taGo s x a ∈ st.2 then st else (st.1 ++ [taGo s x a], st.2 ++ [taGo s x a])
/-- the letters one by one; none: the pair (0, 0) was met -/
def ltRow (s : List (List Nat)) (x : Nat × Nat) : List Nat → LtS → Option LtS
  | [], st => some st
  | a :: l, st => if taGo s x a = (0, 0) then none else ltRow s x l (ltStep s x st a)
def ltLoop (s : List (List Nat)) (k : Nat) : Nat → LtS → Option Bool
  | 0, _ => none
  | n + 1, st => match st.1.getLast? with
    | none => some true
    | some x => match ltRow s x (List.range k) (st.1.dropLast, st.2) with
      | none => some false
      | some st' => ltLoop s k n st'
def lt0 (s : List (List Nat)) : List (Nat × Nat) := (List.range (s.length - 1)).map fun i => (0, 1 + i)
structure LtJ (n : Nat) (st : LtS) : Prop where
  nd : st.2.Nodup
  lt : ∀ x ∈ st.2, x.1 < n ∧ x.2 < n
  sub : ∀ x ∈ st.1, x ∈ st.2
  ll : st.1.length ≤ st.2.length
theorem nodupP_le {n : Nat} {l : List (Nat × Nat)} (hn : l.Nodup) (h : ∀ x ∈ l, x.1 < n ∧ x.2 < n) : l.length ≤ n * n := by
  have h1 := TaJ.len (n := n) (st := (l.map fun x => (x, []), [])) ⟨by unfold keysP; rw [List.map_map]; simpa [Function.comp_def] using hn, fun x hx => by unfold keysP at hx; rw [List.map_map] at hx; exact h x (by simpa [Function.comp_def] using hx), fun z hz => by obtain ⟨y, _, rfl⟩ := List.mem_map.mp hz; simp, by simp, by simp⟩
  simpa using h1
theorem LtJ.len {n : Nat} {st : LtS} (j : LtJ n st) : st.2.length ≤ n * n := nodupP_le j.nd j.lt
theorem LtJ.step {s : List (List Nat)} {n : Nat} {st : LtS} (j : LtJ n st) {x : Nat × Nat} {a : Nat} (h : (taGo s x a).1 < n ∧ (taGo s x a).2 < n) : LtJ n (ltStep s x st a) := by
  unfold ltStep
  split
  · exact j
  · rename_i hg
    refine ⟨?_, fun y hy => ?_, fun y hy => ?_, ?_⟩
    · refine List.nodup_append.mpr ⟨j.nd, by simp, fun a ha b hb => ?_⟩
      simp at hb
      subst hb
      exact fun e => hg (e ▸ ha)
    · rcases List.mem_append.mp hy with hy | hy
      · exact j.lt y hy
      · rw [List.mem_singleton.mp hy]; exact h
    · rcases List.mem_append.mp hy with hy | hy
      · exact List.mem_append_left _ (j.sub y hy)
      · exact List.mem_append_right _ hy
    · have := j.ll; simp; omega
theorem LtJ.row {s : List (List Nat)} {n : Nat} {x : Nat × Nat} : ∀ {l : List Nat} {st st' : LtS}, LtJ n st → (∀ a ∈ l, (taGo s x a).1 < n ∧ (taGo s x a).2 < n) → ltRow s x l st = some st' → LtJ n st'
  | [], st, st', j, _, h => by cases h; exact j
  | a :: l, st, st', j, hl, h => by
    rw [ltRow] at h
    split at h
    · cases h
    · exact LtJ.row (j.step (hl a List.mem_cons_self)) (fun b hb => hl b (List.mem_cons_of_mem _ hb)) h
theorem lt0_j {s : List (List Nat)} {k : Nat} (Ts : Tb s k) : LtJ s.length (lt0 s, lt0 s) := by
  have hm : ∀ x ∈ lt0 s, x.1 < s.length ∧ x.2 < s.length := fun x hx => by
    obtain ⟨i, hi, rfl⟩ := List.mem_map.mp hx
    have := List.mem_range.mp hi
    have := Ts.pos
    exact ⟨by omega, by show 1 + i < _; omega⟩
  refine ⟨?_, hm, fun x h => h, Nat.le_refl _⟩
  unfold lt0
  exact List.Pairwise.map _ (fun a b h e => h (by have := congrArg Prod.snd e; simp at this; omega)) List.nodup_range
def tailsF (s : List (List Nat)) (r : Bool) : Bool := r && decide ((lbF s).length = s.length)
def R_ltails (ds : List D) (d : D) : Prop := ∃ s k n r, Tb s k ∧ ltLoop s k n (lt0 s, lt0 s) = some r ∧ ds = [dTT s] ∧ d = .bool (tailsF s r)
theorem p_ltails (T : Tx K mg) : Pm P w K mg base 2 "_law_tails" ["_law_steps_so"] (spD R_ltails) := by
  refine T.d_l_tails.pmD sc_l_tails (fun ds d h => ?_) fun ds d h => ?_
  · obtain ⟨_, _, _, _, _, _, rfl, _⟩ := h; rfl
  · obtain ⟨s, k, n, r, Ts, hr, rfl, rfl⟩ := h
    have hle := Ts.le
    have h25 : s.length * s.length ≤ 25 := Nat.mul_le_mul hle hle
    refine bs_lc 2 [("_law_own", 1)] (lc_map [("_law_own", 1)] (List.range (s.length - 1)) (fun i => dN (1 + i)) (fun i => pD (0, 1 + i)) (IS.w (is_rng2 (m := 1) rfl T.b_range ep_int (ep_lenN rfl T.b_len (nw 0) rfl (by rw [List.length_map])) (by omega))) (fun i hi => ⟨_, gn 1, ep_tup0 (ds := [dN 0, dN (1 + i)]) (ap_cons ep_int (ap_cons (nm 1) ap_nil)) sz2⟩) (by simp; omega)) ?_
    have e0 : (List.range (s.length - 1)).map (fun i => pD (0, 1 + i)) = (lt0 s).map pD := by unfold lt0; rw [List.map_map]; rfl
    rw [e0]
    refine bs_set 3 (EO.sp (eo_list rfl T.b_list (ow 2) rfl)) ?_
    refine bs_while (fun m Γ' => ∃ st : LtS, ltLoop s k m st = some r ∧ LtJ s.length st ∧ GmW Γ' [.val (dTT s), .any, .own (.lst (st.1.map pD)), .own (.lst (st.2.map pD)), .any, .any, .any]) (m := n) ⟨_, hr, lt0_j Ts, by (first | exact GmW.refl _ | (repeat' (first | exact True.intro | refine ⟨?_, ?_⟩ | exact SlW.refl _ | exact SlW.any _ | exact SlW.frz _)))⟩ (fun m Γ0 hW => ?_)
    obtain ⟨⟨ps, kn⟩, h1, j, hg⟩ := hW
    refine ⟨_, _, hg, tp_neE kdP (ow 2), fun hk => ?_, fun hk => ?_⟩
    · cases m with
      | zero => cases h1
      | succ m =>
        have hne : ps ≠ [] := by intro e; subst e; cases hk
        have hpl : 0 < ps.length := List.length_pos_iff.mpr hne
        have hlast : ps.getLast? = some (ps.getLast hne) := List.getLast?_eq_some_getLast hne
        obtain ⟨x, hx⟩ : ∃ x, ps.getLast? = some x := ⟨_, hlast⟩
        rw [ltLoop] at h1
        simp only [hx] at h1
        have hxm : x ∈ ps := List.mem_of_getLast? hx
        have hxl := j.lt x (j.sub x hxm)
        have hgo : ∀ a ∈ List.range k, (taGo s x a).1 < s.length ∧ (taGo s x a).2 < s.length := fun a ha => ⟨Ts.go hxl.1 (List.mem_range.mp ha), Ts.go hxl.2 (List.mem_range.mp ha)⟩
        have hgl : (ps.map pD)[(ps.map pD).length - 1]? = some (pD x) := by
          rw [List.length_map, List.getElem?_map, ← List.getLast?_eq_getElem?, hx]; rfl
        have J0 : LtJ s.length (ps.dropLast, kn) := ⟨j.nd, j.lt, fun y hy => j.sub y ((List.dropLast_subset ps) hy), by have := j.ll; simp at *; omega⟩
        refine bx_cons (sx_asg (ex_pop (s := 2) rfl (.inl rfl) rfl hgl) (fun d Γ1 q => ?_))
        obtain ⟨rfl, rfl⟩ := q
        refine ⟨_, _, gn2 4 5, ?_⟩
        rw [← List.map_dropLast]
        refine bx_cons (sx_for (is_rng (n := k) rfl T.b_range (ep_lenN (d := dT (rw' s 0)) rfl T.b_len (EP.w (ep_ixT (nw 0) (EP.w ep_int) (j := 0) rfl (get_dT Ts.pos))) rfl (by rw [List.length_map]; exact Ts.row _ (rw_mem Ts.pos))) (by have := Ts.kle; omega)) (fun i Γ' => ∃ st : LtS, ltRow s x ((List.range k).drop i) st = ltRow s x (List.range k) (ps.dropLast, kn) ∧ LtJ s.length st ∧ GmW Γ' [.val (dTT s), .any, .own (.lst (st.1.map pD)), .own (.lst (st.2.map pD)), .val (dN x.1), .val (dN x.2), .any]) ⟨(ps.dropLast, kn), rfl, J0, by (first | exact GmW.refl _ | (repeat' (first | exact True.intro | refine ⟨?_, ?_⟩ | exact SlW.refl _ | exact SlW.any _ | exact SlW.frz _)))⟩ (fun i d Γ' hd hW => ?_) fun Γ' hW => ?_)
        · obtain ⟨st, e1, J, hg2⟩ := hW
          rw [List.getElem?_map] at hd
          obtain ⟨a, ha, rfl⟩ := Option.map_eq_some_iff.mp hd
          obtain ⟨hi, hae⟩ := List.getElem?_eq_some_iff.mp ha
          have hdrop : (List.range k).drop i = a :: (List.range k).drop (i + 1) := by rw [← hae]; exact List.drop_eq_getElem_cons hi
          have ham := List.mem_of_getElem? ha
          have hak := List.mem_range.mp ham
          rw [hdrop, ltRow] at e1
          have hr1 := Ts.row _ (rw_mem hxl.1)
          have hr2 := Ts.row _ (rw_mem hxl.2)
          have hkl := J.len
          have hll := J.ll
          refine ⟨_, _, _, hg2, gn 6, ?_⟩
          refine bs_set 1 (s := .val (pD (taGo s x a))) (EP.sp (ep_tup0 (ds := [dN (go s x.1 a), dN (go s x.2 a)]) (ap_cons (ep_ixT (EP.w (ep_ixT (nw 0) (nw 4) rfl (get_dT hxl.1))) (nw 6) rfl (get_dN (by omega))) (ap_cons (ep_ixT (EP.w (ep_ixT (nw 0) (nw 5) rfl (get_dT hxl.2))) (nw 6) rfl (get_dN (by omega))) ap_nil)) sz2)) ?_
          refine bs_ifr (k := decide (taGo s x a = (0, 0))) (TP.is (tp_eq (x := pD (0, 0)) (nw 1) (EP.w (ep_tup0 (ds := [dN 0, dN 0]) (ap_cons ep_int (ap_cons ep_int ap_nil)) sz2)) (kdP.ok _) (kdP.ok (0, 0))) (eq_pD _ _)) (fun h => ?_) (fun h => ?_)
          · rw [if_pos (of_decide_eq_true h)] at e1
            rw [← e1] at h1
            cases h1
            exact bs_ret ep_bool rfl
          · rw [if_neg (of_decide_eq_false h)] at e1
            refine bx_cons (sx_if (tp_ninD (nw 1) (ow 3) (kdP.ok _) (kdP.oks _)) (fun h => ?_) (fun h => ?_))
            · have h' := h
              rw [Bool.not_eq_true'] at h'
              replace h' : ¬ taGo s x a ∈ st.2 := fun q => by rw [(kdP.any_iff (taGo s x a) st.2).mpr q] at h'; cases h'
              refine bs_app 3 (nm 1) (bs_app 2 (nm 1) (bx_nil (bx_nil ⟨ltStep s x st a, e1, J.step (hgo a ham), ?_⟩)))
              simp only [ltStep, h', if_false, List.map_append]
              (first | exact GmW.refl _ | (repeat' (first | exact True.intro | refine ⟨?_, ?_⟩ | exact SlW.refl _ | exact SlW.any _ | exact SlW.frz _)))
            · have h' := h
              rw [Bool.not_eq_false'] at h'
              replace h' := (kdP.any_iff (taGo s x a) st.2).mp h'
              refine bx_nil (bx_nil ⟨ltStep s x st a, e1, J.step (hgo a ham), ?_⟩)
              simp only [ltStep, h', if_true]
              (first | exact GmW.refl _ | (repeat' (first | exact True.intro | refine ⟨?_, ?_⟩ | exact SlW.refl _ | exact SlW.any _ | exact SlW.frz _)))
        · obtain ⟨st, e1, J, hg2⟩ := hW
          rw [List.length_map, List.drop_length, ltRow] at e1
          rw [← e1] at h1
          exact bx_nil ⟨m, Nat.lt_succ_self m, st, h1, J, GmW.trans hg2 (by (first | exact GmW.refl _ | (repeat' (first | exact True.intro | refine ⟨?_, ?_⟩ | exact SlW.refl _ | exact SlW.any _ | exact SlW.frz _))))⟩
    · cases m with
      | zero => cases h1
      | succ m =>
        have he : ps = [] := by
          cases ps with
          | nil => rfl
          | cons _ _ => cases hk
        subst he
        rw [ltLoop] at h1
        simp only [List.getLast?_nil, Option.some.injEq] at h1
        subst h1
        refine bs_ret (EP.is (ep_eqI (EP.w (ep_len rfl T.b_len (EP.w (ep_call ((p_lbacks T).fd (by decide)) rfl (ap_cons (nm 0) ap_nil) ⟨s, k, Ts, rfl, rfl⟩)) rfl)) (EP.w (ep_len rfl T.b_len (nw 0) rfl))) ?_) rfl
        unfold tailsF
        rw [List.length_map, List.length_map, Bool.true_and]
        congr 1
        rw [decide_eq_decide]; omega
/-! ### _law_lot -/
def lotsF (many : Nat) : List (List Nat) := [0] :: (List.range (many / 2)).map fun q => [1 + 2 * q, 1 + 2 * q + 1].filter fun x => decide (x < many)
def lotFn (many st : Nat) : List Nat := (lotsF many).getD (((st + 1) / 2 + 1) % (lotsF many).length) []
def R_lot (ds : List D) (d : D) : Prop := ∃ many st, 1 ≤ many ∧ many ≤ 5 ∧ st < many ∧ ds = [dN many, dN st] ∧ d = dL (lotFn many st)
theorem rgc_lot : ∀ many : Nat, 1 ≤ many → many ≤ 5 → RgC 1 (many : Nat) 2 (many / 2) := by
  intro many h1 h2
  have : many = 1 ∨ many = 2 ∨ many = 3 ∨ many = 4 ∨ many = 5 := by omega
  unfold RgC
  rcases this with rfl | rfl | rfl | rfl | rfl <;> decide +kernel
theorem p_lot (T : Tx K mg) : Pm P w K mg base 1 "_law_lot" ["_law_many_so", "_law_state_so"] (spD R_lot) := by
  refine T.d_l_lot.pmD sc_l_lot (fun ds d h => ?_) fun ds d h => ?_
  · obtain ⟨_, _, _, _, _, rfl, _⟩ := h; rfl
  · obtain ⟨many, st, h1, h5, hst, rfl, rfl⟩ := h
    have hll : (lotsF many).length = 1 + many / 2 := by unfold lotsF; simp; omega
    refine bs_set 2 (s := .val (.list ((lotsF many).map dL))) (EP.sp (EP.is (ep_cat (xs := [dL [0]]) (EP.w (EO.ep (eo_lst (ap_cons (EO.ep (eo_lst (ds := [dN 0]) (ap_cons ep_int ap_nil) sz1)) ap_nil) sz1))) (EP.w (EO.ep (eo_map [("_law_k", 4)] (List.range (many / 2)) (fun q => D.int (1 + (q : Nat) * 2)) (fun q => dL ([1 + 2 * q, 1 + 2 * q + 1].filter fun x => decide (x < many))) (IS.w (is_rng3 rfl T.b_range ep_int (nm 0) ep_int (rgc_lot many h1 h5))) (fun q hq => ⟨_, gn 4, EO.ep (eo_fil [("_law_own", 3)] [1 + 2 * q, 1 + 2 * q + 1] dN (fun x => decide (x < many)) dN ?_ (fun x hx => ⟨_, gn 3, TP.is (tp_lt (nw 3) (nw 0)) (by rw [decide_eq_decide]; omega), fun _ => nm 3⟩) (by simp))⟩) (by simp; omega)))) ?_) ?_)) ?_
    · refine iw_seq (d := .tup true [dN (1 + 2 * q), dN (1 + 2 * q + 1)]) (ep_tup (ap_cons (EP.is (nm 4) ?_) (ap_cons (EP.is (ep_add (nw 4) (EP.w ep_int)) ?_) ap_nil)) sz2) rfl
      · show D.int _ = D.int _; congr 1; omega
      · show D.int _ = D.int _; congr 1; omega
    · simp; omega
    · unfold lotsF; rw [List.map_cons, List.map_map]; rfl
    · have hlt : ((st + 1) / 2 + 1) % (lotsF many).length < (lotsF many).length := Nat.mod_lt _ (by omega)
      refine bs_ret (ep_ixL (nw 2) (EP.w (ep_mod (EP.w (ep_intI rfl T.b_int (EP.w (ep_add (EP.w (ep_fdiv (EP.w (ep_add (nw 1) (EP.w ep_int))) (EP.w ep_int) (by unfold CDiv; omega))) (EP.w ep_int))))) (EP.w (ep_lenN (x := (lotsF many).length) rfl T.b_len (nw 2) rfl (by rw [List.length_map]))) (by omega))) (j := ((st + 1) / 2 + 1) % (lotsF many).length) ?_ ?_) rfl
      · rw [Int.natCast_emod]; congr 1
      · unfold lotFn
        rw [List.getElem?_map, List.getD_eq_getElem?_getD, List.getElem?_eq_getElem hlt]; rfl
end
end GL
end
/-! ## E5 -/
section
namespace GL
open PySem PySem.Spec PyProof.Rows L2
section
variable {P : Program} {w : World} {K : PySem.W.Frag} {mg : Str → Option Value} {base : Heap}
/-! ### _law_least -/
def idxD {α : Type} [DecidableEq α] (l : List α) (x : α) : Nat := l.idxOf x
def ll0 (s : List (List Nat)) (e : List Nat) : List Nat := (List.range s.length).map fun i => if i ∈ e then 1 else 0
def llRow (s : List (List Nat)) (lot : List Nat) (i : Nat) : List Nat := lot.getD i 0 :: (rw' s i).map fun g => lot.getD g 0
def llRows (s : List (List Nat)) (lot : List Nat) : List (List Nat) := (List.range s.length).map (llRow s lot)
def llStep (s : List (List Nat)) (lot : List Nat) : List Nat := (llRows s lot).map fun r => idxD (llRows s lot) r
def llF (s : List (List Nat)) (e : List Nat) : List Nat := (List.range s.length).foldl (fun l _ => llStep s l) (ll0 s e)
abbrev LwS := List Nat × List Nat
def lwStep (lot : List Nat) (st : LwS) (g : Nat) : LwS := if lot.getD g 0 ∈ st.1 then st else (st.1 ++ [lot.getD g 0], st.2 ++ [g])
def lwLoop (s : List (List Nat)) (lot : List Nat) : Nat → LwS → Option (List Nat)
  | 0, _ => none
  | n + 1, (wk, []) => some wk
  | n + 1, (wk, x :: fd) => lwLoop s lot n ((rw' s x).foldl (lwStep lot) (wk, fd))
def headF (lot : List Nat) (o : Nat) : Nat := ((List.range lot.length).filter fun k => decide (lot.getD k 0 = o)).getD 0 0
def lrowsF (s : List (List Nat)) (lot wk : List Nat) : List (List Nat) := (wk.map (headF lot)).map fun h => (rw' s h).map fun g => idxD wk (lot.getD g 0)
def lendsF (e lot wk : List Nat) : List Nat := ((wk.map (headF lot)).zipIdx.filter fun z => decide (z.1 ∈ e)).map (·.2)
structure LwJ (s : List (List Nat)) (lot : List Nat) (st : LwS) : Prop where
  nd : st.1.Nodup
  ml : ∀ x ∈ st.1, x ∈ lot
  fl : ∀ x ∈ st.2, x < s.length
  ll : st.2.length ≤ st.1.length
theorem nodup_sub_len {l m : List Nat} : l.Nodup → (∀ x ∈ l, x ∈ m) → l.length ≤ m.length := by
  induction m generalizing l with
  | nil => intro _ h; cases l with | nil => exact Nat.le_refl _ | cons x l => exact absurd (h x List.mem_cons_self) (by simp)
  | cons a m ih =>
    intro hn h
    have h1 := ih (hn.erase a) fun x hx => by
      have h2 := (hn.mem_erase_iff).mp hx
      rcases List.mem_cons.mp (h x h2.2) with e | e
      · exact (h2.1 e).elim
      · exact e
    have := List.length_erase (a := a) (l := l)
    rw [List.length_cons]
    split at this <;> omega
theorem lot_mem {lot : List Nat} {g : Nat} (h : g < lot.length) : lot.getD g 0 ∈ lot := by
  rw [List.getD_eq_getElem?_getD, List.getElem?_eq_getElem h]; exact List.getElem_mem h
theorem LwJ.step {s : List (List Nat)} {lot : List Nat} {st : LwS} (hl : lot.length = s.length) (j : LwJ s lot st) {g : Nat} (hg : g < s.length) : LwJ s lot (lwStep lot st g) := by
  unfold lwStep
  split
  · exact j
  · rename_i h
    refine ⟨?_, fun y hy => ?_, fun y hy => ?_, ?_⟩
    · refine List.nodup_append.mpr ⟨j.nd, by simp, fun a ha b hb => ?_⟩
      simp only [List.mem_singleton] at hb
      subst hb
      exact fun e => h (e ▸ ha)
    · rcases List.mem_append.mp hy with hy | hy
      · exact j.ml y hy
      · rw [List.mem_singleton.mp hy]; exact lot_mem (by omega)
    · rcases List.mem_append.mp hy with hy | hy
      · exact j.fl y hy
      · rw [List.mem_singleton.mp hy]; exact hg
    · have := j.ll; simp; omega
theorem LwJ.fold {s : List (List Nat)} {lot : List Nat} (hl : lot.length = s.length) : ∀ {l : List Nat} {st : LwS}, LwJ s lot st → (∀ g ∈ l, g < s.length) → LwJ s lot (l.foldl (lwStep lot) st)
  | [], st, j, _ => j
  | g :: l, st, j, h => LwJ.fold (l := l) (st := lwStep lot st g) hl (j.step hl (h g List.mem_cons_self)) fun x hx => h x (List.mem_cons_of_mem _ hx)
theorem llF_len {s : List (List Nat)} {e : List Nat} : (llF s e).length = s.length := by
  unfold llF
  have : ∀ (l : List Nat) (x : List Nat), x.length = s.length → (l.foldl (fun l _ => llStep s l) x).length = s.length := by
    intro l
    induction l with
    | nil => intro x h; exact h
    | cons a l ih => intro x h; exact ih _ (by unfold llStep llRows; simp)
  exact this _ _ (by unfold ll0; simp)
/-- what _law_least makes of a machine -/
def LLeastP (s : List (List Nat)) (e : List Nat) (S' : List (List Nat)) (E' : List Nat) : Prop := ∃ n wk, lwLoop s (llF s e) n ([(llF s e).getD 0 0], [0]) = some wk ∧ (∀ o ∈ wk, o ∈ llF s e) ∧ (∀ h ∈ wk.map (headF (llF s e)), ∀ g ∈ rw' s h, (llF s e).getD g 0 ∈ wk) ∧ S' = lrowsF s (llF s e) wk ∧ E' = lendsF e (llF s e) wk
def R_lleast (ds : List D) (d : D) : Prop := ∃ s k e S' E' b, Tb s k ∧ LLeastP s e S' E' ∧ ds = [.tup b [dTT s, dT e]] ∧ d = .tup true [dTT S', dT E']
theorem p_lleast (T : Tx K mg) : Pm P w K mg base 1 "_law_least" ["_law_machine_so"] (spD R_lleast) := by
  refine T.d_l_least.pmD sc_l_least (fun ds d h => ?_) fun ds d h => ?_
  · obtain ⟨_, _, _, _, _, _, _, _, rfl, _⟩ := h; rfl
  · obtain ⟨s, k, e, S', E', b, Ts, ⟨n, wk, hwk, hwm, hcl, rfl, rfl⟩, rfl, rfl⟩ := h
    have hle := Ts.le
    have hkle := Ts.kle
    have hlen := llF_len (s := s) (e := e)
    refine bs_pair 1 2 (nm 0) ?_
    refine bs_lcC 4 [("_law_own", 3)] (lc_map [("_law_own", 3)] (List.range s.length) dN (fun i => dN (if i ∈ e then 1 else 0)) (IS.w (is_rng rfl T.b_range (ep_lenN rfl T.b_len (nw 1) rfl (by rw [List.length_map])) (by omega))) (fun i hi => ⟨_, gn 3, EP.is (ep_intB rfl T.b_int (EP.w (ep_inNT (nw 3) (nw 2)))) ?_⟩) (by simp; omega)) ?_
    · show D.int _ = dN _
      by_cases q : i ∈ e <;> simp [q]
    have e0 : (List.range s.length).map (fun i => dN (if i ∈ e then 1 else 0)) = (ll0 s e).map dN := by unfold ll0; rw [List.map_map]; rfl
    rw [e0]
    refine bs_fold (List.range s.length) dN (ll0 s e) (fun l _ => llStep s l) (fun l => [.any, .val (dTT s), .val (dT e), .any, .val (dL l), .any, .any, .any, .any, .any, .any, .any]) (fun i l => l.length = s.length) (is_rng rfl T.b_range (ep_lenN rfl T.b_len (nw 1) rfl (by rw [List.length_map])) (by omega)) (by (first | exact GmW.refl _ | (repeat' (first | exact True.intro | refine ⟨?_, ?_⟩ | exact SlW.refl _ | exact SlW.any _ | exact SlW.frz _)))) (by unfold ll0; simp) (fun i q l hx hI => ⟨by unfold llStep llRows; simp, _, _, gn 5, ?_⟩) fun hI => ?_
    · refine bs_lcC 7 [("_law_own", 3)] (lc_map [("_law_own", 3)] (List.range s.length) dN (fun i => dT (llRow s l i)) (IS.w (is_rng rfl T.b_range (ep_lenN rfl T.b_len (nw 1) rfl (by rw [List.length_map])) (by omega))) (fun i hi => ⟨_, gn 3, EP.is (ep_catT (k1 := true) (k2 := true) (xs := [dN (l.getD i 0)]) (ys := (rw' s i).map fun g => dN (l.getD g 0)) (EP.w (ep_tup (ap_cons (ep_ixL (nw 4) (nw 3) rfl (get_dN (by have := List.mem_range.mp hi; omega))) ap_nil) sz1)) (EP.w (ep_tupleOf rfl T.b_tuple (EP.w (EO.ep (eo_map [("_law_its", 6)] (rw' s i) dN (fun g => dN (l.getD g 0)) (iw_seq (ep_ixT (nw 1) (nw 3) rfl (get_dT (List.mem_range.mp hi))) rfl) (fun g hg => ⟨_, gn 6, ep_ixL (nw 4) (nw 6) rfl (get_dN (by have := Ts.cl _ (rw_mem (List.mem_range.mp hi)) g hg; omega))⟩) ?_))))) (by simp) ?_ ?_) ?_⟩) (by simp; omega)) ?_
      · have := Ts.row _ (rw_mem (List.mem_range.mp hi)); omega
      · intro q
        have := congrArg List.length q
        rw [List.length_map, Ts.row _ (rw_mem (List.mem_range.mp hi))] at this
        have := Ts.kpos
        simp at *; omega
      · have := Ts.row _ (rw_mem (List.mem_range.mp hi)); simp; omega
      · unfold llRow; rw [dT, List.map_cons, List.map_map]; rfl
      have e1 : (List.range s.length).map (fun i => dT (llRow s l i)) = (llRows s l).map dT := by unfold llRows; rw [List.map_map]; rfl
      rw [e1]
      refine bs_lcC 4 [("_law_own", 3)] (lc_map [("_law_own", 3)] (llRows s l) dT (fun r => dN (idxD (llRows s l) r)) (iw_list (ow 7)) (fun r hr => ⟨_, gn 3, ep_idx (kdT true) (ow 7) (nw 3) hr⟩) (by unfold llRows; simp; omega)) (bx_nil ?_)
      have e2 : (llStep s l).map dN = (llRows s l).map fun r => dN (idxD (llRows s l) r) := by unfold llStep; rw [List.map_map]; rfl
      show GmW [_, _, _, _, _, _, _, _, _, _, _, _] _
      unfold dL
      rw [e2]
      exact ⟨.any _, .refl _, .refl _, .any _, .frz _, .any _, .any _, .any _, .any _, .any _, .any _, .any _, trivial⟩
    · show BX _ _ [.any, .val (dTT s), .val (dT e), .any, .val (dL (llF s e)), .any, .any, .any, .any, .any, .any, .any] _
      generalize hlot : llF s e = lot at *
      refine bs_parC 8 9 (s1 := .own (.lst ([0].map dN))) (s2 := .own (.lst ([lot.getD 0 0].map dN))) (EO.sp (eo_lst (ds := [dN 0]) (ap_cons ep_int ap_nil) sz1)) (EO.sp (eo_lst (ds := [dN (lot.getD 0 0)]) (ap_cons (ep_ixL (nw 4) (EP.w ep_int) (j := 0) rfl (get_dN (by have := Ts.pos; omega))) ap_nil) sz1)) ?_
      refine bs_while (fun m Γ' => ∃ st : LwS, lwLoop s lot m st = some wk ∧ LwJ s lot st ∧ GmW Γ' [.any, .val (dTT s), .val (dT e), .any, .val (dL lot), .any, .any, .any, .own (.lst (st.2.map dN)), .own (.lst (st.1.map dN)), .any, .any]) (m := n) ⟨_, hwk, ⟨by simp, fun x hx => by rw [List.mem_singleton.mp hx]; exact lot_mem (by have := Ts.pos; omega), fun x hx => by rw [List.mem_singleton.mp hx]; exact Ts.pos, by simp⟩, by (first | exact GmW.refl _ | (repeat' (first | exact True.intro | refine ⟨?_, ?_⟩ | exact SlW.refl _ | exact SlW.any _ | exact SlW.frz _)))⟩ (fun m Γ0 hW => ?_)
      obtain ⟨⟨wk0, fd⟩, h1, j, hg⟩ := hW
      have hwkl : wk0.length ≤ s.length := by rw [← hlen]; exact nodup_sub_len j.nd j.ml
      refine ⟨_, _, hg, tp_neE kdN (ow 8), fun hk => ?_, fun hk => ?_⟩
      · cases m with
        | zero => cases h1
        | succ m =>
          cases fd with
          | nil => cases hk
          | cons x fd =>
            rw [lwLoop] at h1
            have hxl := j.fl x List.mem_cons_self
            have hfd := j.ll
            refine bs_pop0 3 8 (ds := fd.map dN) ?_ (by have hfd' : (x :: fd).length ≤ wk0.length := hfd; rw [List.length_cons] at hfd'; rw [List.length_map]; omega)
            have J0 : LwJ s lot (wk0, fd) := ⟨j.nd, j.ml, fun y hy => j.fl y (List.mem_cons_of_mem _ hy), by have hfd' : (x :: fd).length ≤ wk0.length := hfd; rw [List.length_cons] at hfd'; show fd.length ≤ wk0.length; omega⟩
            refine bs_fold (rw' s x) dN ((wk0, fd) : LwS) (lwStep lot) (fun st => [.any, .val (dTT s), .val (dT e), .any, .val (dL lot), .any, .any, .any, .own (.lst (st.2.map dN)), .own (.lst (st.1.map dN)), .any, .any]) (fun i st => LwJ s lot st) (is_seq (ep_ixT (nw 1) (nw 3) rfl (get_dT hxl)) rfl) (by (first | exact GmW.refl _ | (repeat' (first | exact True.intro | refine ⟨?_, ?_⟩ | exact SlW.refl _ | exact SlW.any _ | exact SlW.frz _)))) J0 (fun i g st hx hI => ?_) fun hI => bx_nil ⟨m, Nat.lt_succ_self m, _, h1, hI, by (first | exact GmW.refl _ | (repeat' (first | exact True.intro | refine ⟨?_, ?_⟩ | exact SlW.refl _ | exact SlW.any _ | exact SlW.frz _)))⟩
            have hgl := Ts.cl _ (rw_mem hxl) g (List.mem_of_getElem? hx)
            have hsl : st.1.length ≤ s.length := by rw [← hlen]; exact nodup_sub_len hI.nd hI.ml
            have hs2 := hI.ll
            refine ⟨hI.step hlen hgl, _, _, gn 6, ?_⟩
            have eg : EP (c0 P w K mg base n_l_least s_l_least 0) (.Subscript (.Name "_law_lot_so" ⟨0,0,0,0⟩) (.Name "_law_its" ⟨0,0,0,0⟩) ⟨0,0,0,0⟩) [.any, .val (dTT s), .val (dT e), .any, .val (dL lot), .any, .val (dN g), .any, .own (.lst (st.2.map dN)), .own (.lst (st.1.map dN)), .any, .any] (dN (lot.getD g 0)) := ep_ixL (nw 4) (nw 6) rfl (get_dN (by omega))
            refine bx_cons (sx_if (tp_ninN (EP.w (ep_ixL (nw 4) (nw 6) rfl (get_dN (by omega)))) (ow 9)) (fun h => ?_) (fun h => ?_))
            · have h' : ¬ lot.getD g 0 ∈ st.1 := by rw [Bool.not_eq_true', decide_eq_false_iff_not] at h; exact h
              refine bs_app 9 (ep_ixL (nw 4) (nw 6) rfl (get_dN (by omega))) (bs_app 8 (nm 6) (bx_nil (bx_nil ?_)))
              simp only [lwStep, h', if_false, List.map_append]
              (first | exact GmW.refl _ | (repeat' (first | exact True.intro | refine ⟨?_, ?_⟩ | exact SlW.refl _ | exact SlW.any _ | exact SlW.frz _)))
            · have h' : lot.getD g 0 ∈ st.1 := by rw [Bool.not_eq_false', decide_eq_true_eq] at h; exact h
              refine bx_nil (bx_nil ?_)
              simp only [lwStep, h', if_true]
              (first | exact GmW.refl _ | (repeat' (first | exact True.intro | refine ⟨?_, ?_⟩ | exact SlW.refl _ | exact SlW.any _ | exact SlW.frz _)))
      · cases m with
        | zero => cases h1
        | succ m =>
          cases fd with
          | cons _ _ => cases hk
          | nil =>
            rw [lwLoop] at h1
            cases h1
            have hhead : ∀ o ∈ wk, headF lot o < s.length ∧ ((List.range lot.length).filter fun k => decide (lot.getD k 0 = o)) ≠ [] := fun o ho => by
              obtain ⟨i, hi, e⟩ := List.mem_iff_getElem.mp (hwm o ho)
              have hin : i ∈ (List.range lot.length).filter fun k => decide (lot.getD k 0 = o) := by
                rw [List.mem_filter]
                refine ⟨List.mem_range.mpr hi, ?_⟩
                rw [List.getD_eq_getElem?_getD, List.getElem?_eq_getElem hi]; simp [e]
              have hne : ((List.range lot.length).filter fun k => decide (lot.getD k 0 = o)) ≠ [] := fun q => by rw [q] at hin; cases hin
              refine ⟨?_, hne⟩
              unfold headF
              have hpos := List.length_pos_iff.mpr hne
              rw [List.getD_eq_getElem?_getD, List.getElem?_eq_getElem hpos]
              have := List.getElem_mem hpos
              have h3 := List.mem_range.mp (List.mem_filter.mp this).1
              rw [Option.getD_some]
              omega
            refine bs_lc 10 [("_law_own", 3), ("_law_k", 11)] (lc_map [("_law_own", 3), ("_law_k", 11)] wk dN (fun o => dN (headF lot o)) (iw_list (ow 9)) (fun o ho => ⟨_, gn 3, ep_ixL (EP.w (EO.ep (eo_fil [("_law_k", 11)] (List.range lot.length) dN (fun k => decide (lot.getD k 0 = o)) dN (IS.w (is_rng rfl T.b_range (ep_lenN rfl T.b_len (nw 4) rfl (by rw [List.length_map])) (by omega))) (fun k hk => ⟨_, gn 11, tp_eqN (EP.w (ep_ixL (nw 4) (nw 11) rfl (get_dN (List.mem_range.mp hk)))) (nw 3), fun _ => nm 11⟩) (by simp; omega)))) (EP.w ep_int) (j := 0) rfl (get_dN (List.length_pos_iff.mpr (hhead o ho).2))⟩) (by omega)) ?_
            have e3 : wk.map (fun o => dN (headF lot o)) = (wk.map (headF lot)).map dN := by rw [List.map_map]; rfl
            rw [e3]
            refine bs_set 7 (s := .val (dTT (lrowsF s lot wk))) (EP.sp (EP.is (ep_tupleOf rfl T.b_tuple (EP.w (EO.ep (eo_map [("_law_own", 3)] (wk.map (headF lot)) dN (fun h => dT ((rw' s h).map fun g => idxD wk (lot.getD g 0))) (iw_list (ow 10)) (fun h hh => ⟨_, gn 3, EP.is (ep_tupleOf rfl T.b_tuple (EP.w (EO.ep (eo_map [("_law_its", 6)] (rw' s h) dN (fun g => dN (idxD wk (lot.getD g 0))) (iw_seq (ep_ixT (nw 1) (nw 3) rfl (get_dT ?_)) rfl) (fun g hg => ⟨_, gn 6, ep_idx kdN (ow 9) (EP.w (ep_ixL (nw 4) (nw 6) rfl (get_dN ?_))) ?_⟩) ?_)))) ?_⟩) (by simp; omega))))) ?_)) ?_
            · obtain ⟨o, ho, rfl⟩ := List.mem_map.mp hh; exact (hhead o ho).1
            · obtain ⟨o, ho, rfl⟩ := List.mem_map.mp hh
              have := Ts.cl _ (rw_mem (hhead o ho).1) g hg; omega
            · exact hcl h hh g hg
            · obtain ⟨o, ho, rfl⟩ := List.mem_map.mp hh
              have := Ts.row _ (rw_mem (hhead o ho).1); omega
            · rw [dT, List.map_map]; rfl
            · unfold lrowsF dTT; rw [List.map_map, List.map_map, List.map_map]; rfl
            refine bs_ret (ep_tup (ap_cons (nm 7) (ap_cons (EP.is (ep_tupleOf rfl T.b_tuple (EP.w (EO.ep (eo_fil [("_law_k", 11), ("_law_own", 3)] (wk.map (headF lot)).zipIdx (fun z => D.tup false [dN z.2, dN z.1]) (fun z => decide (z.1 ∈ e)) (fun z => dN z.2) (IW.is (iw_enumL rfl T.b_enumerate (ow 10)) (enumD_map dN _)) (fun z hz => ⟨_, gn2 11 3, tp_inNT (nw 3) (nw 2), fun _ => nm 11⟩) ?_)))) ?_) ap_nil)) sz2) rfl
            · simp; omega
            · unfold lendsF dT; rw [List.map_map]; rfl
/-! ### _law_coarsest -/
def R_lcoarsest (ds : List D) (d : D) : Prop := ∃ s k S2 E2, Tb s k ∧ LLeastP s [0] S2 E2 ∧ Tb S2 k ∧ ds = [dTT s] ∧ d = dT (numL (colsF S2 k))
theorem p_lcoarsest (T : Tx K mg) : Pm P w K mg base 2 "_law_coarsest" ["_law_steps_so"] (spD R_lcoarsest) := by
  refine T.d_l_coarsest.pmD sc_l_coarsest (fun ds d h => ?_) fun ds d h => ?_
  · obtain ⟨_, _, _, _, _, _, _, rfl, _⟩ := h; rfl
  · obtain ⟨s, k, S2, E2, Ts, hL, T2, rfl, rfl⟩ := h
    have hkle := T2.kle
    refine bs_set 1 (EP.sp (ep_ixT (d := dTT S2) (EP.w (ep_call ((p_lleast T).fd (by decide)) rfl (ap_cons (ep_tup (ds := [dTT s, dT [0]]) (ap_cons (nm 0) (ap_cons (ep_tup (ds := [dN 0]) (ap_cons ep_int ap_nil) sz1) ap_nil)) sz2) ap_nil) ⟨s, k, [0], S2, E2, true, Ts, hL, rfl, rfl⟩)) (EP.w ep_int) (j := 0) rfl rfl)) ?_
    refine bs_ret (ep_call ((p_lnum T).fd (by decide)) rfl (ap_cons (EO.ep (eo_map [("_law_k", 3)] (List.range k) dN (fun a => dT (S2.map fun r => r.getD a 0)) (IS.w (is_rng rfl T.b_range (ep_lenN (d := dT (rw' S2 0)) rfl T.b_len (EP.w (ep_ixT (nw 1) (EP.w ep_int) (j := 0) rfl (get_dT T2.pos))) rfl (by rw [List.length_map]; exact T2.row _ (rw_mem T2.pos))) (by omega))) (fun a ha => ⟨_, gn 3, EP.is (ep_tupleOf rfl T.b_tuple (EP.w (EO.ep (eo_map [("_law_own", 2)] S2 dT (fun r => dN (r.getD a 0)) (iw_seq (nm 1) rfl) (fun r hr => ⟨_, gn 2, ep_ixT (nw 2) (nw 3) rfl (get_dN (by have := List.mem_range.mp ha; rw [T2.row r hr]; exact this))⟩) (by have := T2.le; omega))))) ?_⟩) (by simp; omega))) ap_nil) ⟨_, _, kdT true, colsF S2 k, by unfold colsF; simp; omega, ?_, rfl⟩) rfl
    · rw [dT, List.map_map]; rfl
    · unfold colsF; rw [List.map_map]; rfl
end
end GL
end
/-! ## M1 -/
section
namespace GL
/-! ### words and runs -/
def Vd (k : Nat) (w : List Nat) : Prop := ∀ a ∈ w, a < k
def run (s : List (List Nat)) (q : Nat) (w : List Nat) : Nat := w.foldl (go s) q
theorem run_app {s : List (List Nat)} {q : Nat} {v w : List Nat} : run s q (v ++ w) = run s (run s q v) w := by unfold run; rw [List.foldl_append]
theorem Vd.app {k : Nat} {v w : List Nat} (h : Vd k v) (g : Vd k w) : Vd k (v ++ w) := fun a ha => (List.mem_append.mp ha).elim (h a) (g a)
theorem Vd.one {k a : Nat} (h : a < k) : Vd k [a] := fun b hb => by rw [List.mem_singleton.mp hb]; exact h
theorem run_lt {s : List (List Nat)} {k : Nat} (T : Tb s k) : ∀ {w : List Nat} {q : Nat}, q < s.length → Vd k w → run s q w < s.length
  | [], _, h, _ => h
  | a :: w, q, h, hv => run_lt T (w := w) (T.go h (hv a List.mem_cons_self)) fun b hb => hv b (List.mem_cons_of_mem _ hb)
def Rch (s : List (List Nat)) (k x : Nat) : Prop := ∃ w, Vd k w ∧ run s 0 w = x
theorem Rch.go {s : List (List Nat)} {k x a : Nat} (h : Rch s k x) (ha : a < k) : Rch s k (GL.go s x a) := by
  obtain ⟨w, h1, rfl⟩ := h
  exact ⟨w ++ [a], h1.app (.one ha), by rw [run_app]; rfl⟩
theorem Rch.lt {s : List (List Nat)} {k x : Nat} (T : Tb s k) (h : Rch s k x) : x < s.length := by
  obtain ⟨w, h1, rfl⟩ := h
  exact run_lt T T.pos h1
theorem row_go {s : List (List Nat)} {k x g : Nat} (T : Tb s k) (hx : x < s.length) (hg : g ∈ rw' s x) : ∃ a, a < k ∧ go s x a = g := by
  obtain ⟨a, ha, e⟩ := List.mem_iff_getElem.mp hg
  refine ⟨a, by rw [← T.row _ (rw_mem hx)]; exact ha, ?_⟩
  unfold go
  rw [List.getD_eq_getElem?_getD, List.getElem?_eq_getElem ha]; exact e
theorem go_row {s : List (List Nat)} {k x a : Nat} (T : Tb s k) (hx : x < s.length) (ha : a < k) : go s x a ∈ rw' s x := by
  have h := T.row _ (rw_mem hx)
  unfold go
  rw [List.getD_eq_getElem?_getD, List.getElem?_eq_getElem (by omega)]; exact List.getElem_mem _
/-! ### come_to -/
structure CtI (s : List (List Nat)) (k : Nat) (K0 : List Nat) (st : CtS) : Prop where
  ks : keys st.1 = K0 ++ st.2
  rch : ∀ x ∈ keys st.1, Rch s k x
theorem CtI.goal {s : List (List Nat)} {k x : Nat} {K0 : List Nat} {st : CtS} (h : CtI s k K0 st) {ig : Nat × Nat} (hr : Rch s k ig.1) : CtI s k K0 (ctGoal x st ig) ∧ ig.1 ∈ keys (ctGoal x st ig).1 := by
  unfold ctGoal
  split
  · exact ⟨h, by assumption⟩
  · refine ⟨⟨?_, fun y hy => ?_⟩, by unfold keys; rw [List.map_append]; exact List.mem_append_right _ (by simp)⟩
    · have := h.ks
      unfold keys at *
      rw [List.map_append, this, List.append_assoc]; rfl
    · unfold keys at hy; rw [List.map_append, List.mem_append] at hy
      rcases hy with hy | hy
      · exact h.rch y hy
      · simp at hy; rw [hy]; exact hr
theorem CtI.row {s : List (List Nat)} {k x : Nat} {K0 : List Nat} : ∀ {l : List (Nat × Nat)} {st : CtS}, CtI s k K0 st → (∀ z ∈ l, Rch s k z.1) → CtI s k K0 (l.foldl (ctGoal x) st) ∧ (∀ z ∈ l, z.1 ∈ keys (l.foldl (ctGoal x) st).1) ∧ ∀ y ∈ keys st.1, y ∈ keys (l.foldl (ctGoal x) st).1
  | [], st, h, _ => ⟨h, fun z hz => (by cases hz), fun y hy => hy⟩
  | z :: l, st, h, hl => by
    obtain ⟨h1, h2⟩ := h.goal (x := x) (hl z List.mem_cons_self)
    obtain ⟨g1, g2, g3⟩ := CtI.row (l := l) h1 fun y hy => hl y (List.mem_cons_of_mem _ hy)
    refine ⟨g1, fun y hy => ?_, fun y hy => g3 y (ctGoal_sub hy)⟩
    rcases List.mem_cons.mp hy with rfl | hy
    · exact g3 _ h2
    · exact g2 y hy
theorem CtI.now {s : List (List Nat)} {k : Nat} (T : Tb s k) {K0 : List Nat} : ∀ {l : List Nat} {st : CtS}, CtI s k K0 st → CtJ s.length st → (∀ x ∈ l, Rch s k x) → CtI s k K0 (l.foldl (ctRow s) st) ∧ CtJ s.length (l.foldl (ctRow s) st) ∧ (∀ x ∈ l, ∀ g ∈ rw' s x, g ∈ keys (l.foldl (ctRow s) st).1) ∧ ∀ y ∈ keys st.1, y ∈ keys (l.foldl (ctRow s) st).1
  | [], st, h, j, _ => ⟨h, j, fun z hz => (by cases hz), fun y hy => hy⟩
  | x :: l, st, h, j, hl => by
    have hx := hl x List.mem_cons_self
    have hxl := hx.lt T
    have hz := zip_lt T hxl
    have hr : ∀ z ∈ (rw' s x).zipIdx, Rch s k z.1 := fun z hz => by
      obtain ⟨a, ha, e⟩ := row_go T hxl (zip_mem hz)
      rw [← e]; exact hx.go ha
    obtain ⟨h1, h2, h3⟩ := CtI.row (x := x) h hr
    have hj := (ctFold (x := x) _ st j hz).1
    obtain ⟨g1, g2, g3, g4⟩ := CtI.now T (l := l) (st := ctRow s st x) h1 hj fun y hy => hl y (List.mem_cons_of_mem _ hy)
    refine ⟨g1, g2, fun y hy g hg => ?_, fun y hy => g4 y (h3 y hy)⟩
    rcases List.mem_cons.mp hy with rfl | hy
    · obtain ⟨i, hi, e⟩ := List.mem_iff_getElem.mp hg
      exact g4 g (h2 (g, i) (by rw [List.mem_zipIdx_iff_getElem?]; rw [List.getElem?_eq_getElem hi, e]))
    · exact g3 y hy g hg
theorem ct_loop {s : List (List Nat)} {k : Nat} (T : Tb s k) : ∀ (f : Nat) (st : CtS), CtJ s.length st → (∀ x ∈ keys st.1, Rch s k x) → (keys st.1).head? = some 0 → (∀ x ∈ keys st.1, x ∉ st.2 → ∀ g ∈ rw' s x, g ∈ keys st.1) → ((st.2 = [] ∧ 1 ≤ f) ∨ s.length + 2 ≤ f + st.1.length) →
    ∃ r, ctLoop s f st = some r ∧ Cl s (keys r) ∧ (keys r).head? = some 0 ∧ ∀ x ∈ keys r, Rch s k x
  | 0, st, j, hr, hh, hc, hf => by
    rcases hf with ⟨_, h⟩ | h
    · cases h
    · have := j.len; omega
  | f + 1, (found, now), j, hr, hh, hc, hf => by
    rw [ctLoop]
    cases now with
    | nil => exact ⟨found, rfl, ⟨j.nd, j.lt, fun x hx g hg => hc x hx (by simp) g hg⟩, hh, hr⟩
    | cons x now =>
      have hl := j.len
      have hf' : s.length + 2 ≤ f + 1 + found.length := by
        rcases hf with ⟨h, _⟩ | h
        · cases h
        · exact h
      have hrn : ∀ y ∈ x :: now, Rch s k y := fun y hy => hr y (j.sub y hy)
      obtain ⟨g1, g2, g3, g4⟩ := CtI.now T (l := x :: now) (st := (found, [])) (K0 := keys found) ⟨by simp, hr⟩ ⟨j.nd, j.lt, j.wl, by simp, by simp⟩ hrn
      have hks := g1.ks
      simp only [List.isEmpty_cons, Bool.false_eq_true, if_false]
      generalize (x :: now).foldl (ctRow s) (found, []) = st' at *
      have hlen : st'.1.length = found.length + st'.2.length := by
        have := congrArg List.length hks
        unfold keys at this
        simpa using this
      refine ct_loop T f st' g2 g1.rch ?_ (fun y hy hn g hg => ?_) ?_
      · rw [hks]
        cases hq : keys found with
        | nil => rw [hq] at hh; cases hh
        | cons a l => rw [hq] at hh; exact hh
      · rw [hks] at hy
        rcases List.mem_append.mp hy with hy | hy
        · by_cases hm : y ∈ x :: now
          · exact g3 y hm g hg
          · exact g4 g (hc y hy hm g hg)
        · exact (hn hy).elim
      · cases hq : st'.2 with
        | nil => exact .inl ⟨rfl, by simp at hl; omega⟩
        | cons a l => rw [hq] at hlen; simp at hlen; exact .inr (by omega)
theorem ct_ok {s : List (List Nat)} {k : Nat} (T : Tb s k) : ∃ f r, ctLoop s f ([(0, [])], [0]) = some r ∧ Cl s (keys r) ∧ (keys r).head? = some 0 ∧ ∀ x ∈ keys r, Rch s k x := by
  obtain ⟨r, h⟩ := ct_loop T (s.length + 1) ([(0, [])], [0]) ⟨by simp [keys], fun x hx => by simp [keys] at hx; subst hx; exact T.pos, by simp, by simp [keys], by simp⟩ (fun x hx => by simp [keys] at hx; subst hx; exact ⟨[], (fun a ha => by cases ha), rfl⟩) rfl (fun x hx hn => by simp [keys] at hx; subst hx; simp at hn) (.inr (by simp))
  exact ⟨_, r, h⟩
end GL
end
/-! ## M2 -/
section
namespace GL
open PySem PySem.Spec PyProof.Rows
/-! ### how many values -/
theorem kn_nodup {α : Type} [DecidableEq α] : ∀ (l s : List α), s.Nodup → (l.foldl knStep s).Nodup
  | [], s, h => h
  | a :: l, s, h => by
    rw [List.foldl_cons]
    refine kn_nodup l _ ?_
    unfold knStep
    split
    · exact h
    · rename_i ha
      refine List.nodup_append.mpr ⟨h, by simp, fun x hx y hy => ?_⟩
      rw [List.mem_singleton.mp hy]
      exact fun e => ha (e ▸ hx)
theorem mem_iN {x : Nat} {l : List Nat} : (x : Int) ∈ iN l ↔ x ∈ l := by
  unfold iN
  rw [List.mem_map]
  exact ⟨fun ⟨y, hy, e⟩ => by rw [← Int.ofNat.inj e]; exact hy, fun h => ⟨x, h, rfl⟩⟩
theorem kn_iN : ∀ (l s : List Nat), (iN l).foldl knStep (iN s) = iN (l.foldl knStep s)
  | [], s => rfl
  | a :: l, s => by
    show (iN l).foldl knStep (knStep (iN s) (a : Int)) = iN (l.foldl knStep (knStep s a))
    have : knStep (iN s) (a : Int) = iN (knStep s a) := by
      unfold knStep
      by_cases h : a ∈ s
      · rw [if_pos h, if_pos (mem_iN.mpr h)]
      · rw [if_neg h, if_neg (fun q => h (mem_iN.mp q))]; unfold iN; rw [List.map_append]; rfl
    rw [this, kn_iN l]
theorem cnt_known (l : List Nat) : cntN l = (knownF l).length := by
  unfold cntN
  rw [PySem.W.oss_met]
  have e : PySem.W.ossOf (iN l) = (iN l).foldl knStep (iN []) := by
    unfold PySem.W.ossOf
    have : step_dedup = (knStep : List Int → Int → List Int) := by
      funext ks a
      rw [PySem.W.oss_step]; rfl
    rw [this]; rfl
  rw [e, kn_iN]
  unfold iN knownF
  rw [List.length_map]
theorem cnt_le {sts : List Nat} {f g : Nat → Nat} (href : ∀ x ∈ sts, ∀ y ∈ sts, f x = f y → g x = g y) : cntN (sts.map g) ≤ cntN (sts.map f) ∧ (cntN (sts.map g) = cntN (sts.map f) → ∀ x ∈ sts, ∀ y ∈ sts, g x = g y → f x = f y) := by
  rw [cnt_known, cnt_known]
  let φ : Nat → Nat := fun v => match sts.find? (fun x => decide (f x = v)) with | some x => g x | none => 0
  have hφ : ∀ x ∈ sts, φ (f x) = g x := fun x hx => by
    show (match sts.find? (fun y => decide (f y = f x)) with | some x => g x | none => 0) = g x
    cases q : sts.find? (fun y => decide (f y = f x)) with
    | none => exact absurd (List.find?_eq_none.mp q x hx) (by simp)
    | some y =>
      have h1 := List.find?_some q
      exact href y (List.mem_of_find?_eq_some q) x hx (of_decide_eq_true h1)
  have gm : ∀ v ∈ knownF (sts.map g), ∃ x ∈ sts, g x = v := fun v hv => by
    have := (kn_mem (sts.map g) [] v).mp hv
    simpa using this
  have fm : ∀ x ∈ sts, f x ∈ knownF (sts.map f) := fun x hx => (kn_mem (sts.map f) [] _).mpr (.inr (List.mem_map.mpr ⟨x, hx, rfl⟩))
  have gn : (knownF (sts.map g)).Nodup := kn_nodup _ _ List.nodup_nil
  have fn : (knownF (sts.map f)).Nodup := kn_nodup _ _ List.nodup_nil
  refine ⟨?_, fun he x hx y hy e => Decidable.byContradiction fun hne => ?_⟩
  · have := nodup_sub_len (m := (knownF (sts.map f)).map φ) gn fun v hv => by
      obtain ⟨x, hx, rfl⟩ := gm v hv
      exact List.mem_map.mpr ⟨f x, fm x hx, hφ x hx⟩
    rwa [List.length_map] at this
  · have hsub := nodup_sub_len (m := ((knownF (sts.map f)).erase (f x)).map φ) gn fun v hv => by
      obtain ⟨z, hz, rfl⟩ := gm v hv
      by_cases hzx : f z = f x
      · refine List.mem_map.mpr ⟨f y, (fn.mem_erase_iff).mpr ⟨fun q => hne q.symm, fm y hy⟩, ?_⟩
        rw [hφ y hy, ← e, href z hz x hx hzx]
      · exact List.mem_map.mpr ⟨f z, (fn.mem_erase_iff).mpr ⟨hzx, fm z hz⟩, hφ z hz⟩
    rw [List.length_map, List.length_erase_of_mem (fm x hx)] at hsub
    have hpos : 0 < (knownF (sts.map f)).length := List.length_pos_iff.mpr fun q => by have := fm x hx; rw [q] at this; cases this
    omega
theorem cnt_len (l : List Nat) : cntN l ≤ l.length := by
  rw [cnt_known]
  refine nodup_sub_len (kn_nodup _ _ List.nodup_nil) fun x hx => ?_
  have := (kn_mem l [] x).mp hx
  simpa using this
/-! ### kinds_of -/
def Eqv (s : List (List Nat)) (k : Nat) (e : List Nat) (x y : Nat) : Prop := ∀ v, Vd k v → (run s x v ∈ e ↔ run s y v ∈ e)
theorem Eqv.go {s : List (List Nat)} {k : Nat} {e : List Nat} {x y a : Nat} (h : Eqv s k e x y) (ha : a < k) : Eqv s k e (GL.go s x a) (GL.go s y a) := fun v hv => h (a :: v) fun b hb => by
  rcases List.mem_cons.mp hb with rfl | hb
  · exact ha
  · exact hv b hb
/-- a numbering of the states that is stable under the letters and tells the ends apart is the equivalence -/
theorem eqv_of {s : List (List Nat)} {k : Nat} {e sts : List Nat} (C : Cl s sts) (T : Tb s k) {f : Nat → Nat} (h0 : ∀ x ∈ sts, ∀ y ∈ sts, f x = f y → (x ∈ e ↔ y ∈ e)) (h1 : ∀ x ∈ sts, ∀ y ∈ sts, f x = f y → ∀ a < k, f (GL.go s x a) = f (GL.go s y a)) : ∀ x ∈ sts, ∀ y ∈ sts, f x = f y → Eqv s k e x y := by
  intro x hx y hy hf v
  induction v generalizing x y with
  | nil => intro _; exact h0 x hx y hy hf
  | cons a v ih =>
    intro hv
    have ha := hv a List.mem_cons_self
    exact ih _ (C.cl x hx _ (go_row T (C.lt x hx) ha)) _ (C.cl y hy _ (go_row T (C.lt y hy) ha)) (h1 x hx y hy hf a ha) fun b hb => hv b (List.mem_cons_of_mem _ hb)
end GL
end
/-! ## M3 -/
section
namespace GL
theorem at_map (h : Nat → Nat) : ∀ {sts : List Nat} {x : Nat}, x ∈ sts → at' (sts.map fun x => (x, h x)) x 0 = h x
  | [], x, hx => by cases hx
  | y :: sts, x, hx => by
    unfold at'
    rw [List.map_cons, List.find?_cons]
    by_cases e : y = x
    · subst e; simp
    · have hx' : x ∈ sts := by
        rcases List.mem_cons.mp hx with q | q
        · exact (e q.symm).elim
        · exact q
      have ih := at_map h hx'
      unfold at' at ih
      simp only [e, decide_false]
      exact ih
theorem vals_at : ∀ {f : KiF}, (keys f).Nodup → vals f = (keys f).map fun x => at' f x 0
  | [], _ => rfl
  | z :: f, h => by
    have h' : z.1 ∉ keys f ∧ (keys f).Nodup := List.nodup_cons.mp h
    have ih := vals_at h'.2
    show z.2 :: vals f = at' (z :: f) z.1 0 :: (keys f).map fun x => at' (z :: f) x 0
    have e1 : at' (z :: f) z.1 0 = z.2 := by unfold at'; rw [List.find?_cons]; simp
    rw [e1, ih]
    congr 1
    refine List.map_congr_left fun x hx => ?_
    have hne : z.1 ≠ x := fun q => h'.1 (q ▸ hx)
    unfold at'
    rw [List.find?_cons]
    simp [hne]
section
variable {s : List (List Nat)} {k : Nat} {e sts : List Nat}
theorem next_at {f : KiF} {x : Nat} (hx : x ∈ sts) : at' (nextK s sts f) x 0 = (sortK s f sts).idxOf (keyOf s f x) := at_map (fun x => (sortK s f sts).idxOf (keyOf s f x)) hx
theorem next_iff {f : KiF} {x y : Nat} (hx : x ∈ sts) (hy : y ∈ sts) : at' (nextK s sts f) x 0 = at' (nextK s sts f) y 0 ↔ keyOf s f x = keyOf s f y := by
  rw [next_at hx, next_at hy]
  have m1 : keyOf s f x ∈ sortK s f sts := sortC_mem.mpr (List.mem_map.mpr ⟨x, hx, rfl⟩)
  have m2 : keyOf s f y ∈ sortK s f sts := sortC_mem.mpr (List.mem_map.mpr ⟨y, hy, rfl⟩)
  refine ⟨fun h => ?_, fun h => by rw [h]⟩
  have l1 := List.idxOf_lt_length_iff.mpr m1
  have l2 := List.idxOf_lt_length_iff.mpr m2
  have e1 := List.getElem_idxOf l1
  have e2 := List.getElem_idxOf l2
  simp only [h] at e1
  exact e1.symm.trans e2
theorem key_iff (T : Tb s k) {f : KiF} {x y : Nat} (hx : x < s.length) (hy : y < s.length) : keyOf s f x = keyOf s f y ↔ at' f x 0 = at' f y 0 ∧ ∀ a < k, at' f (go s x a) 0 = at' f (go s y a) 0 := by
  have hlx := T.row _ (rw_mem hx)
  have hly := T.row _ (rw_mem hy)
  unfold keyOf
  rw [List.cons.injEq]
  refine and_congr_right fun _ => ⟨fun h a ha => ?_, fun h => ?_⟩
  · have := congrArg (fun l => l[a]?) h
    simp only [List.getElem?_map] at this
    rw [List.getElem?_eq_getElem (by omega), List.getElem?_eq_getElem (by omega)] at this
    unfold go
    rw [List.getD_eq_getElem?_getD, List.getD_eq_getElem?_getD, List.getElem?_eq_getElem (by omega), List.getElem?_eq_getElem (by omega)]
    simpa using this
  · apply List.ext_getElem
    · simp [hlx, hly]
    · intro a h1 h2
      rw [List.getElem_map, List.getElem_map]
      rw [List.length_map, hlx] at h1
      have := h a h1
      unfold go at this
      rw [List.getD_eq_getElem?_getD, List.getD_eq_getElem?_getD, List.getElem?_eq_getElem (by omega), List.getElem?_eq_getElem (by omega)] at this
      simpa using this
theorem ki_loop (T : Tb s k) (C : Cl s sts) (hl : sts.length ≤ 5) : ∀ (n many : Nat) (f : KiF), KiJ sts f → (∀ x ∈ sts, ∀ y ∈ sts, Eqv s k e x y → at' f x 0 = at' f y 0) → (∀ x ∈ sts, ∀ y ∈ sts, at' f x 0 = at' f y 0 → (x ∈ e ↔ y ∈ e)) → many ≤ cntN (vals f) →
    (many = cntN (vals f) → ∀ x ∈ sts, ∀ y ∈ sts, at' f x 0 = at' f y 0 → ∀ a < k, at' f (go s x a) 0 = at' f (go s y a) 0) → sts.length + 2 ≤ n + many →
    ∃ r, kiLoop s sts n many f = some r ∧ KiJ sts r ∧ ∀ x ∈ sts, ∀ y ∈ sts, (at' r x 0 = at' r y 0 ↔ Eqv s k e x y)
  | 0, many, f, j, hA, hB, hm, hs, hn => by
    have h1 := cnt_len (vals f)
    have h2 : (vals f).length = sts.length := by rw [← j.ks]; unfold vals keys; simp
    omega
  | n + 1, many, f, j, hA, hB, hm, hs, hn => by
    rw [kiLoop]
    have h1 := cnt_len (vals f)
    have h2 : (vals f).length = sts.length := by rw [← j.ks]; unfold vals keys; simp
    by_cases he : many = cntN (vals f)
    · rw [if_pos he]
      exact ⟨f, rfl, j, fun x hx y hy => ⟨fun h => eqv_of C T hB (hs he) x hx y hy h, hA x hx y hy⟩⟩
    · rw [if_neg he]
      have j' := next_j (s := s) (f := f) hl
      have hv : vals f = sts.map fun x => at' f x 0 := by have := vals_at (f := f) (by rw [j.ks]; exact C.nd); rw [j.ks] at this; exact this
      have hv' : vals (nextK s sts f) = sts.map fun x => at' (nextK s sts f) x 0 := by have := vals_at (f := nextK s sts f) (by rw [j'.ks]; exact C.nd); rw [j'.ks] at this; exact this
      have href : ∀ x ∈ sts, ∀ y ∈ sts, at' (nextK s sts f) x 0 = at' (nextK s sts f) y 0 → at' f x 0 = at' f y 0 := fun x hx y hy h => ((key_iff T (C.lt x hx) (C.lt y hy)).mp ((next_iff hx hy).mp h)).1
      obtain ⟨c1, c2⟩ := cnt_le href
      rw [← hv, ← hv'] at c1 c2
      refine ki_loop T C hl n _ _ j' (fun x hx y hy h => ?_) (fun x hx y hy h => hB x hx y hy (href x hx y hy h)) c1 (fun heq x hx y hy h a ha => ?_) (by omega)
      · refine (next_iff hx hy).mpr ((key_iff T (C.lt x hx) (C.lt y hy)).mpr ⟨hA x hx y hy h, fun a ha => ?_⟩)
        exact hA _ (C.cl x hx _ (go_row T (C.lt x hx) ha)) _ (C.cl y hy _ (go_row T (C.lt y hy) ha)) (h.go ha)
      · have g1 := ((key_iff T (C.lt x hx) (C.lt y hy)).mp ((next_iff hx hy).mp h)).2 a ha
        exact c2 heq _ (C.cl x hx _ (go_row T (C.lt x hx) ha)) _ (C.cl y hy _ (go_row T (C.lt y hy) ha)) g1
theorem ki_ok (T : Tb s k) (C : Cl s sts) (hne : sts ≠ []) : ∃ n r, kiLoop s sts n 0 (kind0 e sts) = some r ∧ KiJ sts r ∧ ∀ x ∈ sts, ∀ y ∈ sts, (at' r x 0 = at' r y 0 ↔ Eqv s k e x y) := by
  have hl : sts.length ≤ 5 := Nat.le_trans (nodup_le C.nd C.lt) T.le
  have h0 : ∀ x ∈ sts, at' (kind0 e sts) x 0 = if x ∈ e then 1 else 0 := fun x hx => at_map (fun x => if x ∈ e then 1 else 0) hx
  have hiff : ∀ x ∈ sts, ∀ y ∈ sts, (at' (kind0 e sts) x 0 = at' (kind0 e sts) y 0 ↔ (x ∈ e ↔ y ∈ e)) := fun x hx y hy => by
    rw [h0 x hx, h0 y hy]
    by_cases p : x ∈ e <;> by_cases q : y ∈ e <;> simp [p, q]
  have hpos : 0 < cntN (vals (kind0 e sts)) := by
    rw [cnt_known]
    refine List.length_pos_iff.mpr fun q => ?_
    cases hs : sts with
    | nil => exact hne hs
    | cons x l =>
      have hm : (vals (kind0 e sts)) ≠ [] := by unfold vals kind0; rw [hs]; simp
      obtain ⟨v, hv⟩ := List.exists_mem_of_ne_nil _ hm
      have := (kn_mem (vals (kind0 e sts)) [] v).mpr (.inr hv)
      unfold knownF at q
      rw [q] at this; cases this
  obtain ⟨r, h⟩ := ki_loop (e := e) T C hl (sts.length + 2) 0 (kind0 e sts) kind0_j (fun x hx y hy h => (hiff x hx y hy).mpr (h [] fun a ha => by cases ha)) (fun x hx y hy h => (hiff x hx y hy).mp h) (Nat.zero_le _) (fun h => by omega) (by omega)
  exact ⟨_, r, h⟩
end
end GL
end
/-! ## M4 -/
section
namespace GL
/-- the least table of a machine, up to names -/
structure MinOf (s : List (List Nat)) (e : List Nat) (k : Nat) (S : List (List Nat)) : Prop where
  T : Tb S k
  rch : ∀ q < S.length, Rch S k q
  same : ∀ w1 w2, Vd k w1 → Vd k w2 → (run S 0 w1 = run S 0 w2 ↔ ∀ v, Vd k v → (run s 0 (w1 ++ v) ∈ e ↔ run s 0 (w2 ++ v) ∈ e))
theorem min_of {s : List (List Nat)} {e : List Nat} {k : Nat} {S : List (List Nat)} (Ts : Tb s k) (φ rep : Nat → Nat) (hN : S.length ≤ 5) (hrow : ∀ r ∈ S, r.length = k) (hrep : ∀ i < S.length, Rch s k (rep i) ∧ φ (rep i) = i) (hgo : ∀ i < S.length, ∀ a < k, go S i a = φ (go s (rep i) a))
    (hlt : ∀ x, Rch s k x → φ x < S.length) (hiff : ∀ x y, Rch s k x → Rch s k y → (φ x = φ y ↔ Eqv s k e x y)) (h0 : φ 0 = 0) : MinOf s e k S := by
  have r0 : Rch s k 0 := ⟨[], (fun a ha => by cases ha), rfl⟩
  have hpos : 1 ≤ S.length := by have := hlt 0 r0; omega
  have T : Tb S k := by
    refine ⟨hpos, hN, Ts.kpos, Ts.kle, hrow, fun r hr x hx => ?_⟩
    obtain ⟨i, hi, rfl⟩ := List.mem_iff_getElem.mp hr
    obtain ⟨a, ha, rfl⟩ := List.mem_iff_getElem.mp hx
    have hak : a < k := by rw [← hrow _ hr]; exact ha
    have e1 : go S i a = S[i][a] := by
      unfold go rw'
      simp [List.getD_eq_getElem?_getD, List.getElem?_eq_getElem hi, List.getElem?_eq_getElem ha]
    rw [← e1, hgo i hi a hak]
    exact hlt _ ((hrep i hi).1.go hak)
  have step : ∀ x, Rch s k x → ∀ a < k, go S (φ x) a = φ (go s x a) := fun x hx a ha => by
    obtain ⟨h1, h2⟩ := hrep (φ x) (hlt x hx)
    rw [hgo _ (hlt x hx) a ha]
    exact (hiff _ _ (h1.go ha) (hx.go ha)).mpr (((hiff _ _ h1 hx).mp h2).go ha)
  have hrun : ∀ w, Vd k w → ∀ x, Rch s k x → run S (φ x) w = φ (run s x w) := fun w => by
    induction w with
    | nil => intro _ x _; rfl
    | cons a w ih =>
      intro hv x hx
      have ha := hv a List.mem_cons_self
      show run S (go S (φ x) a) w = φ (run s (go s x a) w)
      rw [step x hx a ha]
      exact ih (fun b hb => hv b (List.mem_cons_of_mem _ hb)) _ (hx.go ha)
  have hrun0 : ∀ w, Vd k w → run S 0 w = φ (run s 0 w) := fun w hw => by
    have := hrun w hw 0 r0
    rwa [h0] at this
  refine ⟨T, fun q hq => ?_, fun w1 w2 h1 h2 => ?_⟩
  · obtain ⟨⟨w, hw, e1⟩, e2⟩ := hrep q hq
    exact ⟨w, hw, by rw [hrun0 w hw, e1, e2]⟩
  · rw [hrun0 w1 h1, hrun0 w2 h2, hiff _ _ ⟨w1, h1, rfl⟩ ⟨w2, h2, rfl⟩]
    unfold Eqv
    refine ⟨fun h v hv => by rw [run_app, run_app]; exact h v hv, fun h v hv => by have := h v hv; rwa [run_app, run_app] at this⟩
/-! ### least_of -/
theorem at_zip (v : Nat → Nat) (v0 : Nat) : ∀ (fs : List Nat) (n : Nat), v0 ∈ fs.map v → ∃ i, ∃ hi : i < fs.length, at' ((fs.zipIdx n).map fun z => (v z.1, z.2)) v0 0 = n + i ∧ v fs[i] = v0
  | [], _, h => by cases h
  | x :: fs, n, h => by
    rw [List.zipIdx_cons, List.map_cons]
    unfold at'
    rw [List.find?_cons]
    by_cases e : v x = v0
    · exact ⟨0, by simp, by simp [e], e⟩
    · have h' : v0 ∈ fs.map v := by
        rcases List.mem_cons.mp h with q | q
        · exact (e q.symm).elim
        · exact q
      obtain ⟨i, hi, h1, h2⟩ := at_zip v v0 fs (n + 1) h'
      unfold at' at h1
      refine ⟨i + 1, by simp; omega, ?_, h2⟩
      simp only [e, decide_false]
      rw [h1]; omega
structure FiI (f : KiF) (st : FiS) : Prop where
  nb : st.1 = st.2.zipIdx.map fun z => (at' f z.1 0, z.2)
  nd : (keys st.1).Nodup
theorem FiI.keys {f : KiF} {st : FiS} (h : FiI f st) : keys st.1 = st.2.map fun x => at' f x 0 := by
  unfold GL.keys
  rw [h.nb, List.map_map]
  have : st.2.zipIdx.map (fun z => z.1) = st.2 := by simp
  conv => rhs; rw [← this]
  rw [List.map_map]; rfl
theorem FiI.step {f : KiF} {st : FiS} (h : FiI f st) (x : Nat) : FiI f (fiStep f st x) := by
  unfold fiStep
  split
  · exact h
  · rename_i hn
    refine ⟨?_, ?_⟩
    · show st.1 ++ [(at' f x 0, st.2.length)] = ((st.2 ++ [x]).zipIdx.map fun z => (at' f z.1 0, z.2))
      rw [List.zipIdx_append, List.map_append, ← h.nb]
      simp
    · unfold GL.keys
      rw [List.map_append]
      refine List.nodup_append.mpr ⟨h.nd, by simp, fun a ha b hb => ?_⟩
      simp only [List.map_cons, List.map_nil, List.mem_singleton] at hb
      subst hb
      exact fun e => hn (e ▸ ha)
theorem fi_fold {f : KiF} : ∀ (l : List Nat) {st : FiS}, FiI f st → FiI f (l.foldl (fiStep f) st)
  | [], _, h => h
  | x :: l, _, h => fi_fold l (h.step x)
theorem fi_len {f : KiF} : ∀ (l : List Nat) (st : FiS), (l.foldl (fiStep f) st).2.length ≤ st.2.length + l.length
  | [], st => by simp
  | x :: l, st => by
    have h := fi_len (f := f) l (fiStep f st x)
    have : (fiStep f st x).2.length ≤ st.2.length + 1 := by unfold fiStep; split <;> simp
    rw [List.foldl_cons, List.length_cons]; omega
theorem least_min {s : List (List Nat)} {e : List Nat} {k : Nat} (Ts : Tb s k) : ∃ S' E', LeastP s e S' E' ∧ MinOf s e k S' := by
  obtain ⟨f1, r1, h1, C, hh, hr⟩ := ct_ok Ts
  have hne : keys r1 ≠ [] := fun q => by rw [q] at hh; cases hh
  obtain ⟨f2, r2, h2, j, hiff⟩ := ki_ok (e := e) Ts C hne
  refine ⟨_, _, ⟨f1, r1, f2, r2, h1, C, h2, rfl, rfl⟩, ?_⟩
  have hl : (keys r1).length ≤ 5 := Nat.le_trans (nodup_le C.nd C.lt) Ts.le
  -- the states met are those that are reached
  have hin : ∀ x, Rch s k x → x ∈ keys r1 := fun x ⟨w, hw, ex⟩ => by
    have h0 : 0 ∈ keys r1 := by
      cases hq : keys r1 with
      | nil => exact (hne hq).elim
      | cons a l => rw [hq] at hh; cases hh; exact List.mem_cons_self
    have key : ∀ w, Vd k w → ∀ x ∈ keys r1, run s x w ∈ keys r1 := fun w => by
      induction w with
      | nil => intro _ x hx; exact hx
      | cons a w ih =>
        intro hv x hx
        exact ih (fun b hb => hv b (List.mem_cons_of_mem _ hb)) _ (C.cl x hx _ (go_row Ts (C.lt x hx) (hv a List.mem_cons_self)))
    rw [← ex]; exact key w hw 0 h0
  have I : FiI r2 (fiF r2 (keys r1)) := fi_fold _ ⟨rfl, List.nodup_nil⟩
  have hfl : (fiF r2 (keys r1)).2.length ≤ (keys r1).length := by have := fi_len (f := r2) (keys r1) ([], []); simpa [fiF] using this
  have hfm : ∀ x ∈ (fiF r2 (keys r1)).2, x ∈ keys r1 := fi_mem (fun x h => h) (fun x h => by cases h)
  have hhas := (fi_has (f := r2) (l := keys r1) (st := ([], []))).2
  change ∀ x ∈ keys r1, at' r2 x 0 ∈ keys (fiF r2 (keys r1)).1 at hhas
  have hrows : (rowsF s r2 (keys r1)).length = (fiF r2 (keys r1)).2.length := by unfold rowsF; simp
  have hfirst : (fiF r2 (keys r1)).2[0]? = some 0 := by
    cases hq : keys r1 with
    | nil => exact (hne hq).elim
    | cons a l =>
      rw [hq] at hh
      cases hh
      have key : ∀ (l : List Nat) (st : FiS), st.2[0]? = some 0 → (l.foldl (fiStep r2) st).2[0]? = some 0 := fun l => by
        induction l with
        | nil => intro st h; exact h
        | cons x l ih =>
          intro st h
          refine ih _ ?_
          unfold fiStep
          split
          · exact h
          · cases h2 : st.2 with
            | nil => rw [h2] at h; cases h
            | cons y m => rw [h2] at h; exact h
      refine key l _ ?_
      show (fiStep r2 ([], []) 0).2[0]? = some 0
      unfold fiStep
      simp [keys]
  have hval : ∀ x ∈ keys r1, ∃ i, ∃ hi : i < (fiF r2 (keys r1)).2.length, at' (fiF r2 (keys r1)).1 (at' r2 x 0) 0 = i ∧ at' r2 (fiF r2 (keys r1)).2[i] 0 = at' r2 x 0 := fun x hx => by
    have hm := hhas x hx
    rw [I.keys] at hm
    obtain ⟨i, hi, g1, g2⟩ := at_zip (fun x => at' r2 x 0) (at' r2 x 0) (fiF r2 (keys r1)).2 0 hm
    refine ⟨i, hi, ?_, g2⟩
    rw [I.nb, g1, Nat.zero_add]
  have hself : ∀ i (hi : i < (fiF r2 (keys r1)).2.length), at' (fiF r2 (keys r1)).1 (at' r2 (fiF r2 (keys r1)).2[i] 0) 0 = i := fun i hi => by
    obtain ⟨q, hq, g1, g2⟩ := hval _ (hfm _ (List.getElem_mem hi))
    rw [g1]
    have hnd := I.nd
    rw [I.keys] at hnd
    have := (List.getElem_inj (i := q) (j := i) (h₀ := by simpa using hq) (h₁ := by simpa using hi) hnd).mp (by rw [List.getElem_map, List.getElem_map]; exact g2)
    exact this
  refine min_of Ts (fun x => at' (fiF r2 (keys r1)).1 (at' r2 x 0) 0) (fun i => (fiF r2 (keys r1)).2.getD i 0) (by omega) (fun r hr' => ?_) (fun i hi => ?_) (fun i hi a ha => ?_) (fun x hx => ?_) (fun x y hx hy => ?_) ?_
  · unfold rowsF at hr'
    obtain ⟨x, hx, rfl⟩ := List.mem_map.mp hr'
    rw [List.length_map]; exact Ts.row _ (rw_mem (C.lt x (hfm x hx)))
  · rw [hrows] at hi
    rw [List.getD_eq_getElem?_getD, List.getElem?_eq_getElem hi]
    exact ⟨hr _ (hfm _ (List.getElem_mem hi)), hself i hi⟩
  · rw [hrows] at hi
    have hx := C.lt _ (hfm _ (List.getElem_mem hi))
    have hrl := Ts.row _ (rw_mem hx)
    rw [List.getD_eq_getElem?_getD, List.getElem?_eq_getElem hi, Option.getD_some]
    unfold go
    have e1 : rw' (rowsF s r2 (keys r1)) i = (rw' s (fiF r2 (keys r1)).2[i]).map fun g => at' (fiF r2 (keys r1)).1 (at' r2 g 0) 0 := by
      show List.getD (rowsF s r2 (keys r1)) i [] = _
      unfold rowsF
      rw [List.getD_eq_getElem?_getD, List.getElem?_map, List.getElem?_eq_getElem hi]; rfl
    rw [e1, List.getD_eq_getElem?_getD, List.getElem?_map, List.getD_eq_getElem?_getD, List.getElem?_eq_getElem (by omega)]; rfl
  · obtain ⟨i, hi, g1, _⟩ := hval x (hin x hx)
    show at' (fiF r2 (keys r1)).1 (at' r2 x 0) 0 < _
    rw [g1, hrows]; exact hi
  · rw [← hiff x (hin x hx) y (hin y hy)]
    refine ⟨fun h => ?_, fun h => by show at' _ _ 0 = at' _ _ 0; rw [h]⟩
    obtain ⟨i, hi, g1, g2⟩ := hval x (hin x hx)
    obtain ⟨q, hq, g3, g4⟩ := hval y (hin y hy)
    have h' : at' (fiF r2 (keys r1)).1 (at' r2 x 0) 0 = at' (fiF r2 (keys r1)).1 (at' r2 y 0) 0 := h
    rw [g1, g3] at h'
    subst h'
    rw [← g2, g4]
  · have hi : 0 < (fiF r2 (keys r1)).2.length := by
      cases hq : (fiF r2 (keys r1)).2 with
      | nil => rw [hq] at hfirst; cases hfirst
      | cons _ _ => simp
    have e0 : (fiF r2 (keys r1)).2[0] = 0 := by
      have := List.getElem?_eq_getElem hi
      rw [hfirst] at this
      exact (Option.some.inj this).symm
    have := hself 0 hi
    rw [e0] at this
    exact this
end GL
end
/-! ## M5 -/
section
namespace GL
section
variable {s : List (List Nat)} {k : Nat} {e : List Nat}
def lt' (lot : List Nat) (x : Nat) : Nat := lot.getD x 0
def Stb (s : List (List Nat)) (k : Nat) (lot : List Nat) : Prop := ∀ x < s.length, ∀ y < s.length, lt' lot x = lt' lot y → ∀ a < k, lt' lot (go s x a) = lt' lot (go s y a)
theorem idxD_inj {α : Type} [DecidableEq α] {l : List α} {x y : α} (hx : x ∈ l) (hy : y ∈ l) (h : idxD l x = idxD l y) : x = y := by
  unfold idxD at h
  have l1 := List.idxOf_lt_length_iff.mpr hx
  have l2 := List.idxOf_lt_length_iff.mpr hy
  have e1 := List.getElem_idxOf l1
  have e2 := List.getElem_idxOf l2
  simp only [h] at e1
  exact e1.symm.trans e2
theorem llStep_at {lot : List Nat} {x : Nat} (hx : x < s.length) : lt' (llStep s lot) x = idxD (llRows s lot) (llRow s lot x) := by
  unfold lt' llStep
  have h1 : (llRows s lot)[x]? = some (llRow s lot x) := by unfold llRows; rw [List.getElem?_map, List.getElem?_range hx]; rfl
  rw [List.getD_eq_getElem?_getD, List.getElem?_map, h1]; rfl
theorem llRow_mem {lot : List Nat} {x : Nat} (hx : x < s.length) : llRow s lot x ∈ llRows s lot := List.mem_map.mpr ⟨x, List.mem_range.mpr hx, rfl⟩
theorem llRow_iff (T : Tb s k) {lot : List Nat} {x y : Nat} (hx : x < s.length) (hy : y < s.length) : llRow s lot x = llRow s lot y ↔ lt' lot x = lt' lot y ∧ ∀ a < k, lt' lot (go s x a) = lt' lot (go s y a) := by
  have hlx := T.row _ (rw_mem hx)
  have hly := T.row _ (rw_mem hy)
  unfold llRow lt'
  rw [List.cons.injEq]
  refine and_congr_right fun _ => ⟨fun h a ha => ?_, fun h => ?_⟩
  · have := congrArg (fun l => l[a]?) h
    simp only [List.getElem?_map] at this
    rw [List.getElem?_eq_getElem (by omega), List.getElem?_eq_getElem (by omega)] at this
    unfold go
    rw [List.getD_eq_getElem?_getD (l := rw' s x), List.getD_eq_getElem?_getD (l := rw' s y), List.getElem?_eq_getElem (by omega), List.getElem?_eq_getElem (by omega)]
    simpa using this
  · apply List.ext_getElem
    · simp [hlx, hly]
    · intro a h1 h2
      rw [List.getElem_map, List.getElem_map]
      rw [List.length_map, hlx] at h1
      have := h a h1
      unfold go at this
      rw [List.getD_eq_getElem?_getD (l := rw' s x), List.getD_eq_getElem?_getD (l := rw' s y), List.getElem?_eq_getElem (by omega), List.getElem?_eq_getElem (by omega)] at this
      simpa using this
theorem ll_iff (T : Tb s k) {lot : List Nat} {x y : Nat} (hx : x < s.length) (hy : y < s.length) : lt' (llStep s lot) x = lt' (llStep s lot) y ↔ lt' lot x = lt' lot y ∧ ∀ a < k, lt' lot (go s x a) = lt' lot (go s y a) := by
  rw [llStep_at hx, llStep_at hy, ← llRow_iff T hx hy]
  exact ⟨fun h => idxD_inj (llRow_mem hx) (llRow_mem hy) h, fun h => by rw [h]⟩
structure LlI (s : List (List Nat)) (k : Nat) (e : List Nat) (i : Nat) (lot : List Nat) : Prop where
  A : ∀ x < s.length, ∀ y < s.length, Eqv s k e x y → lt' lot x = lt' lot y
  B : ∀ x < s.length, ∀ y < s.length, lt' lot x = lt' lot y → (x ∈ e ↔ y ∈ e)
  C : i + 1 ≤ cntN ((List.range s.length).map (lt' lot)) ∨ Stb s k lot
theorem LlI.step (T : Tb s k) {i : Nat} {lot : List Nat} (h : LlI s k e i lot) : LlI s k e (i + 1) (llStep s lot) := by
  have href : ∀ x < s.length, ∀ y < s.length, lt' (llStep s lot) x = lt' (llStep s lot) y → lt' lot x = lt' lot y := fun x hx y hy q => ((ll_iff T hx hy).mp q).1
  refine ⟨fun x hx y hy q => ?_, fun x hx y hy q => h.B x hx y hy (href x hx y hy q), ?_⟩
  · exact (ll_iff T hx hy).mpr ⟨h.A x hx y hy q, fun a ha => h.A _ (T.go hx ha) _ (T.go hy ha) (q.go ha)⟩
  · have stab : Stb s k lot → Stb s k (llStep s lot) := fun st x hx y hy q a ha => by
      have q1 := href x hx y hy q
      have q2 := st x hx y hy q1 a ha
      exact (ll_iff T (T.go hx ha) (T.go hy ha)).mpr ⟨q2, st _ (T.go hx ha) _ (T.go hy ha) q2⟩
    rcases h.C with hc | hs
    · obtain ⟨c1, c2⟩ := cnt_le (sts := List.range s.length) (f := lt' (llStep s lot)) (g := lt' lot) fun x hx y hy q => href x (List.mem_range.mp hx) y (List.mem_range.mp hy) q
      by_cases he : cntN ((List.range s.length).map (lt' lot)) = cntN ((List.range s.length).map (lt' (llStep s lot)))
      · refine .inr (stab fun x hx y hy q a ha => ?_)
        exact ((ll_iff T hx hy).mp (c2 he x (List.mem_range.mpr hx) y (List.mem_range.mpr hy) q)).2 a ha
      · exact .inl (by omega)
    · exact .inr (stab hs)
theorem fold_iter {β : Type} (F : β → β) (P : Nat → β → Prop) (x : β) (h0 : P 0 x) (hs : ∀ i y, P i y → P (i + 1) (F y)) : ∀ n, P n ((List.range n).foldl (fun l _ => F l) x)
  | 0 => h0
  | n + 1 => by
    rw [List.range_succ, List.foldl_append]
    exact hs n _ (fold_iter F P x h0 hs n)
theorem ll_ok (T : Tb s k) : (∀ x < s.length, ∀ y < s.length, (lt' (llF s e) x = lt' (llF s e) y ↔ Eqv s k e x y)) ∧ Stb s k (llF s e) := by
  have h0 : ∀ x < s.length, lt' (ll0 s e) x = if x ∈ e then 1 else 0 := fun x hx => by
    unfold lt' ll0
    rw [List.getD_eq_getElem?_getD, List.getElem?_map, List.getElem?_range hx]; rfl
  have hiff : ∀ x < s.length, ∀ y < s.length, (lt' (ll0 s e) x = lt' (ll0 s e) y ↔ (x ∈ e ↔ y ∈ e)) := fun x hx y hy => by
    rw [h0 x hx, h0 y hy]
    by_cases p : x ∈ e <;> by_cases q : y ∈ e <;> simp [p, q]
  have hI := fold_iter (llStep s) (LlI s k e) (ll0 s e) ⟨fun x hx y hy h => (hiff x hx y hy).mpr (h [] fun a ha => by cases ha), fun x hx y hy h => (hiff x hx y hy).mp h, .inl (by
    rw [cnt_known]
    refine List.length_pos_iff.mpr fun q => ?_
    have := (kn_mem ((List.range s.length).map (lt' (ll0 s e))) [] (lt' (ll0 s e) 0)).mpr (.inr (List.mem_map.mpr ⟨0, List.mem_range.mpr T.pos, rfl⟩))
    unfold knownF at q
    rw [q] at this; cases this)⟩ (fun i y h => h.step T) s.length
  change LlI s k e s.length (llF s e) at hI
  have hst : Stb s k (llF s e) := by
    rcases hI.C with h | h
    · have := cnt_len ((List.range s.length).map (lt' (llF s e)))
      simp at this; omega
    · exact h
  have C : Cl s (List.range s.length) := ⟨List.nodup_range, fun x hx => List.mem_range.mp hx, fun x hx g hg => List.mem_range.mpr (T.cl _ (rw_mem (List.mem_range.mp hx)) g hg)⟩
  refine ⟨fun x hx y hy => ⟨fun h => ?_, hI.A x hx y hy⟩, hst⟩
  exact eqv_of C T (f := lt' (llF s e)) (fun x hx y hy h => hI.B x (List.mem_range.mp hx) y (List.mem_range.mp hy) h) (fun x hx y hy h => hst x (List.mem_range.mp hx) y (List.mem_range.mp hy) h) x (List.mem_range.mpr hx) y (List.mem_range.mpr hy) h
/-! ### the walk over the classes -/
structure LwI (s : List (List Nat)) (k : Nat) (lot : List Nat) (st : LwS) : Prop where
  rf : ∀ x ∈ st.2, Rch s k x
  cl : ∀ c ∈ st.1, ∃ x, Rch s k x ∧ lt' lot x = c ∧ (x ∈ st.2 ∨ ∀ g ∈ rw' s x, lt' lot g ∈ st.1)
theorem lw_fold (T : Tb s k) {lot : List Nat} : ∀ (l : List Nat) (st : LwS), (∀ g ∈ l, Rch s k g) → (∀ x ∈ st.2, Rch s k x) →
    (∀ c ∈ st.1, c ∈ (l.foldl (lwStep lot) st).1) ∧ (∀ x ∈ st.2, x ∈ (l.foldl (lwStep lot) st).2) ∧ (∀ g ∈ l, lt' lot g ∈ (l.foldl (lwStep lot) st).1) ∧ (∀ c ∈ (l.foldl (lwStep lot) st).1, c ∈ st.1 ∨ ∃ x ∈ (l.foldl (lwStep lot) st).2, lt' lot x = c) ∧ (∀ x ∈ (l.foldl (lwStep lot) st).2, Rch s k x) ∧ (l.foldl (lwStep lot) st).2.length + st.1.length = st.2.length + (l.foldl (lwStep lot) st).1.length ∧ st.1 <+: (l.foldl (lwStep lot) st).1
  | [], st, _, hr => ⟨fun c h => h, fun x h => h, fun g h => (by cases h), fun c h => .inl h, hr, rfl, List.prefix_refl _⟩
  | g :: l, st, hg, hr => by
    have hgr := hg g List.mem_cons_self
    by_cases hm : lot.getD g 0 ∈ st.1
    · have e1 : lwStep lot st g = st := by unfold lwStep; rw [if_pos hm]
      rw [List.foldl_cons, e1]
      obtain ⟨h1, h2, h3, h4, h5, h6, h7⟩ := lw_fold T (lot := lot) l st (fun x hx => hg x (List.mem_cons_of_mem _ hx)) hr
      refine ⟨h1, h2, fun x hx => ?_, h4, h5, h6, h7⟩
      rcases List.mem_cons.mp hx with rfl | hx
      · exact h1 _ hm
      · exact h3 x hx
    · have e1 : lwStep lot st g = (st.1 ++ [lot.getD g 0], st.2 ++ [g]) := by unfold lwStep; rw [if_neg hm]
      rw [List.foldl_cons, e1]
      obtain ⟨h1, h2, h3, h4, h5, h6, h7⟩ := lw_fold T (lot := lot) l (st.1 ++ [lot.getD g 0], st.2 ++ [g]) (fun x hx => hg x (List.mem_cons_of_mem _ hx)) (fun x hx => by
        rcases List.mem_append.mp hx with hx | hx
        · exact hr x hx
        · rw [List.mem_singleton.mp hx]; exact hgr)
      refine ⟨fun c hc => h1 c (List.mem_append_left _ hc), fun x hx => h2 x (List.mem_append_left _ hx), fun x hx => ?_, fun c hc => ?_, h5, by simp at h6 ⊢; omega, (List.prefix_append _ _).trans h7⟩
      · rcases List.mem_cons.mp hx with rfl | hx
        · exact h1 _ (List.mem_append_right _ (List.mem_singleton.mpr rfl))
        · exact h3 x hx
      · rcases h4 c hc with h | h
        · rcases List.mem_append.mp h with h | h
          · exact .inl h
          · exact .inr ⟨g, h2 g (List.mem_append_right _ (List.mem_singleton.mpr rfl)), (List.mem_singleton.mp h).symm⟩
        · exact .inr h
theorem lw_loop (T : Tb s k) {lot : List Nat} (hl : lot.length = s.length) : ∀ (n : Nat) (st : LwS), LwJ s lot st → LwI s k lot st → st.2.length + s.length + 1 ≤ n + st.1.length →
    ∃ wk, lwLoop s lot n st = some wk ∧ wk.Nodup ∧ (∀ c ∈ wk, c ∈ lot) ∧ st.1 <+: wk ∧ ∀ c ∈ wk, ∃ x, Rch s k x ∧ lt' lot x = c ∧ ∀ g ∈ rw' s x, lt' lot g ∈ wk
  | 0, st, j, I, hn => by
    have := nodup_sub_len j.nd j.ml
    omega
  | n + 1, (wk, []), j, I, hn => ⟨wk, rfl, j.nd, j.ml, List.prefix_refl _, fun c hc => by
      obtain ⟨x, h1, h2, h3⟩ := I.cl c hc
      exact ⟨x, h1, h2, h3.resolve_left (by simp)⟩⟩
  | n + 1, (wk, x :: fd), j, I, hn => by
    rw [lwLoop]
    have hx := I.rf x List.mem_cons_self
    have hxl := hx.lt T
    have hg : ∀ g ∈ rw' s x, Rch s k g := fun g hg => by
      obtain ⟨a, ha, e⟩ := row_go T hxl hg
      rw [← e]; exact hx.go ha
    have J0 : LwJ s lot (wk, fd) := ⟨j.nd, j.ml, fun y hy => j.fl y (List.mem_cons_of_mem _ hy), by have := j.ll; simp at this; show fd.length ≤ wk.length; omega⟩
    have J1 := LwJ.fold hl (l := rw' s x) J0 fun g hg => T.cl _ (rw_mem hxl) g hg
    obtain ⟨h1, h2, h3, h4, h5, h6, h7⟩ := lw_fold T (lot := lot) (rw' s x) (wk, fd) hg fun y hy => I.rf y (List.mem_cons_of_mem _ hy)
    have I1 : LwI s k lot ((rw' s x).foldl (lwStep lot) (wk, fd)) := by
      refine ⟨h5, fun c hc => ?_⟩
      rcases h4 c hc with h | ⟨y, hy, e⟩
      · obtain ⟨y, g1, g2, g3⟩ := I.cl c h
        refine ⟨y, g1, g2, ?_⟩
        rcases g3 with g3 | g3
        · rcases List.mem_cons.mp g3 with rfl | g3
          · exact .inr h3
          · exact .inl (h2 y g3)
        · exact .inr fun g hg => h1 _ (g3 g hg)
      · exact ⟨y, h5 y hy, e, .inl hy⟩
    obtain ⟨r, k1, k2, k3, k4, k5⟩ := lw_loop T hl n _ J1 I1 (by simp at hn h6 ⊢; omega)
    exact ⟨r, k1, k2, k3, h7.trans k4, k5⟩
end
end GL
end
/-! ## M6 -/
section
namespace GL
theorem lleast_min {s : List (List Nat)} {e : List Nat} {k : Nat} (Ts : Tb s k) : ∃ S' E', LLeastP s e S' E' ∧ MinOf s e k S' := by
  have hl := llF_len (s := s) (e := e)
  obtain ⟨hiff, hst⟩ := ll_ok (e := e) Ts
  generalize hlot : llF s e = lot at *
  have hpos := Ts.pos
  have r0 : Rch s k 0 := ⟨[], (fun a ha => by cases ha), rfl⟩
  obtain ⟨wk, h1, hnd, hml, hpre, hcl⟩ := lw_loop Ts hl (s.length + 1) ([lot.getD 0 0], [0]) ⟨by simp, fun x hx => by rw [List.mem_singleton.mp hx]; exact lot_mem (by omega), fun x hx => by rw [List.mem_singleton.mp hx]; exact hpos, by simp⟩ ⟨fun x hx => by rw [List.mem_singleton.mp hx]; exact r0, fun c hc => ⟨0, r0, by rw [List.mem_singleton.mp hc]; rfl, .inl (by simp)⟩⟩ (by simp; omega)
  have hwl : wk.length ≤ s.length := by rw [← hl]; exact nodup_sub_len hnd hml
  -- the heads
  have hhead : ∀ o ∈ wk, headF lot o < s.length ∧ lt' lot (headF lot o) = o := fun o ho => by
    obtain ⟨i, hi, e1⟩ := List.mem_iff_getElem.mp (hml o ho)
    have hin : i ∈ (List.range lot.length).filter fun k => decide (lot.getD k 0 = o) := by
      rw [List.mem_filter]
      refine ⟨List.mem_range.mpr hi, ?_⟩
      rw [List.getD_eq_getElem?_getD, List.getElem?_eq_getElem hi]; simp [e1]
    have hne : 0 < ((List.range lot.length).filter fun k => decide (lot.getD k 0 = o)).length := List.length_pos_iff.mpr fun q => by rw [q] at hin; cases hin
    have hm := List.getElem_mem hne
    obtain ⟨g1, g2⟩ := List.mem_filter.mp hm
    have e2 : headF lot o = ((List.range lot.length).filter fun k => decide (lot.getD k 0 = o))[0] := by
      unfold headF
      rw [List.getD_eq_getElem?_getD, List.getElem?_eq_getElem hne]; rfl
    rw [e2]
    exact ⟨by have := List.mem_range.mp g1; omega, of_decide_eq_true g2⟩
  have hclos : ∀ o ∈ wk, ∀ g ∈ rw' s (headF lot o), lt' lot g ∈ wk := fun o ho g hg => by
    obtain ⟨h2, h3⟩ := hhead o ho
    obtain ⟨x, hx, e1, h4⟩ := hcl o ho
    obtain ⟨a, ha, rfl⟩ := row_go Ts h2 hg
    have := hst _ h2 _ (hx.lt Ts) (h3.trans e1.symm) a ha
    rw [this]
    exact h4 _ (go_row Ts (hx.lt Ts) ha)
  refine ⟨_, _, ⟨s.length + 1, wk, by rw [hlot]; exact h1, by rw [hlot]; exact hml, fun h hh g hg => ?_, rfl, rfl⟩, ?_⟩
  · rw [hlot] at hh ⊢
    obtain ⟨o, ho, rfl⟩ := List.mem_map.mp hh
    exact hclos o ho g hg
  rw [hlot]
  -- reached states' classes are met
  have hmet : ∀ w, Vd k w → ∀ x, Rch s k x → lt' lot x ∈ wk → lt' lot (run s x w) ∈ wk := fun w => by
    induction w with
    | nil => intro _ x _ h; exact h
    | cons a w ih =>
      intro hv x hx h
      have ha := hv a List.mem_cons_self
      refine ih (fun b hb => hv b (List.mem_cons_of_mem _ hb)) _ (hx.go ha) ?_
      obtain ⟨y, hy, e1, h4⟩ := hcl _ h
      rw [hst _ (hx.lt Ts) _ (hy.lt Ts) e1.symm a ha]
      exact h4 _ (go_row Ts (hy.lt Ts) ha)
  have h0m : lt' lot 0 ∈ wk := by
    obtain ⟨t, ht⟩ := hpre
    rw [← ht]; exact List.mem_append_left _ (by show lt' lot 0 ∈ [lot.getD 0 0]; simp [lt'])
  have hin : ∀ x, Rch s k x → lt' lot x ∈ wk := fun x ⟨w, hw, ex⟩ => by rw [← ex]; exact hmet w hw 0 r0 h0m
  have hrows : (lrowsF s lot wk).length = wk.length := by unfold lrowsF; simp
  have hrep : ∀ i, ∃ x, i < wk.length → Rch s k x ∧ wk[i]? = some (lt' lot x) := fun i => by
    by_cases hi : i < wk.length
    · obtain ⟨x, hx, e1, _⟩ := hcl _ (List.getElem_mem hi)
      exact ⟨x, fun _ => ⟨hx, by rw [List.getElem?_eq_getElem hi, e1]⟩⟩
    · exact ⟨0, fun h => absurd h hi⟩
  have hidx : ∀ i c, wk[i]? = some c → idxD wk c = i := fun i c h => by
    obtain ⟨hi, e1⟩ := List.getElem?_eq_some_iff.mp h
    have hm : c ∈ wk := e1 ▸ List.getElem_mem hi
    have l1 := List.idxOf_lt_length_iff.mpr hm
    have e2 := List.getElem_idxOf l1
    unfold idxD
    exact (List.getElem_inj (h₀ := l1) (h₁ := hi) hnd).mp (e2.trans e1.symm)
  refine min_of Ts (fun x => idxD wk (lt' lot x)) (fun i => Classical.choose (hrep i)) (by rw [hrows]; have := Ts.le; omega) (fun r hr' => ?_) (fun i hi => ?_) (fun i hi a ha => ?_) (fun x hx => ?_) (fun x y hx hy => ?_) ?_
  · unfold lrowsF at hr'
    obtain ⟨x, hx, rfl⟩ := List.mem_map.mp hr'
    obtain ⟨o, ho, rfl⟩ := List.mem_map.mp hx
    rw [List.length_map]; exact Ts.row _ (rw_mem (hhead o ho).1)
  · rw [hrows] at hi
    obtain ⟨g1, g2⟩ := Classical.choose_spec (hrep i) hi
    exact ⟨g1, hidx i _ g2⟩
  · rw [hrows] at hi
    obtain ⟨g1, g2⟩ := Classical.choose_spec (hrep i) hi
    generalize Classical.choose (hrep i) = x at *
    obtain ⟨hi', e1⟩ := List.getElem?_eq_some_iff.mp g2
    have ho : wk[i] ∈ wk := List.getElem_mem hi
    obtain ⟨h2, h3⟩ := hhead _ ho
    have hrl := Ts.row _ (rw_mem h2)
    have e2 : rw' (lrowsF s lot wk) i = (rw' s (headF lot wk[i])).map fun g => idxD wk (lot.getD g 0) := by
      show List.getD (lrowsF s lot wk) i [] = _
      unfold lrowsF
      rw [List.getD_eq_getElem?_getD, List.getElem?_map, List.getElem?_map, List.getElem?_eq_getElem hi]; rfl
    have e3 : go (lrowsF s lot wk) i a = idxD wk (lt' lot (go s (headF lot wk[i]) a)) := by
      unfold go
      rw [e2, List.getD_eq_getElem?_getD, List.getElem?_map, List.getD_eq_getElem?_getD, List.getElem?_eq_getElem (by omega)]; rfl
    rw [e3, hst _ h2 _ (g1.lt Ts) (h3.trans e1) a ha]
  · rw [hrows]
    exact List.idxOf_lt_length_iff.mpr (hin x hx)
  · rw [← hiff x (hx.lt Ts) y (hy.lt Ts)]
    exact ⟨fun h => idxD_inj (hin x hx) (hin y hy) h, fun h => by show idxD _ _ = idxD _ _; rw [h]⟩
  · refine hidx 0 _ ?_
    obtain ⟨t, ht⟩ := hpre
    rw [← ht]; rfl
end GL
end
/-! ## M7 -/
section
namespace GL
/-! ### what leads back to 0 -/
def Bk (s : List (List Nat)) (k q : Nat) : Prop := ∃ v, Vd k v ∧ run s q v = 0
def AllBk (s : List (List Nat)) (k : Nat) : Prop := ∀ q < s.length, Bk s k q
section
variable {s : List (List Nat)} {k : Nat}
theorem Bk.of_go {q a : Nat} (ha : a < k) (h : Bk s k (go s q a)) : Bk s k q := by
  obtain ⟨v, hv, e⟩ := h
  exact ⟨a :: v, fun b hb => by
    rcases List.mem_cons.mp hb with rfl | hb
    · exact ha
    · exact hv b hb, e⟩
theorem full_iff {n : Nat} {l : List Nat} (hn : l.Nodup) (hl : ∀ x ∈ l, x < n) : l.length = n ↔ ∀ q < n, q ∈ l := by
  constructor
  · intro h q hq
    refine Decidable.byContradiction fun hm => ?_
    have := nodup_le (n := n) (l := q :: l) (List.nodup_cons.mpr ⟨hm, hn⟩) fun x hx => by
      rcases List.mem_cons.mp hx with rfl | hx
      · exact hq
      · exact hl x hx
    simp at this; omega
  · intro h
    have h1 := nodup_le hn hl
    have h2 := nodup_sub_len (l := List.range n) (m := l) List.nodup_range fun x hx => h x (List.mem_range.mp hx)
    simp at h2; omega
/-- a set closed backwards that holds 0 holds all that lead back -/
theorem back_in (T : Tb s k) {fd : List Nat} (h0 : 0 ∈ fd) (hc : ∀ q < s.length, ∀ g ∈ rw' s q, g ∈ fd → q ∈ fd) : ∀ q < s.length, Bk s k q → q ∈ fd := by
  intro q hq ⟨v, hv, e⟩
  induction v generalizing q with
  | nil => have : q = 0 := e; rw [this]; exact h0
  | cons a v ih =>
    have ha := hv a List.mem_cons_self
    exact hc q hq _ (go_row T hq ha) (ih _ (T.go hq ha) (fun b hb => hv b (List.mem_cons_of_mem _ hb)) e)
structure BkI (s : List (List Nat)) (k : Nat) (fd now : List Nat) : Prop where
  nd : fd.Nodup
  lt : ∀ x ∈ fd, x < s.length
  z : 0 ∈ fd
  bk : ∀ x ∈ fd, Bk s k x
  sub : ∀ x ∈ now, x ∈ fd
  cl : ∀ q < s.length, q ∉ fd → ∀ g ∈ rw' s q, g ∈ fd → g ∈ now
theorem bkNow_mem {fd now : List Nat} {q : Nat} : q ∈ bkNow s fd now ↔ q < s.length ∧ q ∉ fd ∧ ∃ g ∈ rw' s q, g ∈ now := by
  unfold bkNow
  rw [List.mem_map]
  constructor
  · rintro ⟨z, hz, rfl⟩
    obtain ⟨h1, h2⟩ := List.mem_filter.mp hz
    have hlt := zip_lt2 h1
    have e : z.1 = rw' s z.2 := by
      obtain ⟨g1, g2, g3⟩ := List.mem_zipIdx h1
      unfold rw'
      rw [List.getD_eq_getElem?_getD, List.getElem?_eq_getElem hlt, g3]; simp
    rw [Bool.and_eq_true] at h2
    refine ⟨hlt, by simpa using h2.1, ?_⟩
    obtain ⟨g, hg, hd⟩ := List.any_eq_true.mp h2.2
    exact ⟨g, e ▸ hg, of_decide_eq_true hd⟩
  · rintro ⟨h1, h2, g, hg, hm⟩
    refine ⟨(rw' s q, q), List.mem_filter.mpr ⟨?_, ?_⟩, rfl⟩
    · rw [List.mem_zipIdx_iff_getElem?]
      unfold rw'
      rw [List.getD_eq_getElem?_getD, List.getElem?_eq_getElem h1]; rfl
    · rw [Bool.and_eq_true]
      exact ⟨by simpa using h2, List.any_eq_true.mpr ⟨g, hg, decide_eq_true hm⟩⟩
theorem bkNow_nd {fd now : List Nat} : (bkNow s fd now).Nodup := by
  unfold bkNow
  have h1 : (s.zipIdx.map (·.2)).Nodup := by
    have : s.zipIdx.map (·.2) = List.range' 0 s.length := by simp
    rw [this]; exact List.nodup_range'
  exact (List.Sublist.map (·.2) (List.filter_sublist (l := s.zipIdx))).nodup h1
theorem bk_loop (T : Tb s k) : ∀ (n : Nat) (fd now : List Nat), BkI s k fd now → ((now = [] ∧ 1 ≤ n) ∨ s.length + 2 ≤ n + fd.length) → ∃ r, bkLoop s n fd now = some r ∧ BkI s k r []
  | 0, fd, now, I, hn => by
    rcases hn with ⟨_, h⟩ | h
    · cases h
    · have := nodup_le I.nd I.lt; omega
  | n + 1, fd, now, I, hn => by
    rw [bkLoop]
    cases hq : now with
    | nil => subst hq; exact ⟨fd, rfl, I⟩
    | cons a l =>
      rw [← hq]
      have hne : now.isEmpty = false := by rw [hq]; rfl
      rw [hne]
      simp only [Bool.false_eq_true, if_false]
      have hle := nodup_le I.nd I.lt
      have hn' : s.length + 2 ≤ n + 1 + fd.length := by
        rcases hn with ⟨h, _⟩ | h
        · rw [hq] at h; cases h
        · exact h
      refine bk_loop T n _ _ ⟨?_, fun x hx => ?_, List.mem_append_left _ I.z, fun x hx => ?_, fun x hx => List.mem_append_right _ hx, fun q hql hn g hg hm => ?_⟩ ?_
      · refine List.nodup_append.mpr ⟨I.nd, bkNow_nd, fun x hx y hy e => ?_⟩
        subst e
        exact (bkNow_mem.mp hy).2.1 hx
      · rcases List.mem_append.mp hx with hx | hx
        · exact I.lt x hx
        · exact (bkNow_mem.mp hx).1
      · rcases List.mem_append.mp hx with hx | hx
        · exact I.bk x hx
        · obtain ⟨h1, _, g, hg, hm⟩ := bkNow_mem.mp hx
          obtain ⟨a, ha, e⟩ := row_go T h1 hg
          exact Bk.of_go ha (e ▸ I.bk g (I.sub g hm))
      · have hqf : q ∉ fd := fun h => hn (List.mem_append_left _ h)
        rcases List.mem_append.mp hm with hm | hm
        · have := I.cl q hql hqf g hg hm
          exact (hn (List.mem_append_right _ (bkNow_mem.mpr ⟨hql, hqf, g, hg, this⟩))).elim
        · exact hm
      · cases hb : bkNow s fd now with
        | nil => exact .inl ⟨rfl, by omega⟩
        | cons b m => exact .inr (by simp; omega)
theorem back_ok (T : Tb s k) : ∃ fd, BackP s fd ∧ (fd.length = s.length ↔ AllBk s k) := by
  have b0 : Bk s k 0 := ⟨[], (fun a ha => by cases ha), rfl⟩
  obtain ⟨r, h1, I⟩ := bk_loop T (s.length + 1) [0] [0] ⟨by simp, fun x hx => by rw [List.mem_singleton.mp hx]; exact T.pos, by simp, fun x hx => by rw [List.mem_singleton.mp hx]; exact b0, fun x hx => hx, fun q _ _ g _ hm => hm⟩ (.inr (by simp))
  refine ⟨r, ⟨_, by have := T.le; omega, h1⟩, ?_⟩
  rw [full_iff I.nd I.lt]
  refine ⟨fun h q hq => I.bk q (h q hq), fun h q hq => back_in T I.z (fun q hq g hg hm => ?_) q hq (h q hq)⟩
  exact Decidable.byContradiction fun hn => by have := I.cl q hq hn g hg hm; cases this
/-! ### the law's -/
theorem lb_mem {fd : List Nat} {q : Nat} : q ∈ lbStep s fd ↔ q < s.length ∧ (q = 0 ∨ ∃ g ∈ rw' s q, g ∈ fd) := by
  unfold lbStep
  rw [List.mem_filter, List.mem_range, Bool.or_eq_true, decide_eq_true_iff]
  refine and_congr_right fun _ => or_congr_right ?_
  constructor
  · intro h
    cases hq : (rw' s q).filter fun g => decide (g ∈ fd) with
    | nil => rw [hq] at h; cases h
    | cons g l =>
      have : g ∈ (rw' s q).filter fun g => decide (g ∈ fd) := by rw [hq]; exact List.mem_cons_self
      obtain ⟨h1, h2⟩ := List.mem_filter.mp this
      exact ⟨g, h1, of_decide_eq_true h2⟩
  · rintro ⟨g, hg, hm⟩
    cases hq : (rw' s q).filter fun g => decide (g ∈ fd) with
    | nil =>
      have : g ∈ (rw' s q).filter fun g => decide (g ∈ fd) := List.mem_filter.mpr ⟨hg, decide_eq_true hm⟩
      rw [hq] at this; cases this
    | cons _ _ => rfl
structure LbI (s : List (List Nat)) (k i : Nat) (fd : List Nat) : Prop where
  nd : fd.Nodup
  lt : ∀ x ∈ fd, x < s.length
  z : 0 ∈ fd
  bk : ∀ x ∈ fd, Bk s k x
  up : ∀ x ∈ fd, x ∈ lbStep s fd
  C : i + 1 ≤ fd.length ∨ ∀ x ∈ lbStep s fd, x ∈ fd
theorem LbI.step (T : Tb s k) {i : Nat} {fd : List Nat} (h : LbI s k i fd) : LbI s k (i + 1) (lbStep s fd) := by
  have mono : ∀ x ∈ lbStep s fd, x ∈ lbStep s (lbStep s fd) := fun x hx => by
    obtain ⟨h1, h2⟩ := lb_mem.mp hx
    refine lb_mem.mpr ⟨h1, h2.imp id fun ⟨g, hg, hm⟩ => ⟨g, hg, h.up g hm⟩⟩
  refine ⟨(by unfold lbStep; exact (List.filter_sublist).nodup List.nodup_range), fun x hx => (lb_mem.mp hx).1, lb_mem.mpr ⟨T.pos, .inl rfl⟩, fun x hx => ?_, mono, ?_⟩
  · obtain ⟨h1, h2⟩ := lb_mem.mp hx
    rcases h2 with rfl | ⟨g, hg, hm⟩
    · exact ⟨[], (fun a ha => by cases ha), rfl⟩
    · obtain ⟨a, ha, e⟩ := row_go T h1 hg
      exact Bk.of_go ha (e ▸ h.bk g hm)
  · by_cases hs : ∀ x ∈ lbStep s fd, x ∈ fd
    · refine .inr fun x hx => ?_
      obtain ⟨h1, h2⟩ := lb_mem.mp hx
      exact lb_mem.mpr ⟨h1, h2.imp id fun ⟨g, hg, hm⟩ => ⟨g, hg, hs g hm⟩⟩
    · refine .inl ?_
      have : ∃ q ∈ lbStep s fd, q ∉ fd := Classical.byContradiction fun hh => hs fun x hx => Classical.byContradiction fun hn => hh ⟨x, hx, hn⟩
      obtain ⟨q, hq, hn⟩ := this
      have h1 := nodup_sub_len (l := q :: fd) (m := lbStep s fd) (List.nodup_cons.mpr ⟨hn, h.nd⟩) fun x hx => by
        rcases List.mem_cons.mp hx with rfl | hx
        · exact hq
        · exact h.up x hx
      rw [List.length_cons] at h1
      rcases h.C with hc | hc
      · omega
      · exact (hs hc).elim
theorem lback_ok (T : Tb s k) : (lbF s).length = s.length ↔ AllBk s k := by
  have I := fold_iter (lbStep s) (LbI s k) [0] ⟨by simp, fun x hx => by rw [List.mem_singleton.mp hx]; exact T.pos, by simp, fun x hx => by rw [List.mem_singleton.mp hx]; exact ⟨[], (fun a ha => by cases ha), rfl⟩, fun x hx => by rw [List.mem_singleton.mp hx]; exact lb_mem.mpr ⟨T.pos, .inl rfl⟩, .inl (by simp)⟩ (fun i y h => h.step T) s.length
  change LbI s k s.length (lbF s) at I
  rw [full_iff I.nd I.lt]
  have hst : ∀ x ∈ lbStep s (lbF s), x ∈ lbF s := by
    rcases I.C with h | h
    · have := nodup_le I.nd I.lt; omega
    · exact h
  exact ⟨fun h q hq => I.bk q (h q hq), fun h q hq => back_in T I.z (fun q hq g hg hm => hst q (lb_mem.mpr ⟨hq, .inr ⟨g, hg, hm⟩⟩)) q hq (h q hq)⟩
end
end GL
end
/-! ## M8 -/
section
namespace GL
/-! ### tails -/
def Tl (s : List (List Nat)) (k q : Nat) : Prop := ∃ v, Vd k v ∧ run s 0 v = 0 ∧ run s q v = 0
def PR (s : List (List Nat)) (k q : Nat) (p : Nat × Nat) : Prop := ∃ v, Vd k v ∧ run s 0 v = p.1 ∧ run s q v = p.2
section
variable {s : List (List Nat)} {k q : Nat}
theorem PR.go {p : Nat × Nat} {a : Nat} (h : PR s k q p) (ha : a < k) : PR s k q (taGo s p a) := by
  obtain ⟨v, hv, e1, e2⟩ := h
  refine ⟨v ++ [a], hv.app (.one ha), ?_, ?_⟩
  · rw [run_app, e1]; rfl
  · rw [run_app, e2]; rfl
theorem PR.lt (T : Tb s k) (hq : q < s.length) {p : Nat × Nat} (h : PR s k q p) : p.1 < s.length ∧ p.2 < s.length := by
  obtain ⟨v, hv, e1, e2⟩ := h
  exact ⟨e1 ▸ run_lt T T.pos hv, e2 ▸ run_lt T hq hv⟩
/-- pairs closed under the letters and without (0, 0): no tail -/
theorem no_tail {ps : List (Nat × Nat)} (h0 : (0, q) ∈ ps) (hc : ∀ p ∈ ps, ∀ a < k, taGo s p a ∈ ps) (hz : ∀ p ∈ ps, p ≠ (0, 0)) : ¬ Tl s k q := by
  rintro ⟨v, hv, e1, e2⟩
  have key : ∀ v, Vd k v → ∀ p ∈ ps, (run s p.1 v, run s p.2 v) ∈ ps := fun v => by
    induction v with
    | nil => intro _ p hp; exact hp
    | cons a v ih => intro hv p hp; exact ih (fun b hb => hv b (List.mem_cons_of_mem _ hb)) _ (hc p hp a (hv a List.mem_cons_self))
  have := key v hv _ h0
  simp only [e1, e2] at this
  exact hz _ this rfl
structure TaI (s : List (List Nat)) (k q : Nat) (K0 : List (Nat × Nat)) (st : TaS) : Prop where
  ks : keysP st.1 = K0 ++ st.2
  pr : ∀ x ∈ keysP st.1, PR s k q x
theorem TaI.step {K0 : List (Nat × Nat)} {st : TaS} (h : TaI s k q K0 st) {wd : List Nat} {x : Nat × Nat} {a : Nat} (hr : PR s k q (taGo s x a)) : TaI s k q K0 (taStep s wd x st a) ∧ taGo s x a ∈ keysP (taStep s wd x st a).1 := by
  unfold taStep
  split
  · exact ⟨h, by assumption⟩
  · refine ⟨⟨?_, fun y hy => ?_⟩, by unfold keysP; rw [List.map_append]; exact List.mem_append_right _ (by simp)⟩
    · have := h.ks
      unfold keysP at *
      rw [List.map_append, this, List.append_assoc]; rfl
    · unfold keysP at hy; rw [List.map_append, List.mem_append] at hy
      rcases hy with hy | hy
      · exact h.pr y hy
      · simp at hy; rw [hy]; exact hr
theorem TaI.row {K0 : List (Nat × Nat)} {wd : List Nat} {x : Nat × Nat} : ∀ {l : List Nat} {st : TaS}, TaI s k q K0 st → (∀ a ∈ l, PR s k q (taGo s x a)) → TaI s k q K0 (l.foldl (taStep s wd x) st) ∧ (∀ a ∈ l, taGo s x a ∈ keysP (l.foldl (taStep s wd x) st).1) ∧ ∀ y ∈ keysP st.1, y ∈ keysP (l.foldl (taStep s wd x) st).1
  | [], st, h, _ => ⟨h, fun z hz => (by cases hz), fun y hy => hy⟩
  | a :: l, st, h, hl => by
    obtain ⟨h1, h2⟩ := h.step (wd := wd) (hl a List.mem_cons_self)
    obtain ⟨g1, g2, g3⟩ := TaI.row (l := l) h1 fun y hy => hl y (List.mem_cons_of_mem _ hy)
    refine ⟨g1, fun y hy => ?_, fun y hy => g3 y (taStep_sub hy)⟩
    rcases List.mem_cons.mp hy with rfl | hy
    · exact g3 _ h2
    · exact g2 y hy
theorem ta_now (T : Tb s k) (hq : q < s.length) {K0 : List (Nat × Nat)} : ∀ (l : List (Nat × Nat)) (st : TaS), TaI s k q K0 st → TaJ s.length st → (∀ x ∈ l, PR s k q x) →
    (∃ wd, taNow s k st l = .inl wd ∧ PR s k q (0, 0)) ∨ ∃ st', taNow s k st l = .inr st' ∧ (∀ x ∈ l, x ≠ (0, 0)) ∧ TaI s k q K0 st' ∧ TaJ s.length st' ∧ (∀ x ∈ l, ∀ a < k, taGo s x a ∈ keysP st'.1) ∧ ∀ y ∈ keysP st.1, y ∈ keysP st'.1
  | [], st, h, j, _ => .inr ⟨st, rfl, (fun x hx => by cases hx), h, j, (fun x hx => by cases hx), fun y hy => hy⟩
  | x :: l, st, h, j, hl => by
    have hx := hl x List.mem_cons_self
    rw [taNow]
    by_cases hz : x.1 = 0 ∧ x.2 = 0
    · rw [if_pos hz]
      refine .inl ⟨_, rfl, ?_⟩
      have : x = (0, 0) := Prod.ext hz.1 hz.2
      rw [← this]; exact hx
    · rw [if_neg hz]
      have hgo : ∀ a ∈ List.range k, PR s k q (taGo s x a) := fun a ha => hx.go (List.mem_range.mp ha)
      obtain ⟨h1, h2, h3⟩ := TaI.row (wd := atP st.1 x) h hgo
      have hj := (taFold (s := s) (x := x) (wd := atP st.1 x) (List.range k) st j (atP_wl j x) fun a ha => (hgo a ha).lt T hq).1
      rcases ta_now T hq l (taRow s k x st) h1 hj fun y hy => hl y (List.mem_cons_of_mem _ hy) with ⟨wd, e, hp⟩ | ⟨st', e, g1, g2, g3, g4, g5⟩
      · exact .inl ⟨wd, e, hp⟩
      · refine .inr ⟨st', e, fun y hy => ?_, g2, g3, fun y hy a ha => ?_, fun y hy => g5 y (h3 y hy)⟩
        · rcases List.mem_cons.mp hy with rfl | hy
          · exact fun q => hz ⟨by rw [q], by rw [q]⟩
          · exact g1 y hy
        · rcases List.mem_cons.mp hy with rfl | hy
          · exact g5 _ (h2 a (List.mem_range.mpr ha))
          · exact g4 y hy a ha
theorem ta_loop (T : Tb s k) (hq : q < s.length) : ∀ (f : Nat) (st : TaS), TaJ s.length st → (0, q) ∈ keysP st.1 → (∀ x ∈ keysP st.1, PR s k q x) → (∀ x ∈ keysP st.1, x ∉ st.2 → x ≠ (0, 0) ∧ ∀ a < k, taGo s x a ∈ keysP st.1) → ((st.2 = [] ∧ 1 ≤ f) ∨ s.length * s.length + 2 ≤ f + st.1.length) →
    ∃ r, taLoop s k f st = some r ∧ (r.isNone = true ↔ ¬ Tl s k q)
  | 0, st, j, h0, hr, hc, hf => by
    rcases hf with ⟨_, h⟩ | h
    · cases h
    · have := j.len; omega
  | f + 1, (met, now), j, h0, hr, hc, hf => by
    rw [taLoop]
    cases now with
    | nil => exact ⟨none, rfl, by simp; exact no_tail h0 (fun p hp => (hc p hp (by simp)).2) fun p hp => (hc p hp (by simp)).1⟩
    | cons x now =>
      have hl := j.len
      have hf' : s.length * s.length + 2 ≤ f + 1 + met.length := by
        rcases hf with ⟨h, _⟩ | h
        · cases h
        · exact h
      simp only [List.isEmpty_cons, Bool.false_eq_true, if_false]
      rcases ta_now T hq (K0 := keysP met) (x :: now) (met, []) ⟨by simp, hr⟩ ⟨j.nd, j.lt, j.wl, by simp, by simp⟩ fun y hy => hr y (j.sub y hy) with ⟨wd, e, v, hv, e1, e2⟩ | ⟨st', e, g1, g2, g3, g4, g5⟩
      · rw [e]
        exact ⟨some wd, rfl, by simp; exact ⟨v, hv, e1, e2⟩⟩
      · rw [e]
        have hks := g2.ks
        have hlen : st'.1.length = met.length + st'.2.length := by
          have := congrArg List.length hks
          unfold keysP at this
          simpa using this
        refine ta_loop T hq f st' g3 (g5 _ h0) g2.pr (fun y hy hn => ?_) ?_
        · rw [hks] at hy
          rcases List.mem_append.mp hy with hy | hy
          · by_cases hm : y ∈ x :: now
            · exact ⟨g1 y hm, g4 y hm⟩
            · obtain ⟨c1, c2⟩ := hc y hy hm
              exact ⟨c1, fun a ha => g5 _ (c2 a ha)⟩
          · exact (hn hy).elim
        · cases hq' : st'.2 with
          | nil => exact .inl ⟨rfl, by simp at hl; omega⟩
          | cons a l => rw [hq'] at hlen; simp at hlen; exact .inr (by omega)
theorem tail_ok (T : Tb s k) (hq : q < s.length) : ∃ r, TailP s k q r ∧ (r.isNone = true ↔ ¬ Tl s k q) := by
  obtain ⟨r, h1, h2⟩ := ta_loop T hq (s.length * s.length + 1) ([((0, q), [])], [(0, q)]) ⟨by simp [keysP], fun x hx => by simp [keysP] at hx; subst hx; exact ⟨T.pos, hq⟩, by simp, by simp [keysP], by simp⟩ (by simp [keysP]) (fun x hx => by simp [keysP] at hx; subst hx; exact ⟨[], (fun a ha => by cases ha), rfl, rfl⟩) (fun x hx hn => by simp [keysP] at hx; subst hx; simp at hn) (.inr (by simp))
  exact ⟨r, ⟨_, h1⟩, h2⟩
end
end GL
end
/-! ## M9 -/
section
namespace GL
section
variable {s : List (List Nat)} {k : Nat}
def PRs (s : List (List Nat)) (k : Nat) (p : Nat × Nat) : Prop := ∃ j, 1 ≤ j ∧ j < s.length ∧ PR s k j p
theorem PRs.lt (T : Tb s k) {p : Nat × Nat} (h : PRs s k p) : p.1 < s.length ∧ p.2 < s.length := let ⟨_, _, hj, hp⟩ := h; hp.lt T hj
theorem PRs.go {p : Nat × Nat} {a : Nat} (h : PRs s k p) (ha : a < k) : PRs s k (taGo s p a) := let ⟨j, h1, h2, hp⟩ := h; ⟨j, h1, h2, hp.go ha⟩
structure LtI (s : List (List Nat)) (k : Nat) (st : LtS) : Prop where
  pr : ∀ x ∈ st.2, PRs s k x
  nz : ∀ x ∈ st.2, x ≠ (0, 0)
theorem lt_row {x : Nat × Nat} : ∀ (l : List Nat) (st : LtS), LtI s k st → (∀ a ∈ l, PRs s k (taGo s x a)) →
    (ltRow s x l st = none ∧ PRs s k (0, 0)) ∨ ∃ st', ltRow s x l st = some st' ∧ LtI s k st' ∧ (∀ a ∈ l, taGo s x a ∈ st'.2) ∧ (∀ y ∈ st.2, y ∈ st'.2) ∧ (∀ y ∈ st.1, y ∈ st'.1) ∧ (∀ y ∈ st'.2, y ∈ st.2 ∨ y ∈ st'.1) ∧ st'.1.length + st.2.length = st.1.length + st'.2.length
  | [], st, h, _ => .inr ⟨st, rfl, h, (fun a ha => by cases ha), fun y hy => hy, fun y hy => hy, fun y hy => .inl hy, rfl⟩
  | a :: l, st, h, hl => by
    have ha := hl a List.mem_cons_self
    rw [ltRow]
    by_cases hz : taGo s x a = (0, 0)
    · rw [if_pos hz]; exact .inl ⟨rfl, hz ▸ ha⟩
    · rw [if_neg hz]
      have h1 : LtI s k (ltStep s x st a) ∧ taGo s x a ∈ (ltStep s x st a).2 ∧ (∀ y ∈ st.2, y ∈ (ltStep s x st a).2) ∧ (∀ y ∈ st.1, y ∈ (ltStep s x st a).1) ∧ (∀ y ∈ (ltStep s x st a).2, y ∈ st.2 ∨ y ∈ (ltStep s x st a).1) ∧ (ltStep s x st a).1.length + st.2.length = st.1.length + (ltStep s x st a).2.length := by
        unfold ltStep
        split
        · exact ⟨h, by assumption, fun y hy => hy, fun y hy => hy, fun y hy => .inl hy, rfl⟩
        · refine ⟨⟨fun y hy => ?_, fun y hy => ?_⟩, by simp, fun y hy => List.mem_append_left _ hy, fun y hy => List.mem_append_left _ hy, fun y hy => ?_, by simp; omega⟩
          · rcases List.mem_append.mp hy with hy | hy
            · exact h.pr y hy
            · rw [List.mem_singleton.mp hy]; exact ha
          · rcases List.mem_append.mp hy with hy | hy
            · exact h.nz y hy
            · rw [List.mem_singleton.mp hy]; exact hz
          · rcases List.mem_append.mp hy with hy | hy
            · exact .inl hy
            · exact .inr (List.mem_append_right _ hy)
      obtain ⟨c1, c2, c3, c4, c5, c6⟩ := h1
      rcases lt_row l _ c1 fun b hb => hl b (List.mem_cons_of_mem _ hb) with h2 | ⟨st', e, d1, d2, d3, d4, d5, d6⟩
      · exact .inl h2
      · refine .inr ⟨st', e, d1, fun b hb => ?_, fun y hy => d3 y (c3 y hy), fun y hy => d4 y (c4 y hy), fun y hy => ?_, by omega⟩
        · rcases List.mem_cons.mp hb with rfl | hb
          · exact d3 _ c2
          · exact d2 b hb
        · rcases d5 y hy with h | h
          · rcases c5 y h with h | h
            · exact .inl h
            · exact .inr (d4 y h)
          · exact .inr h
theorem lt_loop (T : Tb s k) : ∀ (f : Nat) (st : LtS), LtJ s.length st → LtI s k st → (∀ j, 1 ≤ j → j < s.length → (0, j) ∈ st.2) → (∀ x ∈ st.2, x ∉ st.1 → ∀ a < k, taGo s x a ∈ st.2) → st.1.length + s.length * s.length + 1 ≤ f + st.2.length →
    ∃ r, ltLoop s k f st = some r ∧ (r = true ↔ ∀ j, 1 ≤ j → j < s.length → ¬ Tl s k j)
  | 0, st, j, I, h0, hc, hf => by have := j.len; omega
  | f + 1, (ps, kn), j, I, h0, hc, hf => by
    rw [ltLoop]
    cases hlast : ps.getLast? with
    | none =>
      have he : ps = [] := List.getLast?_eq_none_iff.mp hlast
      subst he
      refine ⟨true, rfl, by simp; exact fun j h1 h2 => no_tail (h0 j h1 h2) (fun p hp => hc p hp (by simp)) I.nz⟩
    | some x =>
      have hne : ps ≠ [] := fun e => by subst e; cases hlast
      have hps : ps = ps.dropLast ++ [x] := by
        have h1 := List.dropLast_concat_getLast hne
        have h2 := List.getLast?_eq_some_getLast hne
        rw [hlast] at h2
        rw [Option.some.inj h2]; exact h1.symm
      have hxm : x ∈ ps := by rw [hps]; simp
      have hx := I.pr x (j.sub x hxm)
      have hgo : ∀ a ∈ List.range k, PRs s k (taGo s x a) := fun a ha => hx.go (List.mem_range.mp ha)
      have J0 : LtJ s.length (ps.dropLast, kn) := ⟨j.nd, j.lt, fun y hy => j.sub y (by rw [hps]; exact List.mem_append_left _ hy), by have := j.ll; simp at *; omega⟩
      have hlen : ps.length = ps.dropLast.length + 1 := by rw [List.length_dropLast]; have := List.length_pos_iff.mpr hne; omega
      rcases lt_row (List.range k) (ps.dropLast, kn) ⟨I.pr, I.nz⟩ hgo with ⟨e, jj, g1, g2, v, hv, e1, e2⟩ | ⟨st', e, d1, d2, d3, d4, d5, d6⟩
      · simp only [e]
        refine ⟨false, rfl, by simp; exact ⟨jj, g1, g2, v, hv, e1, e2⟩⟩
      · simp only [e]
        have J1 := LtJ.row J0 (fun a ha => (hgo a ha).lt T) e
        refine lt_loop T f st' J1 d1 (fun j h1 h2 => d3 _ (h0 j h1 h2)) (fun y hy hn a ha => ?_) ?_
        · rcases d5 y hy with h | h
          · by_cases hyx : y = x
            · subst hyx; exact d2 a (List.mem_range.mpr ha)
            · refine d3 _ (hc y h (fun hm => ?_) a ha)
              rw [hps] at hm
              rcases List.mem_append.mp hm with hm | hm
              · exact hn (d4 y hm)
              · exact hyx (List.mem_singleton.mp hm)
          · exact (hn h).elim
        · simp at hf d6 hlen ⊢; omega
theorem ltails_ok (T : Tb s k) : ∃ n r, ltLoop s k n (lt0 s, lt0 s) = some r ∧ (tailsF s r = true ↔ (∀ j, 1 ≤ j → j < s.length → ¬ Tl s k j) ∧ AllBk s k) := by
  have hm : ∀ j, 1 ≤ j → j < s.length → (0, j) ∈ lt0 s := fun j h1 h2 => List.mem_map.mpr ⟨j - 1, List.mem_range.mpr (by omega), by rw [show 1 + (j - 1) = j from by omega]⟩
  obtain ⟨r, h1, h2⟩ := lt_loop T (s.length * s.length + 1) (lt0 s, lt0 s) (lt0_j T) ⟨fun x hx => by
    obtain ⟨i, hi, rfl⟩ := List.mem_map.mp hx
    have := List.mem_range.mp hi
    exact ⟨1 + i, by omega, by omega, [], (fun a ha => by cases ha), rfl, rfl⟩, fun x hx => by
    obtain ⟨i, hi, rfl⟩ := List.mem_map.mp hx
    intro e; have := congrArg Prod.snd e; simp at this⟩ hm (fun x hx hn => (hn hx).elim) (by simp; omega)
  refine ⟨_, r, h1, ?_⟩
  unfold tailsF
  rw [Bool.and_eq_true, h2, decide_eq_true_iff, lback_ok T]
end
/-- the program's verdict -/
theorem keep_ok {m : D} {s : List (List Nat)} {e : List Nat} {k : Nat} (hm : Mach m s e) (T : Tb s k) {S' : List (List Nat)} {E' : List Nat} (hL : LeastP s e S' E') (T' : Tb S' k) : ∃ b, KeepP m k S' b ∧ (b = true ↔ (∀ j, 1 ≤ j → j < S'.length → ¬ Tl S' k j) ∧ AllBk S' k) := by
  obtain ⟨fd, hb, hbi⟩ := back_ok T'
  have hr : ∀ st, ∃ r, 1 ≤ st → st < S'.length → TailP S' k st r ∧ (r.isNone = true ↔ ¬ Tl S' k st) := fun st => by
    by_cases h : st < S'.length
    · obtain ⟨r, h1, h2⟩ := tail_ok T' h
      exact ⟨r, fun _ _ => ⟨h1, h2⟩⟩
    · exact ⟨none, fun _ h' => absurd h' h⟩
  refine ⟨_, ⟨s, e, E', fd, fun st => Classical.choose (hr st), hm, T, hL, T', hb, fun st h1 h2 => (Classical.choose_spec (hr st) h1 h2).1, rfl⟩, ?_⟩
  rw [Bool.and_eq_true, decide_eq_true_iff, hbi, List.all_eq_true]
  refine ⟨fun h => ⟨fun j h1 h2 => ?_, h.1⟩, fun h => ⟨h.2, fun i hi => ?_⟩⟩
  · have := h.2 (j - 1) (List.mem_range.mpr (by omega))
    rw [show 1 + (j - 1) = j from by omega] at this
    exact (Classical.choose_spec (hr j) h1 h2).2.mp this
  · have hi' := List.mem_range.mp hi
    exact (Classical.choose_spec (hr (1 + i)) (by omega) (by omega)).2.mpr (h.1 (1 + i) (by omega) (by omega))
end GL
end
/-! ## M10 -/
section
namespace GL
/-! ### two least tables of one machine -/
section
variable {s : List (List Nat)} {e : List Nat} {k : Nat} {S S2 : List (List Nat)}
theorem MinOf.eqs (h : MinOf s e k S) (g : MinOf s e k S2) {w1 w2 : List Nat} (h1 : Vd k w1) (h2 : Vd k w2) : run S 0 w1 = run S 0 w2 ↔ run S2 0 w1 = run S2 0 w2 := by rw [h.same w1 w2 h1 h2, g.same w1 w2 h1 h2]
theorem vd_nil : Vd k [] := fun a ha => by cases ha
theorem back_words (h : MinOf s e k S) : AllBk S k ↔ ∀ w, Vd k w → ∃ v, Vd k v ∧ run S 0 (w ++ v) = run S 0 [] := by
  constructor
  · intro hb w hw
    obtain ⟨v, hv, e1⟩ := hb _ (run_lt h.T h.T.pos hw)
    exact ⟨v, hv, by rw [run_app]; exact e1⟩
  · intro hb q hq
    obtain ⟨w, hw, rfl⟩ := h.rch q hq
    obtain ⟨v, hv, e1⟩ := hb w hw
    rw [run_app] at e1
    exact ⟨v, hv, e1⟩
theorem back_same (h : MinOf s e k S) (g : MinOf s e k S2) : AllBk S k ↔ AllBk S2 k := by
  rw [back_words h, back_words g]
  refine forall_congr' fun w => forall_congr' fun hw => exists_congr fun v => and_congr_right fun hv => h.eqs g (hw.app hv) vd_nil
theorem tail_words (h : MinOf s e k S) : (∀ j, 1 ≤ j → j < S.length → ¬ Tl S k j) ↔ ∀ w, Vd k w → ¬ (run S 0 w = run S 0 []) → ∀ v, Vd k v → ¬ (run S 0 v = run S 0 [] ∧ run S 0 (w ++ v) = run S 0 []) := by
  constructor
  · rintro ht w hw hne v hv ⟨e1, e2⟩
    refine ht (run S 0 w) ?_ (run_lt h.T h.T.pos hw) ⟨v, hv, e1, by rw [run_app] at e2; exact e2⟩
    have : ¬ run S 0 w = 0 := hne
    omega
  · rintro ht j h1 h2 ⟨v, hv, e1, e2⟩
    obtain ⟨w, hw, rfl⟩ := h.rch j h2
    refine ht w hw (fun q => ?_) v hv ⟨e1, by rw [run_app]; exact e2⟩
    have : run S 0 w = 0 := q
    omega
theorem tail_same (h : MinOf s e k S) (g : MinOf s e k S2) : (∀ j, 1 ≤ j → j < S.length → ¬ Tl S k j) ↔ ∀ j, 1 ≤ j → j < S2.length → ¬ Tl S2 k j := by
  rw [tail_words h, tail_words g]
  refine forall_congr' fun w => forall_congr' fun hw => imp_congr (not_congr (h.eqs g hw vd_nil)) (forall_congr' fun v => forall_congr' fun hv => not_congr (and_congr (h.eqs g hv vd_nil) (h.eqs g (hw.app hv) vd_nil)))
/-- the loops' tables: of one language -/
theorem MinOf.loops {L : List (List Nat)} (h : MinOf s e k S) (g : MinOf s e k S2) (hl : MinOf S2 [0] k L) : MinOf S [0] k L := by
  refine ⟨hl.T, hl.rch, fun w1 w2 h1 h2 => ?_⟩
  rw [hl.same w1 w2 h1 h2]
  refine forall_congr' fun v => forall_congr' fun hv => ?_
  rw [List.mem_singleton, List.mem_singleton, List.mem_singleton, List.mem_singleton]
  have z : ∀ w, Vd k w → (run S2 0 w = 0 ↔ run S 0 w = 0) := fun w hw => (h.eqs g hw vd_nil).symm
  rw [z _ (h1.app hv), z _ (h2.app hv)]
/-- columns -/
theorem col_iff (h : MinOf s e k S) {a b : Nat} (ha : a < k) (hb : b < k) : (S.map fun r => r.getD a 0) = (S.map fun r => r.getD b 0) ↔ ∀ w, Vd k w → run S 0 (w ++ [a]) = run S 0 (w ++ [b]) := by
  constructor
  · intro hc w hw
    have hq := run_lt h.T h.T.pos hw
    have := congrArg (fun l => l[run S 0 w]?) hc
    simp only [List.getElem?_map] at this
    rw [List.getElem?_eq_getElem hq] at this
    rw [run_app, run_app]
    show go S (run S 0 w) a = go S (run S 0 w) b
    unfold go rw'
    rw [List.getD_eq_getElem?_getD (l := S), List.getElem?_eq_getElem hq]
    simpa using this
  · intro hw
    apply List.ext_getElem
    · simp
    · intro q h1 h2
      rw [List.length_map] at h1
      rw [List.getElem_map, List.getElem_map]
      obtain ⟨w, hv, e1⟩ := h.rch q h1
      have := hw w hv
      rw [run_app, run_app, e1] at this
      have g1 : go S q a = go S q b := this
      unfold go rw' at g1
      rw [List.getD_eq_getElem?_getD (l := S), List.getElem?_eq_getElem h1] at g1
      simpa using g1
theorem col_same (h : MinOf s e k S) (g : MinOf s e k S2) {a b : Nat} (ha : a < k) (hb : b < k) : (S.map fun r => r.getD a 0) = (S.map fun r => r.getD b 0) ↔ (S2.map fun r => r.getD a 0) = (S2.map fun r => r.getD b 0) := by
  rw [col_iff h ha hb, col_iff g ha hb]
  exact forall_congr' fun w => forall_congr' fun hw => h.eqs g (hw.app (.one ha)) (hw.app (.one hb))
end
/-! ### numbering -/
theorem kn_prefix {α : Type} [DecidableEq α] : ∀ (l s : List α), s <+: l.foldl knStep s
  | [], s => List.prefix_refl _
  | a :: l, s => by
    rw [List.foldl_cons]
    refine List.IsPrefix.trans ?_ (kn_prefix l _)
    unfold knStep
    split
    · exact List.prefix_refl _
    · exact List.prefix_append _ _
theorem idx_prefix {α : Type} [DecidableEq α] {s t : List α} (h : s <+: t) {x : α} (hx : x ∈ s) : t.idxOf x = s.idxOf x := by
  obtain ⟨u, rfl⟩ := h
  rw [List.idxOf_append, if_pos hx]
theorem num_fold {α : Type} [DecidableEq α] : ∀ (l : List α) (s : List α) (n : List Nat), (l.foldl numStep (s, n)).2 = n ++ l.map fun x => (l.foldl knStep s).idxOf x
  | [], s, n => by simp
  | a :: l, s, n => by
    rw [List.foldl_cons, List.foldl_cons]
    have e1 : numStep (s, n) a = (knStep s a, n ++ [(knStep s a).idxOf a]) := rfl
    rw [e1, num_fold l, List.append_assoc, List.map_cons]
    have hm : a ∈ knStep s a := by unfold knStep; split <;> simp_all
    rw [idx_prefix (kn_prefix l (knStep s a)) hm]; rfl
theorem numOf_eq {α : Type} [DecidableEq α] (l : List α) : numOf l = numL l := by
  unfold numOf numL knownF
  rw [num_fold, List.nil_append]
/-- the numbering hangs on the pattern of equality alone -/
theorem known_map {α β : Type} [DecidableEq α] [DecidableEq β] (f : α → β) (l : List α) (hf : ∀ x ∈ l, ∀ y ∈ l, f x = f y → x = y) : ∀ (m s : List α), (∀ x ∈ m, x ∈ l) → (∀ x ∈ s, x ∈ l) → (m.map f).foldl knStep (s.map f) = (m.foldl knStep s).map f
  | [], s, _, _ => rfl
  | a :: m, s, hm, hs => by
    have ha := hm a List.mem_cons_self
    have e1 : knStep (s.map f) (f a) = (knStep s a).map f := by
      unfold knStep
      by_cases h : a ∈ s
      · rw [if_pos h, if_pos (List.mem_map.mpr ⟨a, h, rfl⟩)]
      · rw [if_neg h, if_neg (fun q => by obtain ⟨y, hy, e⟩ := List.mem_map.mp q; exact h (hf y (hs y hy) a ha e ▸ hy)), List.map_append]; rfl
    rw [List.map_cons, List.foldl_cons, List.foldl_cons, e1]
    refine known_map f l hf m _ (fun x hx => hm x (List.mem_cons_of_mem _ hx)) fun x hx => ?_
    unfold knStep at hx
    split at hx
    · exact hs x hx
    · rcases List.mem_append.mp hx with hx | hx
      · exact hs x hx
      · rw [List.mem_singleton.mp hx]; exact ha
end GL
end
/-! ## F1 -/
section
namespace GL
def aboveF (n : Nat) (l1 l2 : List Nat) : List (List Nat) := (tellI n).filter fun o => finL l1 o && finL l2 o
def belowF (n : Nat) (l1 l2 : List Nat) : List (List Nat) := (tellI n).filter fun o => finL o l1 && finL o l2
def topsF (n : Nat) (l1 l2 : List Nat) : List (List Nat) := (aboveF n l1 l2).filter fun o => (aboveF n l1 l2).all fun i => finL o i
def lowsF (n : Nat) (l1 l2 : List Nat) : List (List Nat) := (belowF n l1 l2).filter fun o => (belowF n l1 l2).all fun i => finL i o
def orderOk (n : Nat) (l1 l2 : List Nat) : Bool :=
  decide ((topsF n l1 l2)[0]? = some (joinF l1 l2)) && decide (joinF l2 l1 = joinF l1 l2) && decide ((lowsF n l1 l2)[0]? = some (metF l1 l2)) && (finF l1 l2 == finL l1 l2)
   && decide (joinF l1 (metF l1 l2) = l1) && decide (metF l1 (joinF l1 l2) = l1) && decide (metF l1 l2 ∈ tellI n) && decide (joinF l1 l2 ∈ tellI n)
theorem order_ok : ∀ n < 4, ∀ l1 ∈ tellI n, ∀ l2 ∈ tellI n, orderOk n l1 l2 = true := by decide +kernel
end GL
end
/-! ## M11 -/
section
namespace GL
theorem idx_map {α β : Type} [DecidableEq α] [DecidableEq β] (f : α → β) {x : α} : ∀ (s : List α), (∀ y ∈ s, f y = f x → y = x) → (s.map f).idxOf (f x) = s.idxOf x
  | [], _ => rfl
  | y :: s, h => by
    rw [List.map_cons, List.idxOf_cons, List.idxOf_cons]
    by_cases e : y = x
    · subst e; simp
    · have e1 : ¬ f y = f x := fun q => e (h y List.mem_cons_self q)
      have e2 : (f y == f x) = false := beq_eq_false_iff_ne.mpr e1
      have e3 : (y == x) = false := beq_eq_false_iff_ne.mpr e
      rw [e2, e3, idx_map f s fun z hz => h z (List.mem_cons_of_mem _ hz)]
theorem numL_map {α β : Type} [DecidableEq α] [DecidableEq β] (f : α → β) (l : List α) (hf : ∀ x ∈ l, ∀ y ∈ l, f x = f y → x = y) : numL (l.map f) = numL l := by
  unfold numL
  have hk : knownF (l.map f) = (knownF l).map f := known_map f l hf l [] (fun x h => h) (fun x h => by cases h)
  rw [List.map_map]
  refine List.map_congr_left fun x hx => ?_
  show (knownF (l.map f)).idxOf (f x) = (knownF l).idxOf x
  rw [hk]
  exact idx_map f _ fun y hy e => hf y (by have := (kn_mem l [] y).mp hy; simpa using this) x hx e
theorem numL_pat {α β : Type} [DecidableEq α] [DecidableEq β] {k : Nat} (c1 : Nat → α) (c2 : Nat → β) (h : ∀ i < k, ∀ j < k, (c1 i = c1 j ↔ c2 i = c2 j)) : numL ((List.range k).map c1) = numL ((List.range k).map c2) := by
  by_cases hk : k = 0
  · subst hk; rfl
  let f : α → β := fun v => match (List.range k).find? (fun i => decide (c1 i = v)) with | some i => c2 i | none => c2 0
  have hf : ∀ i < k, f (c1 i) = c2 i := fun i hi => by
    show (match (List.range k).find? (fun j => decide (c1 j = c1 i)) with | some i => c2 i | none => c2 0) = c2 i
    cases q : (List.range k).find? (fun j => decide (c1 j = c1 i)) with
    | none => exact absurd (List.find?_eq_none.mp q i (List.mem_range.mpr hi)) (by simp)
    | some j =>
      have h0 := List.find?_some q
      have h1 := of_decide_eq_true h0
      have h2 := List.mem_range.mp (List.mem_of_find?_eq_some q)
      exact (h j h2 i hi).mp h1
  have e : (List.range k).map c2 = ((List.range k).map c1).map f := by
    rw [List.map_map]
    exact List.map_congr_left fun i hi => (hf i (List.mem_range.mp hi)).symm
  rw [e]
  refine (numL_map f _ fun x hx y hy hxy => ?_).symm
  obtain ⟨i, hi, rfl⟩ := List.mem_map.mp hx
  obtain ⟨j, hj, rfl⟩ := List.mem_map.mp hy
  rw [hf i (List.mem_range.mp hi), hf j (List.mem_range.mp hj)] at hxy
  exact (h i (List.mem_range.mp hi) j (List.mem_range.mp hj)).mpr hxy
/-- both sides' coarsest telling -/
theorem cols_same {s : List (List Nat)} {e : List Nat} {k : Nat} {S S2 : List (List Nat)} (h : MinOf s e k S) (g : MinOf s e k S2) : numOf (colsF S k) = numL (colsF S2 k) := by
  rw [numOf_eq]
  exact numL_pat _ _ fun i hi j hj => col_same h g hi hj
/-- it is one of the tellings -/
theorem numL_tell : ∀ (k : Nat), 1 ≤ k → k ≤ 3 → ∀ (α : Type) [DecidableEq α] (c : Nat → α), numL ((List.range k).map c) ∈ tellI (k - 1) := by
  intro k h1 h3 α _ c
  have hk : k = 1 ∨ k = 2 ∨ k = 3 := by omega
  have pat : ∀ d : Nat → Nat, (∀ i < k, ∀ j < k, (c i = c j ↔ d i = d j)) → numL ((List.range k).map d) ∈ tellI (k - 1) → numL ((List.range k).map c) ∈ tellI (k - 1) := fun d hd hm => by rw [numL_pat c d hd]; exact hm
  rcases hk with rfl | rfl | rfl
  · exact pat (fun _ => 0) (fun i hi j hj => by have : i = j := by omega
                                                subst this; simp) (by decide)
  · by_cases e : c 0 = c 1
    · exact pat (fun _ => 0) (fun i hi j hj => by
        have : (i = 0 ∨ i = 1) ∧ (j = 0 ∨ j = 1) := by omega
        rcases this with ⟨rfl | rfl, rfl | rfl⟩ <;> simp [e]) (by decide)
    · exact pat (fun i => i) (fun i hi j hj => by
        have : (i = 0 ∨ i = 1) ∧ (j = 0 ∨ j = 1) := by omega
        rcases this with ⟨rfl | rfl, rfl | rfl⟩ <;> simp [e, Ne.symm e]) (by decide)
  · have cs : ∀ i < 3, i = 0 ∨ i = 1 ∨ i = 2 := fun i hi => by omega
    by_cases e1 : c 0 = c 1 <;> by_cases e2 : c 0 = c 2
    · have e3 : c 1 = c 2 := e1.symm.trans e2
      exact pat (fun _ => 0) (fun i hi j hj => by rcases cs i hi with rfl | rfl | rfl <;> rcases cs j hj with rfl | rfl | rfl <;> simp [e1, e3]) (by decide)
    · have e3 : ¬ c 1 = c 2 := fun q => e2 (e1.trans q)
      exact pat (fun i => if i = 2 then 1 else 0) (fun i hi j hj => by rcases cs i hi with rfl | rfl | rfl <;> rcases cs j hj with rfl | rfl | rfl <;> simp [e1, e3, Ne.symm e3]) (by decide)
    · have e3 : ¬ c 1 = c 2 := fun q => e1 (e2.trans q.symm)
      exact pat (fun i => if i = 1 then 1 else 0) (fun i hi j hj => by rcases cs i hi with rfl | rfl | rfl <;> rcases cs j hj with rfl | rfl | rfl <;> simp [e2, e3, Ne.symm e3]) (by decide)
    · by_cases e3 : c 1 = c 2
      · exact pat (fun i => if i = 0 then 0 else 1) (fun i hi j hj => by rcases cs i hi with rfl | rfl | rfl <;> rcases cs j hj with rfl | rfl | rfl <;> simp [e3, e2, Ne.symm e2]) (by decide)
      · exact pat (fun i => i) (fun i hi j hj => by rcases cs i hi with rfl | rfl | rfl <;> rcases cs j hj with rfl | rfl | rfl <;> simp [e1, e2, e3, Ne.symm e1, Ne.symm e2, Ne.symm e3]) (by decide)
end GL
end
/-! ## M12 -/
section
namespace GL
/-! ### letters of one token -/
theorem run_cols {k : Nat} {L : List (List Nat)} (T : Tb L k) : ∀ (w w' : List Nat) (q : Nat), q < L.length → w.length = w'.length → Vd k w → Vd k w' → (∀ i, i < w.length → (L.map fun r => r.getD (w.getD i 0) 0) = (L.map fun r => r.getD (w'.getD i 0) 0)) → run L q w = run L q w'
  | [], [], q, _, _, _, _, _ => rfl
  | [], _ :: _, _, _, h, _, _, _ => by cases h
  | _ :: _, [], _, _, h, _, _, _ => by cases h
  | a :: w, b :: w', q, hq, hl, hv, hv', hc => by
    have h0 := hc 0 (by simp)
    have e1 : go L q a = go L q b := by
      have := congrArg (fun l => l[q]?) h0
      simp only [List.getElem?_map] at this
      rw [List.getElem?_eq_getElem hq] at this
      unfold go rw'
      rw [List.getD_eq_getElem?_getD (l := L), List.getElem?_eq_getElem hq]
      simpa using this
    show run L (go L q a) w = run L (go L q b) w'
    rw [e1]
    refine run_cols T w w' _ (T.go hq (hv' b List.mem_cons_self)) (by simpa using hl) (fun x hx => hv x (List.mem_cons_of_mem _ hx)) (fun x hx => hv' x (List.mem_cons_of_mem _ hx)) fun i hi => ?_
    have := hc (i + 1) (by simp; omega)
    simpa using this
theorem exchange {S L : List (List Nat)} {k : Nat} (h : MinOf S [0] k L) {w w' : List Nat} (hl : w.length = w'.length) (hv : Vd k w) (hv' : Vd k w') (hc : ∀ i, i < w.length → (L.map fun r => r.getD (w.getD i 0) 0) = (L.map fun r => r.getD (w'.getD i 0) 0)) {u : List Nat} (hu : Vd k u) : run S 0 (w ++ u) = 0 ↔ run S 0 (w' ++ u) = 0 := by
  have := (h.same w w' hv hv').mp (run_cols h.T w w' 0 h.T.pos hl hv hv' hc) u hu
  rwa [List.mem_singleton, List.mem_singleton] at this
/-! ### the way back -/
section
variable {s : List (List Nat)} {k : Nat}
theorem nr_at {far : List Nat} {q : Nat} (hq : q < s.length) : (nrStep s far).getD q 0 = mnN (far.getD q 0 :: (rw' s q).map fun g => 1 + far.getD g 0) := by
  unfold nrStep
  rw [List.getD_eq_getElem?_getD, List.getElem?_map, List.getElem?_range hq]; rfl
structure NrI (s : List (List Nat)) (k i : Nat) (st : List Nat × List Nat) : Prop where
  z : st.1.getD 0 0 = 0
  le : ∀ x ∈ st.2, st.1.getD x 0 ≤ i
  lt : ∀ x ∈ st.2, x < s.length
  nz : ∀ q < s.length, q ≠ 0 → st.1.getD q 0 < 99 → ∃ a < k, st.1.getD (go s q a) 0 < st.1.getD q 0
theorem NrI.step (T : Tb s k) {i : Nat} {st : List Nat × List Nat} (h : NrI s k i st) : NrI s k (i + 1) (nrStep s st.1, lbStep s st.2) := by
  have spec : ∀ q, q < s.length → (nrStep s st.1).getD q 0 ∈ (st.1.getD q 0 :: (rw' s q).map fun g => 1 + st.1.getD g 0) ∧ ∀ x ∈ (st.1.getD q 0 :: (rw' s q).map fun g => 1 + st.1.getD g 0), (nrStep s st.1).getD q 0 ≤ x := fun q hq => by
    rw [nr_at hq]; exact mnN_spec (by simp)
  have down : ∀ q, q < s.length → (nrStep s st.1).getD q 0 ≤ st.1.getD q 0 := fun q hq => (spec q hq).2 _ List.mem_cons_self
  refine ⟨?_, fun x hx => ?_, fun x hx => (lb_mem.mp hx).1, fun q hq hne hlt => ?_⟩
  · have := down 0 T.pos
    have hz := h.z
    show (nrStep s st.1).getD 0 0 = 0
    omega
  · obtain ⟨h1, h2⟩ := lb_mem.mp hx
    show (nrStep s st.1).getD x 0 ≤ i + 1
    rcases h2 with rfl | ⟨g, hg, hm⟩
    · have := down 0 T.pos; have := h.z; omega
    · have := (spec x h1).2 (1 + st.1.getD g 0) (List.mem_cons_of_mem _ (List.mem_map.mpr ⟨g, hg, rfl⟩))
      have := h.le g hm
      omega
  · show ∃ a < k, (nrStep s st.1).getD (go s q a) 0 < (nrStep s st.1).getD q 0
    change (nrStep s st.1).getD q 0 < 99 at hlt
    rcases List.mem_cons.mp (spec q hq).1 with e1 | e1
    · obtain ⟨a, ha, h3⟩ := h.nz q hq hne (by omega)
      exact ⟨a, ha, by have := down _ (T.go hq ha); omega⟩
    · obtain ⟨g, hg, e2⟩ := List.mem_map.mp e1
      obtain ⟨a, ha, rfl⟩ := row_go T hq hg
      exact ⟨a, ha, by have := down _ (T.go hq ha); omega⟩
theorem fold_pair (n : Nat) (f l : List Nat) : (List.range n).foldl (fun st _ => (nrStep s st.1, lbStep s st.2)) (f, l) = ((List.range n).foldl (fun f _ => nrStep s f) f, (List.range n).foldl (fun l _ => lbStep s l) l) := by
  induction n with
  | zero => rfl
  | succ n ih => rw [List.range_succ, List.foldl_append, List.foldl_append, List.foldl_append, ih]; rfl
theorem near_ok (T : Tb s k) (hb : AllBk s k) : ∀ q < s.length, (farF s).getD q 0 ≤ s.length ∧ (q ≠ 0 → ∃ a < k, (farF s).getD (go s q a) 0 < (farF s).getD q 0) := by
  have h0 : ∀ q < s.length, (nr0 s).getD q 0 = if q = 0 then 0 else 99 := fun q hq => by
    unfold nr0
    rw [List.getD_eq_getElem?_getD, List.getElem?_map, List.getElem?_range hq]; rfl
  have I := fold_iter (fun st : List Nat × List Nat => (nrStep s st.1, lbStep s st.2)) (NrI s k) (nr0 s, [0]) ⟨by rw [h0 0 T.pos]; rfl, fun x hx => by rw [List.mem_singleton.mp hx, h0 0 T.pos]; exact Nat.le_refl _, fun x hx => by rw [List.mem_singleton.mp hx]; exact T.pos, fun q hq hne hlt => by
    have := h0 q hq
    rw [if_neg hne] at this
    change (nr0 s).getD q 0 < 99 at hlt
    omega⟩ (fun i y h => h.step T) s.length
  rw [fold_pair] at I
  have hfull := (lback_ok T).mpr hb
  have hnd : (lbF s).Nodup ∧ ∀ x ∈ lbF s, x < s.length := by
    have J := fold_iter (lbStep s) (LbI s k) [0] ⟨by simp, fun x hx => by rw [List.mem_singleton.mp hx]; exact T.pos, by simp, fun x hx => by rw [List.mem_singleton.mp hx]; exact ⟨[], (fun a ha => by cases ha), rfl⟩, fun x hx => by rw [List.mem_singleton.mp hx]; exact lb_mem.mpr ⟨T.pos, .inl rfl⟩, .inl (by simp)⟩ (fun i y h => h.step T) s.length
    exact ⟨J.nd, J.lt⟩
  have hall := (full_iff hnd.1 hnd.2).mp hfull
  intro q hq
  have hle : (farF s).getD q 0 ≤ s.length := I.le q (hall q hq)
  have := T.le
  exact ⟨hle, fun hne => I.nz q hq hne (by show (farF s).getD q 0 < 99; omega)⟩
end
end GL
end
/-! ## B1 -/
section
namespace GL
open PySem PySem.Spec PyProof.Rows L2
/-! ### the box of draws -/
structure Bx (m : Nat) (i0 i1 i2 : Int) : Prop where
  a0 : 0 ≤ i1
  a1 : i1 < 2 ^ 62
  b0 : 0 ≤ i2
  b1 : i2 ≤ m
theorem Bx.mono {m n : Nat} {i0 i1 i2 : Int} (h : Bx m i0 i1 i2) (hmn : m ≤ n) : Bx n i0 i1 i2 := ⟨h.a0, h.a1, h.b0, by have := h.b1; omega⟩
/-- the result keeps Pd, the box's next state is good at m, the other slots stand -/
def PB (b : Addr) (m : Nat) (Γr : Gm) (Pd : D → Prop) : D → Gm → Prop := fun d Γ' => Pd d ∧ ∃ i0 i1 i2, Bx m i0 i1 i2 ∧ Γ' = .own (.box b i0 i1 i2) :: Γr
def spB (R : List D → (D → Prop) → Nat → Prop) : Sp := fun vs H Q _ => ∃ (B : Av) (b : Addr) (vs' : List V) (ds : List D) (i0 i1 i2 : Int) (m k : Nat) (Pd : D → Prop), InH B H ∧ B b ∧ vs = .ref b :: vs' ∧ RpA B H vs' ds ∧ H b = some (.lst [.int i0, .int i1, .int i2]) ∧ Bx m i0 i1 i2 ∧ m + k ≤ 1000000 ∧ R ds Pd k ∧
  ∀ v H' j0 j1 j2 d, (∀ a o, H a = some o → a ≠ b → H' a = some o) → H' b = some (.lst [.int j0, .int j1, .int j2]) → Bx (m + k) j0 j1 j2 → Pd d → Rp B H' v d → Q v H'
theorem Sto.boxed {H0 : Hp} {B0 B : Av} {σ : St} {H H' : Hp} {Γr : Gm} {b : Addr} {i0 i1 i2 j0 j1 j2 : Int} (S : Sto H0 B0 B σ H (.own (.box b i0 i1 i2) :: Γr)) (hk : ∀ a o, H a = some o → a ≠ b → H' a = some o) (hb : H' b = some (.lst [.int j0, .int j1, .int j2])) : Sto H0 B0 B σ H' (.own (.box b j0 j1 j2) :: Γr) ∧ Tr B H B H' := by
  obtain ⟨q, h1, h2, h3, h4, h5⟩ := S.own 0 _ rfl
  subst h4
  have tr : Tr B H B H' := ⟨fun a o h hn => hk a o h fun e => hn (e ▸ h2), fun a h => .inl h⟩
  refine ⟨?_, tr⟩
  exact {
    ex := fun a o hh => hk a o (S.ex a o hh) fun e => by rw [e, h3] at hh; cases hh
    sub := S.sub
    old := S.old
    inH := fun m hm => by
      by_cases e : m = q
      · exact ⟨_, e ▸ hb⟩
      · obtain ⟨w, hw⟩ := S.inH m hm
        exact ⟨w, hk _ _ hw e⟩
    len := S.len
    val := fun i d hi => by
      cases i with
      | zero => cases hi
      | succ i =>
        obtain ⟨v, g1, g2⟩ := S.val (i + 1) d hi
        exact ⟨v, g1, g2.tr tr⟩
    own := fun i o hi => by
      cases i with
      | zero => cases hi; exact ⟨q, h1, h2, h3, rfl, hb⟩
      | succ i =>
        obtain ⟨b2, g1, g2, g3, g4⟩ := S.own (i + 1) o hi
        have hne : b2 ≠ q := fun e => by
          have := S.sep 0 (i + 1) _ o rfl hi (by rw [h1, g1, e])
          cases this
        obtain ⟨u, hu⟩ := g4.some
        exact ⟨b2, g1, g2, g3, g4.to tr ((hk _ _ hu hne).trans hu.symm)⟩
    sep := fun i j o u hi hj e => by
      have aux : ∀ (n : Nat) (o : Ob), (Sl.own (.box q j0 j1 j2) :: Γr)[n]? = some (.own o) → ∃ o', (Sl.own (.box q i0 i1 i2) :: Γr)[n]? = some (.own o') := fun n o h => by
        cases n with
        | zero => exact ⟨_, rfl⟩
        | succ n => exact ⟨o, h⟩
      obtain ⟨o', ho⟩ := aux i o hi
      obtain ⟨u', hu⟩ := aux j u hj
      exact S.sep i j o' u' ho hu e }
def startB (N : List Str) (bo : Ob) (ds : List D) : Gm := .own bo :: (ds.map Sl.val ++ List.replicate (N.length - 1 - ds.length) Sl.any)
theorem sto_startB {B : Av} {H : Hp} {b : Addr} {vs : List V} {ds : List D} {N : List Str} {i0 i1 i2 : Int} (hB : InH B H) (hb : B b) (hH : H b = some (.lst [.int i0, .int i1, .int i2])) (r : RpA B H vs ds) (hN : ds.length + 1 ≤ N.length) : Sto (fun a => if a = b then none else H a) (fun a => B a ∧ a ≠ b) B (L2.start N (.ref b :: vs)) H (startB N (.box b i0 i1 i2) ds) where
  ex := fun a o h => by
    change (if a = b then none else H a) = some o at h
    split at h
    · cases h
    · exact h
  sub := fun a h => h.1
  old := fun a h => by
    obtain ⟨o, ho⟩ := hB a h.1
    exact ⟨o, by simp only [h.2, if_false]; exact ho⟩
  inH := hB
  len := by unfold L2.start startB; simp [r.length]; omega
  val := fun i d h => by
    cases i with
    | zero => cases h
    | succ i =>
      unfold startB at h
      rw [List.getElem?_cons_succ] at h
      by_cases hi : i < ds.length
      · rw [List.getElem?_append_left (by simpa using hi), List.getElem?_map] at h
        obtain ⟨d', h1, h2⟩ := Option.map_eq_some_iff.mp h
        cases h2
        obtain ⟨v, h3, h4⟩ := r.get h1
        refine ⟨v, ?_, h4⟩
        unfold L2.start
        rw [List.getElem?_append_left (by simp [r.length]; omega), List.getElem?_map, List.getElem?_cons_succ, h3]; rfl
      · rw [List.getElem?_append_right (by simpa using hi)] at h
        have := List.mem_of_getElem? h
        rw [List.mem_replicate] at this
        cases this.2
  own := fun i o h => by
    cases i with
    | zero => cases h; exact ⟨b, rfl, hb, by simp, rfl, hH⟩
    | succ i =>
      unfold startB at h
      rw [List.getElem?_cons_succ] at h
      by_cases hi : i < ds.length
      · rw [List.getElem?_append_left (by simpa using hi), List.getElem?_map] at h
        obtain ⟨d', h1, h2⟩ := Option.map_eq_some_iff.mp h
        cases h2
      · rw [List.getElem?_append_right (by simpa using hi)] at h
        have := List.mem_of_getElem? h
        rw [List.mem_replicate] at this
        cases this.2
  sep := fun i j o u h h' _ => by
    have aux : ∀ (n : Nat) (o : Ob), (startB N (.box b i0 i1 i2) ds)[n]? = some (.own o) → n = 0 := fun n o h => by
      cases n with
      | zero => rfl
      | succ i =>
        unfold startB at h
        rw [List.getElem?_cons_succ] at h
        by_cases hi : i < ds.length
        · rw [List.getElem?_append_left (by simpa using hi), List.getElem?_map] at h
          obtain ⟨d', h1, h2⟩ := Option.map_eq_some_iff.mp h
          cases h2
        · rw [List.getElem?_append_right (by simpa using hi)] at h
          have := List.mem_of_getElem? h
          rw [List.mem_replicate] at this
          cases this.2
    rw [aux i o h, aux j u h']
section
variable {P : Program} {w : World} {K : PySem.W.Frag} {mg : Str → Option Value} {base : Heap} {x : Str} {st : Stmt} {f : Addr} {fd : FuncData} {N ps : List Str} {k : Nat}
theorem okB {R : List D → (D → Prop) → Nat → Prop} (F : L2.Fun K x x st f fd) (S : FnScope N ps (defScope st)) (len : ∀ ds Pd k, R ds Pd k → ds.length + 1 = ps.length) (hNp : ps.length ≤ N.length)
    (body : ∀ ds Pd kk, R ds Pd kk → ∀ b i0 i1 i2 m, Bx m i0 i1 i2 → m + kk ≤ 1000000 → BX (c0 P w K mg base N st k) (defBody st) (startB N (.box b i0 i1 i2) ds) { rt := fun Γ' r => Pd r ∧ ∃ j0 j1 j2 Γr, Γ' = .own (.box b j0 j1 j2) :: Γr ∧ Bx (m + kk) j0 j1 j2 }) : FnOk P w K mg base CX0 (k + 1) f fd ps (spB R) := by
  refine F.ok S (fun vs H Q E h => ?_) (fun cdv A outer s H vs Q E hr h => ?_)
  · obtain ⟨B, b, vs', ds, i0, i1, i2, m, kk, Pd, hB, hb, rfl, r, hH, hx, hm, hR, _⟩ := h
    rw [List.length_cons, r.length]; exact len ds Pd kk hR
  · obtain ⟨B, b, vs', ds, i0, i1, i2, m, kk, Pd, hB, hb, rfl, r, hH, hx, hm, hR, q⟩ := h
    have hl := len ds Pd kk hR
    refine ⟨_, pb_of _ _, body ds Pd kk hR b i0 i1 i2 m hx hm _ _ B (L2.start N (.ref b :: vs')) H _ (sto_startB hB hb hH r (by omega)) ⟨fun B' σ' H' Γ' S' t e => e.elim, fun B' σ' H' Γ' v d' S' t r' e => ?_, fun B' σ' H' Γ' p o S' t h1 h2 r' e => e.elim, fun _ _ _ _ _ _ e => e.elim, fun _ _ _ _ _ _ e => e.elim⟩ _ (c0_is S.nd hr)⟩
    obtain ⟨hP, j0, j1, j2, Γr, rfl, hx'⟩ := e
    obtain ⟨q0, g1, g2, g3, g4, g5⟩ := S'.own 0 _ rfl
    subst g4
    refine q v H' j0 j1 j2 d' (fun a o ha hne => S'.ex a o (by simp only [hne, if_false]; exact ha)) g5 hx' hP (r'.sub fun a ha => ?_)
    by_cases e : a = q0
    · exact e ▸ g2
    · exact S'.sub a ⟨ha, e⟩
end
theorem Df.pmB {P : Program} {w : World} {K : PySem.W.Frag} {mg : Str → Option Value} {base : Heap} {k : Nat} {n : Str} {ps N : List Str} {st : Stmt} {R : List D → (D → Prop) → Nat → Prop} (h : Df K mg n st ps) (S : FnScope N ps (defScope st)) (len : ∀ ds Pd k, R ds Pd k → ds.length + 1 = ps.length) (hNp : ps.length ≤ N.length)
    (body : ∀ ds Pd kk, R ds Pd kk → ∀ b i0 i1 i2 m, Bx m i0 i1 i2 → m + kk ≤ 1000000 → BX (c0 P w K mg base N st k) (defBody st) (startB N (.box b i0 i1 i2) ds) { rt := fun Γ' r => Pd r ∧ ∃ j0 j1 j2 Γr, Γ' = .own (.box b j0 j1 j2) :: Γr ∧ Bx (m + kk) j0 j1 j2 }) : Pm P w K mg base (k + 1) n ps (spB R) := h.pm fun _ _ F => okB F S len hNp body
section
variable {c : Cp} {Γ Γ' Γ1 Γ2 Γr : Gm} {e a b' t elt tg iter ix : Expr} {es ifs : List Expr} {d x y z : D} {pos p p2 p3 q apos cpos : Pos} {n n2 tn : Str} {scope : Scope} {vs ts : List Nat} {kk : Bool} {E : En} {st : Stmt} {sts orelse rest body : List Stmt} {b : Addr} {i0 i1 i2 : Int} {m k : Nat} {ps : List Str} {ds : List D}
theorem ew_box (hN : c.N[0]? = some n := by rfl) (hv : Vis c.sc n := by first | exact .inl rfl | exact .inr (.inl rfl) | exact .inr (.inr rfl)) (hd : (n == ("__debug__" : Str)) = false := by decide) (hcd : (n == ("__classdict__" : Str)) = false := by decide) : EW c (.Name n pos) (.own (.box b i0 i1 i2) :: Γr) (.list [.int i0, .int i1, .int i2]) :=
  fun H0 B0 B σ H Q S k X cx => by
    obtain ⟨b, h1, h2, h3, h4, h5⟩ := S.own 0 _ rfl
    exact go_e (pe_var (by rw [cx.N]; exact hN) (by rw [cx.sc]; exact hv) hd hcd) ⟨_, h1, k _ H (Ext.refl H) (.lst h5 (.cons (.int _) (.cons (.int _) (.cons (.int _) .nil))))⟩
/-- tin[j] = e -/
theorem bs_box (j : Nat) {i v j0 j1 j2 : Int} (he : EP c e (.own (.box b i0 i1 i2) :: Γr) (.int v)) (hi : EW c ix (.own (.box b i0 i1 i2) :: Γr) (.int i)) (hij : i = (j : Int)) (hj : j < 3) (hset : [V.int i0, .int i1, .int i2].set j (.int v) = [V.int j0, .int j1, .int j2]) (k : BX c rest (.own (.box b j0 j1 j2) :: Γr) E) (hN : c.N[0]? = some n := by rfl) (hv : Vis c.sc n := by first | exact .inl rfl | exact .inr (.inl rfl) | exact .inr (.inr rfl))
    (hp : ∀ X to ti, PE X (.Name n p) to → PE X ix ti → PG X (.Subscript (.Name n p) ix p2) (gSub to ti rSetL) := by exact fun X to ti h1 h2 => pg_sub h1 h2 set_list)
    (hs : ∀ env : Env, swapsWithSole [.Subscript (.Name n p) ix p2] e pos.line env = pure false := by intro _; rfl) (hw : ∀ env : Env, swappedStores [.Subscript (.Name n p) ix p2] e env = pure none := by intro _; rfl)
    (h1 : ∀ env : Env, (assignEach [.Subscript (.Name n p) ix p2] env).map (·.2) = [assign (.Subscript (.Name n p) ix p2) env] := by intro _; rfl) (hd : (n == ("__debug__" : Str)) = false := by decide) (hcd : (n == ("__classdict__" : Str)) = false := by decide) : BX c (.Assign [.Subscript (.Name n p) ix p2] e pos :: rest) (.own (.box b i0 i1 i2) :: Γr) E :=
  bx_cons fun H0 B0 B σ H Dn S L X cx => go_s (ps_asg (pe_of X e) (hp X _ _ (pe_var (by rw [cx.N]; exact hN) (by rw [cx.sc]; exact hv) hd hcd) (pe_of X ix)) (hs X.env) (hw X.env) (h1 X.env)) (he H0 B0 B σ H _ S (fun v' H1 e1 r1 => by
    obtain ⟨q, f1, f2, f3, f4, f5⟩ := S.own 0 _ rfl
    refine ⟨.ref q, f1, hi H0 B0 B σ H1 _ (S.ext e1) (fun w H2 e2 r2 => ?_) X cx⟩
    cases r2
    cases r1
    have f5' := e2 _ _ (e1 _ _ f5)
    refine ⟨q, _, i, j, rfl, rfl, f5', ?_, ?_⟩
    · unfold ixN
      have e3 : ([V.int i0, .int i1, .int i2]).length = 3 := rfl
      rw [e3, if_pos (by omega), if_pos (by omega), hij]; simp
    · have S2 := S.ext (e1.trans e2)
      subst f4
      have hk : ∀ a o, H2 a = some o → a ≠ q → (upd H2 q (.lst ([V.int i0, .int i1, .int i2].set j (.int v)))) a = some o := fun a o ha hne => by rw [upd_ne hne]; exact ha
      obtain ⟨S3, t3⟩ := S2.boxed hk (by rw [hset]; exact upd_same)
      exact L.nx B σ _ _ S3 ((e1.trans e2).tr.trans t3) k) X cx)
/-- f(tin, pure..) -/
theorem ex_callB {R : List D → (D → Prop) → Nat → Prop} {Pd : D → Prop} (F : FD c n ps (spB R)) (hg : c.gl n) (ha : AP c es (.own (.box b i0 i1 i2) :: Γr) ds) (hR : R ds Pd k) (hx : Bx m i0 i1 i2) (hm : m + k ≤ 1000000) (hN : c.N[0]? = some tn := by rfl) (hv : Vis c.sc tn := by first | exact .inl rfl | exact .inr (.inl rfl) | exact .inr (.inr rfl)) (htd : (tn == ("__debug__" : Str)) = false := by decide) (htc : (tn == ("__classdict__" : Str)) = false := by decide) (hdb : (n == ("__debug__" : Str)) = false := by decide) (he : ∀ env : Env, starEach (.Name tn p2 :: es) env = (false, eval (.Name tn p2) env) :: starEach es env := by intro _; rfl) (hpl : ∀ env : Env, (backTo pos (starEach es env)).any (·.1) = false := by intro _; rfl) :
    EX c (.Call (.Name n p) (.Name tn p2 :: es) [] pos) (.own (.box b i0 i1 i2) :: Γr) (PB b (m + k) Γr Pd) := fun H0 B0 B σ H Q S kq X cx => by
  obtain ⟨f, fd, k', h1, h2, h3, h4, h5⟩ := F.ex
  have h5' : FnOk X.prog X.w X.K X.mg X.base CX0 k' f fd ps (spB R) := by rw [cx.prog, cx.w, cx.K, cx.mg, cx.base]; exact h5
  obtain ⟨q, f1, f2, f3, f4, f5⟩ := S.own 0 _ rfl
  subst f4
  refine go_e (pe_call h5' (cx.room.mono h4) (cx.gl hg) (by rw [cx.mg]; exact h1) (by rw [cx.K]; exact h2) (by rw [cx.K]; exact h3) .nil pass0 (pa_cons (pe_var (by rw [cx.N]; exact hN) (by rw [cx.sc]; exact hv) htd htc) (pa_of X es) (he X.env)) hdb (he X.env) (hpl X.env)) ?_
  refine ⟨_, f1, ha H0 B0 B σ H _ S (fun vs H1 e1 r1 => ?_) X cx⟩
  refine ⟨B, q, vs, ds, i0, i1, i2, m, k, Pd, (S.ext e1).inH, f2, by rw [List.append_nil], r1, e1 _ _ f5, hx, hm, hR, fun v H2 j0 j1 j2 d g1 g2 g3 g4 g5 => ?_⟩
  obtain ⟨S3, t3⟩ := (S.ext e1).boxed g1 g2
  exact kq v H2 d _ ⟨g4, j0, j1, j2, g3, rfl⟩ S3 (e1.tr.trans t3) g5
/-- f(tin, e), e stateful -/
theorem ex_callBX {R : List D → (D → Prop) → Nat → Prop} {Pd P1 : D → Prop} {m1 : Nat} (F : FD c n ps (spB R)) (hg : c.gl n) (ha : EX c e (.own (.box b i0 i1 i2) :: Γr) (PB b m1 Γr P1)) (hR : ∀ d, P1 d → R [d] Pd k) (hm : m1 + k ≤ 1000000) (hN : c.N[0]? = some tn := by rfl) (hv : Vis c.sc tn := by first | exact .inl rfl | exact .inr (.inl rfl) | exact .inr (.inr rfl)) (htd : (tn == ("__debug__" : Str)) = false := by decide) (htc : (tn == ("__classdict__" : Str)) = false := by decide) (hdb : (n == ("__debug__" : Str)) = false := by decide) (he : ∀ env : Env, starEach [.Name tn p2, e] env = (false, eval (.Name tn p2) env) :: starEach [e] env := by intro _; rfl) (he2 : ∀ env : Env, starEach [e] env = (false, eval e env) :: starEach [] env := by intro _; rfl) (hpl : ∀ env : Env, (backTo pos (starEach [e] env)).any (·.1) = false := by intro _; rfl) :
    EX c (.Call (.Name n p) [.Name tn p2, e] [] pos) (.own (.box b i0 i1 i2) :: Γr) (PB b (m1 + k) Γr Pd) := fun H0 B0 B σ H Q S kq X cx => by
  obtain ⟨f, fd, k', h1, h2, h3, h4, h5⟩ := F.ex
  have h5' : FnOk X.prog X.w X.K X.mg X.base CX0 k' f fd ps (spB R) := by rw [cx.prog, cx.w, cx.K, cx.mg, cx.base]; exact h5
  obtain ⟨q, f1, f2, f3, f4, f5⟩ := S.own 0 _ rfl
  subst f4
  refine go_e (pe_call h5' (cx.room.mono h4) (cx.gl hg) (by rw [cx.mg]; exact h1) (by rw [cx.K]; exact h2) (by rw [cx.K]; exact h3) .nil pass0 (pa_cons (pe_var (by rw [cx.N]; exact hN) (by rw [cx.sc]; exact hv) htd htc) (pa_cons (pe_of X e) pa_nil (he2 X.env)) (he X.env)) hdb (he X.env) (hpl X.env)) ?_
  refine ⟨_, f1, ha H0 B0 B σ H _ S (fun v H1 d Γ1 pp S1 t1 r1 => ?_) X cx⟩
  obtain ⟨hP1, j0, j1, j2, hx1, rfl⟩ := pp
  obtain ⟨q', g1, g2, g3, g4, g5⟩ := S1.own 0 _ rfl
  subst g4
  refine ⟨B, q', [v], [d], j0, j1, j2, m1, k, Pd, S1.inH, f2, rfl, .cons r1 .nil, g5, hx1, hm, hR d hP1, fun v2 H2 k0 k1 k2 d2 u1 u2 u3 u4 u5 => ?_⟩
  obtain ⟨S3, t3⟩ := S1.boxed u1 u2
  exact kq v2 H2 d2 _ ⟨u4, k0, k1, k2, u3, rfl⟩ S3 (t1.trans t3) u5
/-- pure op stateful -/
theorem ex_bin {op : Operator} {r : R2} {P1 P2 : D → Gm → Prop} (ho : ∀ X, c.Is X → OpR X (binaryOp op) r) (ha : EP c a Γ x) (hb : EX c b' Γ P1) (hr : ∀ d Γ', P1 d Γ' → ∃ z, RvD r x d z ∧ P2 z Γ') : EX c (.BinOp a op b' pos) Γ P2 := fun H0 B0 B σ H Q S k X cx =>
  go_e (pe_op (ho X cx) (pe_of X a) (pe_of X b')) (ha H0 B0 B σ H _ S (fun v H1 e1 r1 => hb H0 B0 B σ H1 _ (S.ext e1) (fun w H2 d Γ' pp S2 t2 r2 => by
    obtain ⟨z, hz, hp⟩ := hr d Γ' pp
    exact hz B H2 v w Q S2.inH (r1.tr t2).w r2.w fun u H3 e3 q => k u H3 z Γ' hp (S2.ext e3) ((e1.tr.trans t2).trans e3.tr) q) X cx) X cx)
/-- stateful compared with pure -/
theorem tx_cmpL {op : CmpOp} {r : R2} {P1 : D → Gm → Prop} {P2 : Bool → Gm → Prop} (ho : ∀ X, c.Is X → OpR X (compareOp op) r) (ha : EX c a Γ P1) (hr : ∀ d Γ', P1 d Γ' → ∃ y k, EP c b' Γ' y ∧ RvD r d y (.bool k) ∧ P2 k Γ') (hm : behindInMarks op b' = false := by first | exact nomark _ | rfl) : TX c (.Compare a [op] [b'] pos) Γ P2 := fun H0 B0 B σ H Q S q X cx =>
  go_t (pt_cmpR (ho X cx) (pe_of X a) (pe_of X b') hm) (ha H0 B0 B σ H _ S (fun v H1 d Γ1 pp S1 t1 r1 => by
    obtain ⟨y, k, hb, hz, hp⟩ := hr d Γ1 pp
    exact hb H0 B0 B σ H1 _ S1 (fun w H2 e2 r2 => hz B H2 v w _ (S1.ext e2).inH (r1.ext e2).w r2.w fun u H3 e3 rr => by
      cases rr; exact ⟨k, rfl, q k H3 Γ1 hp ((S1.ext e2).ext e3) ((t1.trans e2.tr).trans e3.tr)⟩) X cx) X cx)
/-- goods[stateful] -/
theorem ex_ixL {ds : List D} {P1 P2 : D → Gm → Prop} (ha : EW c a Γ (.list ds)) (hown : ∀ H0 B0 B σ H, Sto H0 B0 B σ H Γ → True) (hb : EX c b' Γ P1) (hr : ∀ d Γ', P1 d Γ' → ∃ (i : Nat) (z : D), d = dN i ∧ ds[i]? = some z ∧ P2 z Γ') (hA : EP c a Γ (.list ds)) (hs : PlainIx b' := by exact fun _ _ => rfl) : EX c (.Subscript a b' pos) Γ P2 := fun H0 B0 B σ H Q S k X cx =>
  go_e (pe_ix ix_list (pe_of X a) (pe_of X b') hs) (hA H0 B0 B σ H _ S (fun v H1 e1 r1 => hb H0 B0 B σ H1 _ (S.ext e1) (fun w H2 d Γ' pp S2 t2 r2 => by
    obtain ⟨i, z, rfl, hz, hp⟩ := hr d Γ' pp
    exact rvd_ix rfl hz B H2 v w Q S2.inH (r1.tr t2).w r2.w fun u H3 e3 q => k u H3 z Γ' hp (S2.ext e3) ((e1.tr.trans t2).trans e3.tr) q) X cx) X cx)
theorem ex_ix {ds : List D} {P1 P2 : D → Gm → Prop} (hA : EP c a Γ (.list ds)) (hb : EX c b' Γ P1) (hr : ∀ d Γ', P1 d Γ' → ∃ (i : Nat) (z : D), d = dN i ∧ ds[i]? = some z ∧ P2 z Γ') (hs : PlainIx b' := by exact fun _ _ => rfl) : EX c (.Subscript a b' pos) Γ P2 := ex_ixL hA.w (fun _ _ _ _ _ _ => trivial) hb hr hA hs
end
end GL
end
/-! ## B2 -/
section
namespace GL
open PySem PySem.Spec PyProof.Rows L2
theorem era_map {α β : Type} (f : α → β) : ∀ (l : List α) (i : Nat), (l.map f).eraseIdx i = (l.eraseIdx i).map f
  | [], _ => rfl
  | _ :: _, 0 => rfl
  | a :: l, i + 1 => by
    show f a :: (l.map f).eraseIdx i = f a :: (l.eraseIdx i).map f
    rw [era_map f l i]
theorem dN_of {i : Int} (h : 0 ≤ i) : D.int i = dN i.toNat := by show D.int i = D.int _; congr 1; omega
section
variable {c : Cp} {Γ : Gm} {e : Expr} {p apos cpos : Pos} {n : Str}
theorem ex_popAt' {P' : D → Gm → Prop} {s : Nat} {P : D → Gm → Prop} (hN : c.N[s]? = some n) (hv : Vis c.sc n) (hg : ∃ ds0, Γ[s]? = some (.own (.lst ds0))) (h : EX c e Γ P) (hk : ∀ d0 Γ1, P d0 Γ1 → ∃ (i : Int) (j : Nat) (ds : List D) (d : D), d0 = .int i ∧ i = (j : Int) ∧ Γ1[s]? = some (.own (.lst ds)) ∧ ds[j]? = some d ∧ ds.length ≤ 100000 ∧ P' d (Γ1.set s (.own (.lst (ds.eraseIdx j)))))
    (hm : ∀ X to t, PE X (.Name n p) to → PA X [e] t → PE X (.Call (.Attribute (.Name n p) "pop" apos) [e] [] cpos) (tBM X.K "list" rPopAt to t) := by exact fun X to t h1 h2 => pe_bm PySem.F.plainAttrs_list PySem.F.slot_list_pop PySem.F.type_list_pop mt_popAt h1 h2) (he : ∀ env : Env, starEach [e] env = (false, eval e env) :: starEach [] env := by intro _; rfl) (hd : (n == ("__debug__" : Str)) = false := by decide) (hcd : (n == ("__classdict__" : Str)) = false := by decide) :
    EX c (.Call (.Attribute (.Name n p) "pop" apos) [e] [] cpos) Γ P' := ex_popAt hN hv hg h hk hm he hd hcd
end
section
variable {P : Program} {w : World} {K : PySem.W.Frag} {mg : Str → Option Value} {base : Heap}
/-! ### _law_take -/
def R_take (ds : List D) (Pd : D → Prop) (k : Nat) : Prop := ∃ n : Nat, 1 ≤ n ∧ n ≤ 1000 ∧ ds = [dN n] ∧ k = 1 ∧ ∀ i < n, Pd (dN i)
theorem p_take (T : Tx K mg) : Pm P w K mg base 1 "_law_take" ["_law_tin", "_law_below_so"] (spB R_take) := by
  refine T.d_l_take.pmB sc_l_take (fun ds Pd k h => ?_) (by decide) fun ds Pd k h b i0 i1 i2 m hx hm => ?_
  · obtain ⟨_, _, _, rfl, _⟩ := h; rfl
  · obtain ⟨n, h1, h2, rfl, rfl, hP⟩ := h
    have hmod : ∀ z : Int, ∃ i : Nat, i < n ∧ z % (n : Int) = (i : Int) := fun z => by
      have g1 := Int.emod_nonneg z (b := (n : Int)) (by omega)
      have g2 := Int.emod_lt_of_pos z (b := (n : Int)) (by omega)
      exact ⟨(z % (n : Int)).toNat, by omega, by omega⟩
    have hb := hx.b1
    have hb0 := hx.b0
    refine bs_ifr (tp_gt (EP.w (ep_ixL ew_box (EP.w ep_int) (j := 0) rfl rfl)) (EP.w ep_int)) (fun _ => ?_) (fun _ => ?_)
    · obtain ⟨r, hr, er⟩ := hmod i0
      refine bs_set 2 (s := .val (dN r)) (EP.sp (EP.is (ep_mod (EP.w (ep_intI rfl T.b_int (EP.w (ep_ixL ew_box (EP.w ep_int) (j := 0) rfl rfl)))) (nw 1) (by omega)) (by rw [er]))) ?_
      refine bs_box 0 (v := i0 / (n : Int)) (ep_fdiv (EP.w (ep_ixL ew_box (EP.w ep_int) (j := 0) rfl rfl)) (nw 1) (by unfold CDiv; omega)) (EP.w ep_int) rfl (by decide) rfl ?_
      exact bs_ret (nm 2) ⟨hP r hr, _, _, _, _, rfl, hx.a0, hx.a1, hx.b0, by omega⟩
    · refine bs_box 2 (v := i2 + 1) (ep_add (EP.w (ep_ixL ew_box (EP.w ep_int) (j := 2) rfl rfl)) (EP.w ep_int)) (EP.w ep_int) rfl (by decide) rfl ?_
      generalize hq : i2 + 1 = q at *
      have hq0 : 0 ≤ q := by omega
      have hq1 : q ≤ 1000001 := by omega
      have ha0 := hx.a0
      have ha1 := hx.a1
      refine bs_set 3 (s := .val (.int ((i1 + 48271 * q) * (39373 + q) % 2147483647))) (EP.sp (ep_mod (EP.w (ep_intI rfl T.b_int (EP.w (ep_mul (EP.w (ep_add (EP.w (ep_ixL ew_box (EP.w ep_int) (j := 1) rfl rfl)) (EP.w (ep_mul (EP.w ep_int) (EP.w (ep_ixL ew_box (EP.w ep_int) (j := 2) rfl rfl)) (.inl (by omega)))))) (EP.w (ep_add (EP.w ep_int) (EP.w (ep_ixL ew_box (EP.w ep_int) (j := 2) rfl rfl)))) (.inr (by omega)))))) (EP.w ep_int) (by decide))) ?_
      generalize (i1 + 48271 * q) * (39373 + q) = z1
      have g1 := Int.emod_nonneg z1 (b := 2147483647) (by decide)
      have g2 := Int.emod_lt_of_pos z1 (b := 2147483647) (by decide)
      generalize z1 % 2147483647 = once at *
      refine bs_set 4 (s := .val (.int (once % 40009 + 7))) (EP.sp (ep_add (EP.w (ep_mod (EP.w (ep_intI rfl T.b_int (nw 3))) (EP.w ep_int) (by decide))) (EP.w ep_int))) ?_
      have g3 := Int.emod_nonneg once (b := 40009) (by decide)
      have g4 := Int.emod_lt_of_pos once (b := 40009) (by decide)
      generalize once % 40009 = wd at *
      refine bs_set 5 (s := .val (.int ((once + q + i1 / 1000003) * (wd + 7) % 2147483629))) (EP.sp (ep_mod (EP.w (ep_intI rfl T.b_int (EP.w (ep_mul (EP.w (ep_add (EP.w (ep_add (nw 3) (EP.w (ep_ixL ew_box (EP.w ep_int) (j := 2) rfl rfl)))) (EP.w (ep_fdiv (EP.w (ep_ixL ew_box (EP.w ep_int) (j := 1) rfl rfl)) (EP.w ep_int) (by unfold CDiv; omega))))) (nw 4) (.inr (by omega)))))) (EP.w ep_int) (by decide))) ?_
      generalize (once + q + i1 / 1000003) * (wd + 7) % 2147483629 = tw
      obtain ⟨r, hr, er⟩ := hmod ((tw * 48271 + once) % 2147483587 / 64)
      refine bs_ret (d := dN r) (EP.is (ep_mod (EP.w (ep_intI rfl T.b_int (EP.w (ep_fdiv (EP.w (ep_mod (EP.w (ep_intI rfl T.b_int (EP.w (ep_add (EP.w (ep_mul (nw 5) (EP.w ep_int) (.inr (by omega)))) (nw 3))))) (EP.w ep_int) (by decide))) (EP.w ep_int) (by unfold CDiv; omega))))) (nw 1) (by omega)) (by rw [er])) ?_
      exact ⟨hP r hr, _, _, _, _, rfl, hx.a0, hx.a1, hq0, by omega⟩
/-! ### _law_of -/
def R_of (ds : List D) (Pd : D → Prop) (k : Nat) : Prop := ∃ gs : List D, gs ≠ [] ∧ gs.length ≤ 1000 ∧ ds = [.list gs] ∧ k = 1 ∧ ∀ g ∈ gs, Pd g
theorem p_of (T : Tx K mg) : Pm P w K mg base 2 "_law_of" ["_law_tin", "_law_goods_so"] (spB R_of) := by
  refine T.d_l_of.pmB sc_l_of (fun ds Pd k h => ?_) (by decide) fun ds Pd k h b i0 i1 i2 m hx hm => ?_
  · obtain ⟨_, _, _, rfl, _⟩ := h; rfl
  · obtain ⟨gs, h1, h2, rfl, rfl, hP⟩ := h
    have hpos := List.length_pos_iff.mpr h1
    refine bx_cons (sx_retX (ex_ix (nm 1) (ex_callB (Pd := fun d => ∃ i, i < gs.length ∧ d = dN i) ((p_take T).fd (by decide)) rfl (ap_cons (ep_len rfl T.b_len (nw 1) rfl) ap_nil) ⟨gs.length, hpos, h2, rfl, rfl, fun i hi => ⟨i, hi, rfl⟩⟩ hx hm) (P2 := PB b (m + 1) [.val (.list gs)] Pd) (fun d Γ' hp => ?_)) (fun d Γ' hp => ?_))
    · obtain ⟨⟨i, hi, rfl⟩, j0, j1, j2, hx', rfl⟩ := hp
      exact ⟨i, gs[i], rfl, List.getElem?_eq_getElem hi, hP _ (List.getElem_mem hi), j0, j1, j2, hx', rfl⟩
    · obtain ⟨hp, j0, j1, j2, hx', rfl⟩ := hp
      exact ⟨hp, j0, j1, j2, _, rfl, hx'⟩
/-! ### _law_pick, of a range -/
def R_pick (ds : List D) (Pd : D → Prop) (k : Nat) : Prop := ∃ n : Nat, 1 ≤ n ∧ n ≤ 5 ∧ ds = [dL (List.range n), dN n] ∧ k = n ∧ ∀ l : List Nat, l.length = n → (∀ x ∈ l, x < n) → Pd (dL l)
theorem p_pick (T : Tx K mg) : Pm P w K mg base 2 "_law_pick" ["_law_tin", "_law_goods_so", "_law_count_so"] (spB R_pick) := by
  refine T.d_l_pick.pmB sc_l_pick (fun ds Pd k h => ?_) (by decide) fun ds Pd k h b i0 i1 i2 m hx hm => ?_
  · obtain ⟨_, _, _, rfl, _⟩ := h; rfl
  · obtain ⟨n, h1, h2, rfl, rfl, hP⟩ := h
    refine bs_par 3 4 (EO.sp (eo_list rfl T.b_list (nw 1) rfl)) (EO.sp (eo_lst (ds := []) ap_nil sz0)) ?_
    refine bx_cons (sx_for (is_rngI (n := k) rfl T.b_range (ep_min2 rfl T.b_min (EP.w (ep_intI rfl T.b_int (nw 2))) (EP.w (ep_lenN (x := k) rfl T.b_len (ow 3) rfl (by simp)))) ?_ (by simp <;> omega) (by simp <;> omega)) (fun i Γ' => ∃ (j0 j1 j2 : Int) (pool found : List Nat), Bx (m + i) j0 j1 j2 ∧ pool.length = k - i ∧ found.length = i ∧ (∀ x ∈ pool, x < k) ∧ (∀ x ∈ found, x < k) ∧ GmW Γ' [.own (.box b j0 j1 j2), .any, .any, .own (.lst (pool.map dN)), .own (.lst (found.map dN)), .any]) ⟨i0, i1, i2, List.range k, [], hx, by simp, rfl, fun x h => List.mem_range.mp h, by simp, by (first | exact GmW.refl _ | (repeat' (first | exact True.intro | refine ⟨?_, ?_⟩ | exact SlW.refl _ | exact SlW.any _ | exact SlW.frz _)))⟩ (fun i d Γ' hd hW => ?_) fun Γ' hW => ?_)
    · simp
    · have hi : i < k := by have := (List.getElem?_eq_some_iff.mp hd).1; simpa using this
      obtain ⟨j0, j1, j2, pool, found, hb, hp, hf, hpm, hfm, hg⟩ := hW
      have hpl : 0 < pool.length := by omega
      refine ⟨_, _, _, hg, gn 5, ?_⟩
      refine bx_cons (sx_append (ds := []) (s := 4) rfl (.inl rfl) ⟨_, rfl⟩ (ex_popAt' (P' := fun d1 Γ' => ∃ (q : Nat) (k0 k1 k2 : Int), ∃ hq : q < pool.length, Bx (m + i + 1) k0 k1 k2 ∧ d1 = dN pool[q] ∧ Γ' = [.own (.box b k0 k1 k2), .any, .any, .own (.lst ((pool.eraseIdx q).map dN)), .own (.lst (found.map dN)), .val d]) (s := 3) rfl (.inl rfl) ⟨_, rfl⟩ (ex_callB (Pd := fun d => ∃ i, i < pool.length ∧ d = dN i) ((p_take T).fd (by decide)) rfl (ap_cons (ep_lenN (x := pool.length) rfl T.b_len (ow 3) rfl (by simp)) ap_nil) ⟨pool.length, hpl, by omega, rfl, rfl, fun i hi => ⟨i, hi, rfl⟩⟩ hb (by omega)) (fun d0 Γ1 pp => ?_)) (fun d0 Γ1 pp => ?_))
      · obtain ⟨⟨q, hq, rfl⟩, k0, k1, k2, hx', rfl⟩ := pp
        refine ⟨q, q, pool.map dN, dN pool[q], rfl, rfl, rfl, by rw [List.getElem?_map, List.getElem?_eq_getElem hq]; rfl, by simp; omega, q, k0, k1, k2, hq, hx', rfl, ?_⟩
        rw [era_map]; rfl
      · obtain ⟨q, k0, k1, k2, hq, hx', rfl, rfl⟩ := pp
        refine ⟨found.map dN, rfl, by simp; omega, bx_nil ⟨k0, k1, k2, pool.eraseIdx q, found ++ [pool[q]], by rw [← Nat.add_assoc]; exact hx', by rw [List.length_eraseIdx]; simp [hq]; omega, by simp [hf], fun x hx => hpm x (List.mem_of_mem_eraseIdx hx), fun x hx => ?_, ?_⟩⟩
        · rcases List.mem_append.mp hx with hx | hx
          · exact hfm x hx
          · rw [List.mem_singleton.mp hx]; exact hpm _ (List.getElem_mem hq)
        · rw [List.map_append]
          (first | exact GmW.refl _ | (repeat' (first | exact True.intro | refine ⟨?_, ?_⟩ | exact SlW.refl _ | exact SlW.any _ | exact SlW.frz _)))
    · obtain ⟨j0, j1, j2, pool, found, hb, hp, hf, hpm, hfm, hg⟩ := hW
      rw [List.length_map, List.length_range] at hb hf hp
      refine bx_weak hg (bx_weak (Γ' := [.own (.box b j0 j1 j2), .any, .any, .any, .val (dL found), .any]) (by (first | exact GmW.refl _ | (repeat' (first | exact True.intro | refine ⟨?_, ?_⟩ | exact SlW.refl _ | exact SlW.any _ | exact SlW.frz _)))) ?_)
      exact bs_ret (nm 4) ⟨hP found hf hfm, j0, j1, j2, _, rfl, hb⟩
end
end GL
end
/-! ## B3 -/
section
namespace GL
open PySem PySem.Spec PyProof.Rows L2
/-! ### comprehensions that draw -/
section
variable {c : Cp} {Γ Γ' Γ1 Γ2 Γr : Gm} {e a b' t elt tg iter ix : Expr} {es ifs : List Expr} {d x y z : D} {pos p p2 p3 q apos cpos : Pos} {n n2 tn : Str} {scope : Scope} {vs ts : List Nat} {kk : Bool} {E : En} {st : Stmt} {sts orelse rest body : List Stmt} {b : Addr} {i0 i1 i2 : Int} {m k : Nat} {ps : List Str} {ds : List D}
/-- what is walked hangs on no heap -/
def IB (c : Cp) (tg e : Expr) (b : Addr) (m1 : Nat) (Γr : Gm) (i0 i1 i2 : Int) (PL : List D → Prop) : Prop := ∀ (H0 : Hp) (B0 B : Av) (σ : St) (H : Hp) (R : It → Hp → Prop), Sto H0 B0 B σ H (.own (.box b i0 i1 i2) :: Γr) →
  (∀ J H' ds j0 j1 j2, Bx m1 j0 j1 j2 → PL ds → Sto H0 B0 B σ H' (.own (.box b j0 j1 j2) :: Γr) → Tr B H B H' → Src J ds (fun _ _ => True) → R J H') → ∀ X, c.Is X → iOf X tg e σ H R
theorem src_range {n : Nat} : Src (Itr 0 ((n : Int).toNat)) ((List.range n).map dN) (fun _ _ => True) := by
  refine ⟨fun _ => True, YFn fun q => .int (0 + q), by rw [Int.toNat_natCast, List.length_map, List.length_range]; exact walk_range, fun _ _ _ => trivial, fun B2 H3 m x H4 d _ _ y hd => ?_⟩
  obtain ⟨rfl, rfl⟩ := y
  rw [List.getElem?_map] at hd
  obtain ⟨q', hq, rfl⟩ := Option.map_eq_some_iff.mp hd
  have : q' = m := by
    obtain ⟨h1, h2⟩ := List.getElem?_eq_some_iff.mp hq
    rw [List.getElem_range] at h2; exact h2.symm
  subst this
  refine ⟨Ext.refl _, ?_⟩
  show Rp B2 H4 (V.int (0 + (q' : Int))) (dN q')
  rw [Int.zero_add]
  exact .int _
theorem ib_rng {n0 : Nat} (hg : c.gl "range") (hm : c.mg "range" = none) (h : EP c e (.own (.box b i0 i1 i2) :: Γr) (dN n0)) (hx : Bx m i0 i1 i2) (h1 : n0 ≤ 100000) (he : ∀ env : Env, starEach [e] env = (false, eval e env) :: starEach [] env := by intro _; rfl) : IB c tg (.Call (.Name "range" p) [e] [] pos) b m Γr i0 i1 i2 (fun ds => ds = (List.range n0).map dN) := fun H0 B0 B σ H R S k X cx =>
  go_i (pi_range1 (cx.gl hg) (by rw [cx.mg]; exact hm) (pa_cons (pe_of X e) pa_nil (he X.env)) (he X.env)) (h H0 B0 B σ H _ S (fun v H1 e1 r => by
    cases r
    exact ⟨n0, rfl, by omega, by omega, k _ H1 _ i0 i1 i2 hx rfl (S.ext e1) e1.tr src_range⟩) X cx)
theorem ib_rngX {N m1 : Nat} (hg : c.gl "range") (hm : c.mg "range" = none) (h : EX c e (.own (.box b i0 i1 i2) :: Γr) (PB b m1 Γr fun d => ∃ n, n ≤ N ∧ d = dN n)) (h1 : N ≤ 100000) (he : ∀ env : Env, starEach [e] env = (false, eval e env) :: starEach [] env := by intro _; rfl) : IB c tg (.Call (.Name "range" p) [e] [] pos) b m1 Γr i0 i1 i2 (fun ds => ∃ n, n ≤ N ∧ ds = (List.range n).map dN) := fun H0 B0 B σ H R S k X cx =>
  go_i (pi_range1 (cx.gl hg) (by rw [cx.mg]; exact hm) (pa_cons (pe_of X e) pa_nil (he X.env)) (he X.env)) (h H0 B0 B σ H _ S (fun v H1 d Γ1 pp S1 t1 r => by
    obtain ⟨⟨n, hn, rfl⟩, j0, j1, j2, hx, rfl⟩ := pp
    cases r
    exact ⟨n, rfl, by omega, by omega, k _ H1 _ j0 j1 j2 hx ⟨n, hn, rfl⟩ S1 t1 src_range⟩) X cx)
def FX (c : Cp) (ifs : List Expr) (Γ : Gm) (P : Bool → Gm → Prop) : Prop := ∀ (H0 : Hp) (B0 B : Av) (σ : St) (H : Hp) (Q : Bool → Hp → Prop), Sto H0 B0 B σ H Γ → (∀ k H' Γ', P k Γ' → Sto H0 B0 B σ H' Γ' → Tr B H B H' → Q k H') → fAll c ifs σ H Q
theorem fx_nil {P : Bool → Gm → Prop} (h : P true Γ) : FX c [] Γ P := fun H0 B0 B σ H Q S k X cx => ⟨_, pts_nil, k true H Γ h S (Tr.refl _ _)⟩
theorem fx_one {P : Bool → Gm → Prop} (h : TX c t Γ P) : FX c [t] Γ P := fun H0 B0 B σ H Q S q X cx => ⟨_, pts_one (pt_of X t), h H0 B0 B σ H Q S q X cx⟩
/-- back from the comprehension's own names -/
theorem Sto.restore {H0 : Hp} {B0 B : Av} {σ σ2 : St} {H : Hp} {Γi : Gm} (S : Sto H0 B0 B σ2 H Γi) (hl : σ2.length = σ.length) (hg : Γ.length = Γi.length) (hk : ∀ k, k ∉ vs → σ2[k]? = σ[k]?) (hΓ : ∀ (i : Nat) s, s ≠ .any → Γ[i]? = some s → i ∉ vs ∧ Γi[i]? = some s) : Sto H0 B0 B σ H Γ where
  ex := S.ex
  sub := S.sub
  old := S.old
  inH := S.inH
  len := by rw [← hl, S.len, hg]
  val := fun i d h => by
    obtain ⟨h1, h2⟩ := hΓ i _ (by intro q; cases q) h
    obtain ⟨v, g1, g2⟩ := S.val i d h2
    exact ⟨v, by rw [← hk i h1]; exact g1, g2⟩
  own := fun i o h => by
    obtain ⟨h1, h2⟩ := hΓ i _ (by intro q; cases q) h
    obtain ⟨v, g1, g2⟩ := S.own i o h2
    exact ⟨v, by rw [← hk i h1]; exact g1, g2⟩
  sep := fun i j o u h h' e => by
    obtain ⟨h1, h2⟩ := hΓ i _ (by intro q; cases q) h
    obtain ⟨h3, h4⟩ := hΓ j _ (by intro q; cases q) h'
    exact S.sep i j o u h2 h4 (by rw [hk i h1, hk j h3]; exact e)
theorem Sto.redo {H0 : Hp} {B0 B : Av} {σ : St} {H : Hp} {D : Addr} {o o' : HO} (S : Sto (upd H0 D o) B0 B σ H Γ) (hD : B D) (hD0 : ¬ B0 D) (h0 : H0 D = none) : Sto (upd H0 D o') B0 B σ (upd H D o') Γ ∧ Tr B H B (upd H D o') := by
  have tr : Tr B H B (upd H D o') := ⟨fun a u h hn => by rw [upd_ne (fun (e : a = D) => hn (by rw [e]; exact hD))]; exact h, fun a h => .inl h⟩
  refine ⟨?_, tr⟩
  exact {
    ex := fun a u h => by
      by_cases e : a = D
      · subst e; rw [upd_same] at h ⊢; exact h
      · rw [upd_ne e] at h ⊢
        exact S.ex a u (by rw [upd_ne e]; exact h)
    sub := S.sub
    old := fun a h => by
      obtain ⟨u, hu⟩ := S.old a h
      by_cases e : a = D
      · exact absurd (e ▸ h) hD0
      · rw [upd_ne e] at hu; exact ⟨u, by rw [upd_ne e]; exact hu⟩
    inH := fun a h => by
      by_cases e : a = D
      · exact ⟨o', by rw [e]; exact upd_same⟩
      · obtain ⟨u, hu⟩ := S.inH a h; exact ⟨u, by rw [upd_ne e]; exact hu⟩
    len := S.len
    val := fun i d h => by obtain ⟨v, g1, g2⟩ := S.val i d h; exact ⟨v, g1, g2.tr tr⟩
    own := fun i u h => by
      obtain ⟨q, g1, g2, g3, g4⟩ := S.own i u h
      have hne : q ≠ D := fun e => by rw [e, upd_same] at g3; cases g3
      exact ⟨q, g1, g2, by rw [upd_ne hne] at g3 ⊢; exact g3, g4.to tr (upd_ne hne)⟩
    sep := S.sep }
theorem Sto.pin0 {H0 : Hp} {B0 B : Av} {σ : St} {H : Hp} {D : Addr} {o : HO} (S : Sto H0 B0 B σ H Γ) (hD : H D = none) : Sto (upd H0 D o) B0 (fun a => a = D ∨ B a) σ (upd H D o) Γ := by
  have h0 : H0 D = none := by
    cases q : H0 D with
    | none => rfl
    | some o => rw [S.ex D o q] at hD; cases hD
  have S1 := S.grow (Ext.new (o := o) hD) hD ⟨_, upd_same⟩
  exact {
    ex := fun a u h => by
      by_cases e : a = D
      · subst e; rw [upd_same] at h ⊢; exact h
      · rw [upd_ne e] at h; exact S1.ex a u h
    sub := S1.sub
    old := fun a h => by
      obtain ⟨u, hu⟩ := S1.old a h
      by_cases e : a = D
      · rw [e, h0] at hu; cases hu
      · exact ⟨u, by rw [upd_ne e]; exact hu⟩
    inH := S1.inH
    len := S1.len
    val := S1.val
    own := fun i u h => by
      obtain ⟨q, g1, g2, g3, g4⟩ := S.own i u h
      have hne : q ≠ D := fun e => by obtain ⟨w, hw⟩ := g4.some; rw [e, hD] at hw; cases hw
      obtain ⟨q', f1, f2, f3, f4⟩ := S1.own i u h
      have : q' = q := by rw [g1] at f1; cases f1; rfl
      subst this
      exact ⟨q', f1, f2, by rw [upd_ne hne]; exact f3, f4⟩
    sep := S1.sep }
theorem Sto.unpin {H0 : Hp} {B0 B : Av} {σ : St} {H : Hp} {D : Addr} {o : HO} (S : Sto (upd H0 D o) B0 (fun a => a = D ∨ B a) σ H Γ) (h0 : H0 D = none) (hB0 : ∀ a, B0 a → B a) (hD0 : ¬ B0 D) : Sto H0 B0 B σ H Γ where
  ex := fun a u h => S.ex a u (by rw [upd_ne (ne_of_none h h0)]; exact h)
  sub := hB0
  old := fun a h => by
    obtain ⟨u, hu⟩ := S.old a h
    rw [upd_ne (fun (e : a = D) => hD0 (by rw [← e]; exact h))] at hu; exact ⟨u, hu⟩
  inH := fun a h => S.inH a (.inr h)
  len := S.len
  val := fun i d h => by obtain ⟨v, g1, g2⟩ := S.val i d h; exact ⟨v, g1, g2.sub fun a h => .inr h⟩
  own := fun i u h => by
    obtain ⟨q, g1, g2, g3, g4⟩ := S.own i u h
    have hne : q ≠ D := fun e => by rw [e, upd_same] at g3; cases g3
    exact ⟨q, g1, g2.elim (fun e => (hne e).elim) id, by rw [upd_ne hne] at g3; exact g3, g4.to (Tr.sub fun a h => .inr h) rfl⟩
  sep := S.sep
theorem ex_lcx {own : List (Str × Nat)} {m1 kc N : Nat} {PL : List D → Prop} (Gi : D → Gm) (RS : List D → List D → Prop) (hsrc : IB c tg iter b m1 Γr i0 i1 i2 PL)
    (hts : ∀ i ∈ ts, i ∈ own.map (·.2)) (hw : ∀ j0 j1 j2, wipeG (.own (.box b j0 j1 j2) :: Γr) (own.map (·.2)) = .own (.box b j0 j1 j2) :: Γr)
    (hGl : ∀ d, (Gi d).length = Γr.length) (hGi : ∀ d i s, s ≠ .any → Γr[i]? = some s → i + 1 ∉ own.map (·.2) ∧ (Gi d)[i]? = some s) (h0v : 0 ∉ own.map (·.2))
    (hlen : ∀ ds, PL ds → ds.length ≤ N) (hN : N ≤ 1000) (hRl : ∀ ds rs, RS ds rs → rs.length ≤ ds.length) (h0 : RS [] [])
    (turn : ∀ ds pre d mm j0 j1 j2, PL ds → pre ++ [d] <+: ds → Bx mm j0 j1 j2 → mm + kc ≤ m1 + kc * N → GT (c.blk scope) tg ts (.own (.box b j0 j1 j2) :: Γr) d (.own (.box b j0 j1 j2) :: Gi d) ∧
      FX (c.blk scope) ifs (.own (.box b j0 j1 j2) :: Gi d) (fun k Γ' => ∃ k0 k1 k2, Γ' = .own (.box b k0 k1 k2) :: Gi d ∧ (k = false → Bx (mm + kc) k0 k1 k2 ∧ ∀ rs, RS pre rs → RS (pre ++ [d]) rs) ∧
        (k = true → EX (c.blk scope) elt Γ' (PB b (mm + kc) (Gi d) fun y => ∀ rs, RS pre rs → RS (pre ++ [d]) (rs ++ [y])))))
    (hok : blkC c.N c.sc scope own = true := by rfl) (hs : ∀ (env : Env) x, foldedSetIterable iter env x = pure x := by intro _ _; rfl) :
    EX c (.ListComp elt [⟨tg, iter, ifs, 0⟩] scope pos) (.own (.box b i0 i1 i2) :: Γr) (PB b (m1 + kc * N) Γr fun d => ∃ ds rs, PL ds ∧ RS ds rs ∧ d = .list rs) := fun H0 B0 B σ H Q S Q' X cx => by
  refine go_e (pe_lc (own := own) cx.calm (by rw [cx.N]; exact cx.nd) (pi_of X tg iter) (by rw [cx.N, cx.sc]; exact blkOk_by hok) (fun _ _ _ _ _ => pg_all cx.blk) (fun _ _ _ _ _ => pts_all cx.blk) (fun _ _ _ _ _ => pe_all cx.blk) (hs X.env)) ?_
  refine hsrc H0 B0 B σ H _ S (fun J H1 ds l0 l1 l2 hx1 hPL S1 t1 src => ?_) X cx
  intro D hD
  obtain ⟨G, Y, w, hG, hY⟩ := src.ex
  have hHD : H D = none := by
    cases q : H D with
    | none => rfl
    | some o =>
      by_cases hb : B D
      · obtain ⟨o', ho'⟩ := S1.inH D hb; rw [hD] at ho'; cases ho'
      · rw [t1.1 D o q hb] at hD; cases hD
  have hdl := hlen ds hPL
  have hB0D : ¬ B0 D := fun q => by obtain ⟨u, hu⟩ := S1.inH D (S1.sub D q); rw [hD] at hu; cases hu
  have hH0D : H0 D = none := by
    cases q : H0 D with
    | none => rfl
    | some o => rw [S1.ex D o q] at hD; cases hD
  refine ⟨fun i m' H2 => m' = ds.length - i ∧ i ≤ ds.length ∧ ∃ (j0 j1 j2 : Int) (acc : List V) (rs : List GL.D), Bx (m1 + kc * i) j0 j1 j2 ∧ Sto (upd H0 D (.lst acc)) B0 (fun a => a = D ∨ B a) σ H2 (.own (.box b j0 j1 j2) :: Γr) ∧ Tr B H (fun a => a = D ∨ B a) H2 ∧ RpA (fun a => a = D ∨ B a) H2 acc rs ∧ RS (ds.take i) rs, ⟨ds.length, ?_⟩, fun i m' H2 hW => ?_⟩
  · refine ⟨by omega, by omega, l0, l1, l2, [], [], by simpa using hx1, S1.pin0 hD, ?_, .nil, h0⟩
    refine ⟨fun a o h hn => Ext.new hD a o (t1.1 a o h hn), fun a q => q.elim (fun z => .inr (z ▸ hHD)) .inl⟩
  · obtain ⟨hm', hile, j0, j1, j2, acc, rs, hx, S2, t2, racc, hRS⟩ := hW
    have hacc : H2 D = some (.lst acc) := S2.ex D _ upd_same
    by_cases hi : i < ds.length
    · right
      have hGH := hG (fun a => a = D ∨ B a) H2 trivial
      have hdi : ds[i]? = some ds[i] := List.getElem?_eq_getElem hi
      have tk : ds.take (i + 1) = ds.take i ++ [ds[i]] := by rw [List.take_add_one, hdi]; rfl
      have hpre : ds.take i ++ [ds[i]] <+: ds := by rw [← tk]; exact List.take_prefix _ _
      have hkN : m1 + kc * i + kc ≤ m1 + kc * N := by
        have : kc * (i + 1) ≤ kc * N := Nat.mul_le_mul_left _ (by omega)
        rw [Nat.mul_succ] at this; omega
      have hmul : m1 + kc * (i + 1) = m1 + kc * i + kc := by rw [Nat.mul_succ]; omega
      have hrl := hRl _ _ hRS
      have hal := racc.length
      rw [List.length_take] at hrl
      refine ⟨w.goes i H2 hi hGH, fun H' => ∃ m'', m'' < m' ∧ (m'' = ds.length - (i + 1) ∧ i + 1 ≤ ds.length ∧ ∃ (j0 j1 j2 : Int) (acc : List V) (rs : List GL.D), Bx (m1 + kc * (i + 1)) j0 j1 j2 ∧ Sto (upd H0 D (.lst acc)) B0 (fun a => a = D ∨ B a) σ H' (.own (.box b j0 j1 j2) :: Γr) ∧ Tr B H (fun a => a = D ∨ B a) H' ∧ RpA (fun a => a = D ∨ B a) H' acc rs ∧ RS (ds.take (i + 1)) rs), fun H' h => h, fun xv H3 y => ?_⟩
      obtain ⟨e3, rx⟩ := hY (fun a => a = D ∨ B a) H2 i xv H3 ds[i] trivial S2.inH (w.yields i H2 xv H3 hi hGH y) hdi
      have S3 : Sto (upd H0 D (.lst acc)) B0 (fun a => a = D ∨ B a) (wipe σ (own.map (·.2))) H3 (.own (.box b j0 j1 j2) :: Γr) := by
        have z := (S2.ext e3).wipe (own.map (·.2))
        rw [hw] at z; exact z
      obtain ⟨gT, fX⟩ := turn ds (ds.take i) ds[i] (m1 + kc * i) j0 j1 j2 hPL hpre hx hkN
      intro Y' cy
      refine gT (upd H0 D (.lst acc)) B0 (fun a => a = D ∨ B a) (wipe σ (own.map (·.2))) H3 xv _ S3 rx ?_ Y' cy
      intro σ2 hl2 hk2 S4
      refine ⟨?_, ?_⟩
      · have z := wipe_same (vs := own.map (·.2)) hl2 fun k hk => hk2 k fun q => hk (hts k q)
        rw [z]
        refine wipe_same (wipe_length ..) fun k hk => wipe_out hk
      · have hσ2 : ∀ k, k ∉ own.map (·.2) → σ2[k]? = σ[k]? := fun k hk => by
          rw [hk2 k fun q => hk (hts k q)]; exact wipe_out hk
        have hl2' : σ2.length = σ.length := by rw [hl2]; exact wipe_length ..
        have back : ∀ {H4 : Hp} {k0 k1 k2 : Int}, Sto (upd H0 D (.lst acc)) B0 (fun a => a = D ∨ B a) σ2 H4 (.own (.box b k0 k1 k2) :: Gi ds[i]) → Sto (upd H0 D (.lst acc)) B0 (fun a => a = D ∨ B a) σ H4 (.own (.box b k0 k1 k2) :: Γr) := fun S5 => by
          refine S5.restore (vs := own.map (·.2)) hl2' (by simp [hGl]) hσ2 fun q s hs hq => ?_
          cases q with
          | zero => exact ⟨h0v, hq⟩
          | succ q =>
            rw [List.getElem?_cons_succ] at hq
            obtain ⟨g1, g2⟩ := hGi ds[i] q s hs hq
            exact ⟨g1, by rw [List.getElem?_cons_succ]; exact g2⟩
        refine fX _ B0 _ σ2 H3 _ S4 fun kb H4 Γ4 pp S5 t5 => ?_
        obtain ⟨k0, k1, k2, rfl, pf, pt⟩ := pp
        cases kb with
        | false =>
          obtain ⟨hx4, hr4⟩ := pf rfl
          refine iteF ⟨ds.length - (i + 1), by omega, rfl, by omega, k0, k1, k2, acc, rs, by rw [hmul]; exact hx4, back S5, (t2.trans e3.tr).trans t5, (racc.ext e3).tr t5, ?_⟩
          rw [tk]; exact hr4 rs hRS
        | true =>
          refine iteT (pt rfl _ B0 _ σ2 H4 _ S5 fun yv H5 yd Γ5 pp S6 t6 ry => ?_)
          obtain ⟨hr5, q0, q1, q2, hx5, rfl⟩ := pp
          have hacc5 : H5 D = some (.lst acc) := S6.ex D _ upd_same
          have racc5 := ((racc.ext e3).tr t5).tr t6
          refine ⟨acc, hacc5, by rw [sizeLine_eq]; omega, ds.length - (i + 1), by omega, rfl, by omega, q0, q1, q2, acc ++ [yv], rs ++ [yd], by rw [hmul]; exact hx5, ?_⟩
          obtain ⟨S7, t7⟩ := (back S6).redo (o' := .lst (acc ++ [yv])) (.inl rfl) hB0D hH0D
          exact ⟨S7, (((t2.trans e3.tr).trans t5).trans t6).trans t7, (racc5.tr t7).snoc (ry.tr t7), by rw [tk]; exact hr5 rs hRS⟩
    · left
      have e : i = ds.length := by omega
      subst e
      rw [List.take_length] at hRS
      refine ⟨w.stops H2 (hG (fun a => a = D ∨ B a) H2 trivial), ?_⟩
      have hrl := hRl _ _ hRS
      have hmono : m1 + kc * ds.length ≤ m1 + kc * N := by have := Nat.mul_le_mul_left kc hdl; omega
      have hnB : ¬ B D := fun q => by obtain ⟨u, hu⟩ := S1.inH D q; rw [hD] at hu; cases hu
      refine Q' _ _ (.list rs) _ ⟨⟨ds, rs, hPL, hRS, rfl⟩, j0, j1, j2, hx.mono hmono, rfl⟩ (S2.unpin hH0D S1.sub hB0D) ⟨fun a o h hn => t2.1 a o h hn, fun a h => .inl h⟩ (.lst hnB hacc (racc.sub fun a h => .inr h))
end
end GL
end
/-! ## B4 -/
section
namespace GL
open PySem PySem.Spec PyProof.Rows L2
section
variable {c : Cp} {Γ Γ' Γ1 Γ2 Γr : Gm} {e a b' t elt tg iter ix : Expr} {es ifs : List Expr} {d x y z : D} {pos p p2 p3 q apos cpos : Pos} {n n2 tn : Str} {scope : Scope} {vs ts : List Nat} {kk : Bool} {E : En} {st : Stmt} {sts orelse rest body : List Stmt} {b : Addr} {i0 i1 i2 : Int} {m k : Nat} {ps : List Str} {ds : List D}
/-- tuple(stateful list) -/
theorem ex_tupleOf {P1 P2 : D → Gm → Prop} (hg : c.gl "tuple") (hm : c.mg "tuple" = none) (ha : EX c a Γ P1) (h : ∀ d Γ', P1 d Γ' → ∃ ds, d = .list ds ∧ P2 (.tup true ds) Γ') (he : ∀ env : Env, starEach [a] env = (false, eval a env) :: starEach [] env := by intro _; rfl) : EX c (.Call (.Name "tuple" p) [a] [] pos) Γ P2 := fun H0 B0 B σ H Q S k X cx =>
  go_e (pe_callTy (call_tupleF (X := X)) (cx.gl hg) (by rw [cx.mg]; exact hm) (by decide +kernel) (pa_cons (pe_of X a) pa_nil (he X.env)) (by decide) (by decide) (he X.env) rfl) (ha H0 B0 B σ H _ S (fun v H1 d Γ1 pp S1 t1 r1 => by
    obtain ⟨ds, rfl, hp⟩ := h d Γ1 pp
    exact rcd_tuple (K := X.K) B H1 v Q S1.inH r1.w fun u H2 e2 q => k u H2 _ Γ1 hp (S1.ext e2) (t1.trans e2.tr) q) X cx)
/-- own[stateful] -/
theorem ex_ixO (s : Nat) {P1 P2 : D → Gm → Prop} (hb : EX c b' Γ P1) (hr : ∀ d Γ', P1 d Γ' → ∃ (i : Nat) (z : D) (ds' : List D), Γ'[s]? = some (.own (.lst ds')) ∧ d = dN i ∧ ds'[i]? = some z ∧ P2 z Γ') {ds0 : List D} (hg : Γ[s]? = some (.own (.lst ds0)) := by rfl) (hN : c.N[s]? = some n := by rfl) (hv : Vis c.sc n := by first | exact .inl rfl | exact .inr (.inl rfl) | exact .inr (.inr rfl)) (hs : PlainIx b' := by exact fun _ _ => rfl) (hd : (n == ("__debug__" : Str)) = false := by decide) (hcd : (n == ("__classdict__" : Str)) = false := by decide) : EX c (.Subscript (.Name n p) b' pos) Γ P2 := fun H0 B0 B σ H Q S k X cx => by
  obtain ⟨q, f1, f2, f3, f4⟩ := S.own s _ hg
  refine go_e (pe_ix ix_list (pe_var (by rw [cx.N]; exact hN) (by rw [cx.sc]; exact hv) hd hcd) (pe_of X b') hs) ⟨_, f1, hb H0 B0 B σ H _ S (fun w H2 d Γ' pp S2 t2 r2 => ?_) X cx⟩
  obtain ⟨i, z, ds', hg', rfl, hz, hp⟩ := hr d Γ' pp
  obtain ⟨q', g1, g2, g3, xs, g4, g5⟩ := S2.own s _ hg'
  have e : q' = q := by rw [f1] at g1; cases g1; rfl
  subst e
  exact rvd_ix rfl hz B H2 (.ref q') w Q S2.inH (.lst g4 g5) r2.w fun u H3 e3 q => k u H3 z Γ' hp (S2.ext e3) (t2.trans e3.tr) q
/-- a, b = stateful, pure -/
theorem bs_parX (i j : Nat) {n1 : Str} {p1 pt : Pos} {kt k2 : Nat} {pt2 : Pos} {P1 : D → Gm → Prop} (ha : EX c a Γ P1) (hb : ∀ d Γ1, P1 d Γ1 → ∃ s2, ESp c b' Γ1 s2 ∧ BX c rest ((Γ1.set i (.val d)).set j s2) E) (hN : c.N[i]? = some n1 := by rfl) (hN2 : c.N[j]? = some n2 := by rfl) (hx : Loc c.sc n1 := by first | exact .inl rfl | exact .inr rfl) (hf : c.fn n1 = true ∨ c.sc.names.lookup n1 = some .local := by first | exact .inl rfl | exact .inr rfl) (hx2 : Loc c.sc n2 := by first | exact .inl rfl | exact .inr rfl) (hf2 : c.fn n2 = true ∨ c.sc.names.lookup n2 = some .local := by first | exact .inl rfl | exact .inr rfl)
    (hw : swappedStores [.Tuple [.Name n1 p1, .Name n2 p2] kt pt] (.Tuple [a, b'] k2 pt2) { scope := c.sc, locals := 0, globals := 0, cells := [] } = pure none := by rfl) (hs : ∀ env : Env, swapsWithSole [.Tuple [.Name n1 p1, .Name n2 p2] kt pt] (.Tuple [a, b'] k2 pt2) pos.line env = pure false := by intro _; rfl)
    (he : ∀ env : Env, starEach [a, b'] env = (false, eval a env) :: starEach [b'] env := by intro _; rfl) (he2 : ∀ env : Env, starEach [b'] env = (false, eval b' env) :: starEach [] env := by intro _; rfl) (h1 : ∀ env : Env, (assignEach [.Tuple [.Name n1 p1, .Name n2 p2] kt pt] env).map (·.2) = [assign (.Tuple [.Name n1 p1, .Name n2 p2] kt pt) env] := by intro _; rfl) :
    BX c (.Assign [.Tuple [.Name n1 p1, .Name n2 p2] kt pt] (.Tuple [a, b'] k2 pt2) pos :: rest) Γ E :=
  bx_cons (sx_parC hN hN2 hx hf hx2 hf2 ha.s (fun s Γ1 q => by obtain ⟨d, rfl, hp⟩ := q; exact hb d Γ1 hp) (sws_of hw) hs he he2 h1)
/-- list(range(n)) -/
theorem eo_listRg {n0 : Nat} (hgl : c.gl "list") (hml : c.mg "list" = none) (hg : c.gl "range") (hm : c.mg "range" = none) (ha : EP c a Γ (dN n0)) (h1 : n0 ≤ 100000) (he : ∀ env : Env, starEach [a] env = (false, eval a env) :: starEach [] env := by intro _; rfl) : EO c (.Call (.Name "list" p) [.Call (.Name "range" p2) [a] [] p3] [] pos) Γ (.lst ((List.range n0).map dN)) := fun H0 B0 B σ H Q S k X cx =>
  go_e (pe_listRg cx.calm (cx.gl hgl) (by rw [cx.mg]; exact hml) (prg_1 (cx.gl hg) (by rw [cx.mg]; exact hm) (pe_of X a) (he X.env)) rfl) (ha H0 B0 B σ H _ S (fun v H1 e1 r => by
    cases r
    refine ⟨n0, rfl, RgOk.of_le (by omega) (by omega) (by omega) (by omega), fun q hq => k q _ (e1.back hq) (e1.trans (Ext.new hq)) ⟨_, upd_same, ?_⟩⟩
    have e : rgV 0 (n0 : Int) = ((List.range n0).map fun (n : Nat) => (n : Int)).map V.int := by
      unfold rgV
      rw [List.map_map, Int.sub_zero, Int.toNat_natCast]
      exact List.map_congr_left fun x _ => by simp
    rw [e, map_dN]
    exact RpA.of_int _) X cx)
end
section
variable {P : Program} {w : World} {K : PySem.W.Frag} {mg : Str → Option Value} {base : Heap}
/-! ### _law_machine -/
theorem lotFn_ok : ∀ many : Nat, 1 ≤ many → many ≤ 5 → ∀ st < many, lotFn many st ≠ [] ∧ (lotFn many st).length ≤ 2 ∧ ∀ x ∈ lotFn many st, x < many := by
  intro many h1 h2
  have : many = 1 ∨ many = 2 ∨ many = 3 ∨ many = 4 ∨ many = 5 := by omega
  rcases this with rfl | rfl | rfl | rfl | rfl <;> decide +kernel
/-- lists of numbers below n, one for each walked -/
def RSn (n : Nat) (ds rs : List D) : Prop := ∃ l : List Nat, rs = l.map dN ∧ l.length = ds.length ∧ ∀ x ∈ l, x < n
theorem RSn.snoc {n : Nat} {pre : List D} {d : D} {x : Nat} (hx : x < n) (rs : List D) (h : RSn n pre rs) : RSn n (pre ++ [d]) (rs ++ [dN x]) := by
  obtain ⟨l, rfl, h1, h2⟩ := h
  refine ⟨l ++ [x], by rw [List.map_append]; rfl, by simp [h1], fun y hy => ?_⟩
  rcases List.mem_append.mp hy with hy | hy
  · exact h2 y hy
  · rw [List.mem_singleton.mp hy]; exact hx
theorem mem_pre {α : Type} {pre ds : List α} {d : α} (h : pre ++ [d] <+: ds) : d ∈ ds := by
  obtain ⟨t, rfl⟩ := h
  simp
def colsD (cols : List (List Nat)) : List D := cols.map dL
def R_machine (ds : List D) (Pd : D → Prop) (k : Nat) : Prop := ∃ letters : Nat, 1 ≤ letters ∧ letters ≤ 3 ∧ ds = [dN 5, dN letters] ∧ k = 100 ∧ ∀ s e, Tb s letters → e.length ≤ 5 → (∀ x ∈ e, x < s.length) → Pd (.tup true [dTT s, dT e])
theorem p_machine (T : Tx K mg) : Pm P w K mg base 3 "_law_machine" ["_law_tin", "_law_most_so", "_law_letters_so"] (spB R_machine) := by
  refine T.d_l_machine.pmB sc_l_machine (fun ds Pd k h => ?_) (by decide) fun ds Pd k h b i0 i1 i2 m hx hm => ?_
  · obtain ⟨_, _, _, rfl, _⟩ := h; rfl
  · obtain ⟨letters, h1, h3, rfl, rfl, hP⟩ := h
    -- many
    refine bs_setX 3 (P := PB b (m + 1) [.val (dN 5), .val (dN letters), .any, .any, .any, .any, .any, .any, .any] fun d => ∃ n, 1 ≤ n ∧ n ≤ 5 ∧ d = dN n) (ex_bin (fun _ _ => op_add) ep_int (ex_callB (Pd := fun d => ∃ i, i < 5 ∧ d = dN i) ((p_take T).fd (by decide)) rfl (ap_cons (nm 1) ap_nil) ⟨5, by decide, by decide, rfl, rfl, fun i hi => ⟨i, hi, rfl⟩⟩ hx (by omega)) (fun d Γ' hp => ?_)) (fun d Γ' hp => ?_)
    · obtain ⟨⟨i, hi, rfl⟩, j0, j1, j2, hx', rfl⟩ := hp
      exact ⟨dN (1 + i), by have z := @rvd_i0 (fun i j => i + j) 1 ((i : Nat) : Int); show RvD _ _ _ (.int _); rw [Int.natCast_add]; exact z, ⟨1 + i, by omega, by omega, rfl⟩, j0, j1, j2, hx', rfl⟩
    obtain ⟨⟨many, hm1, hm5, rfl⟩, j0, j1, j2, hx1, rfl⟩ := hp
    clear hx
    -- kind, columns
    refine bs_parX 4 5 (ex_callB (Pd := fun d => ∃ i, i < 4 ∧ d = dN i) ((p_take T).fd (by decide)) rfl (ap_cons (ep_int (i := 4)) ap_nil) ⟨4, by decide, by decide, rfl, rfl, fun i hi => ⟨i, hi, rfl⟩⟩ hx1 (by omega)) (fun d Γ1 hp => ?_)
    obtain ⟨⟨kd, hkd, rfl⟩, j0, j1, j2, hx2, rfl⟩ := hp
    clear hx1
    refine ⟨.own (.lst []), EO.sp (eo_lst (ds := []) ap_nil sz0), ?_⟩
    -- the columns
    refine bx_cons (sx_for (is_rng (n := letters) rfl T.b_range (nm 2) (by omega)) (fun i Γ' => ∃ (j0 j1 j2 : Int) (cols : List (List Nat)), Bx (m + 2 + 10 * i) j0 j1 j2 ∧ cols.length = i ∧ (∀ l ∈ cols, l.length = many ∧ ∀ x ∈ l, x < many) ∧ GmW Γ' [.own (.box b j0 j1 j2), .any, .val (dN letters), .val (dN many), .val (dN kd), .own (.lst (colsD cols)), .any, .any, .any, .any]) ⟨j0, j1, j2, [], hx2, rfl, by simp, by (first | exact GmW.refl _ | (repeat' (first | exact True.intro | refine ⟨?_, ?_⟩ | exact SlW.refl _ | exact SlW.any _ | exact SlW.frz _)))⟩ (fun i d Γ' hd hW => ?_) fun Γ' hW => ?_)
    · rw [List.getElem?_map] at hd
      obtain ⟨q, hq, rfl⟩ := Option.map_eq_some_iff.mp hd
      obtain ⟨hi, eq⟩ := List.getElem?_eq_some_iff.mp hq
      rw [List.getElem_range] at eq
      subst eq
      rw [List.length_range] at hi
      obtain ⟨j0, j1, j2, cols, hb, hcl, hcs, hg⟩ := hW
      refine ⟨_, _, _, hg, gn 6, ?_⟩
      have fin : ∀ (j0 j1 j2 : Int) (l : List Nat) Γ', Bx (m + 2 + 10 * (i + 1)) j0 j1 j2 → l.length = many → (∀ x ∈ l, x < many) → GmW Γ' [.own (.box b j0 j1 j2), .any, .val (dN letters), .val (dN many), .val (dN kd), .own (.lst (colsD cols ++ [dL l])), .val (dN i), .any, .any, .any] → ∃ (j0 j1 j2 : Int) (cols : List (List Nat)), Bx (m + 2 + 10 * (i + 1)) j0 j1 j2 ∧ cols.length = i + 1 ∧ (∀ l ∈ cols, l.length = many ∧ ∀ x ∈ l, x < many) ∧ GmW Γ' [.own (.box b j0 j1 j2), .any, .val (dN letters), .val (dN many), .val (dN kd), .own (.lst (colsD cols)), .any, .any, .any, .any] := fun j0 j1 j2 l Γ' hb hl hlm g => by
        refine ⟨j0, j1, j2, cols ++ [l], hb, by simp [hcl], fun l' hl' => ?_, GmW.trans g ?_⟩
        · rcases List.mem_append.mp hl' with h | h
          · exact hcs l' h
          · rw [List.mem_singleton.mp h]; exact ⟨hl, hlm⟩
        · unfold colsD; rw [List.map_append]; (first | exact GmW.refl _ | (repeat' (first | exact True.intro | refine ⟨?_, ?_⟩ | exact SlW.refl _ | exact SlW.any _ | exact SlW.frz _)))
      have cl : (colsD cols).length ≤ 100000 := by unfold colsD; simp; omega
      have h10 : m + 2 + 10 * (i + 1) = m + 2 + 10 * i + 10 := by omega
      refine bx_cons (sx_ifX (P := fun k Γ' => (k = true → 0 < i) ∧ ∃ j0 j1 j2, Bx (m + 2 + 10 * i + 1) j0 j1 j2 ∧ Γ' = [.own (.box b j0 j1 j2), .any, .val (dN letters), .val (dN many), .val (dN kd), .own (.lst (colsD cols)), .val (dN i), .any, .any, .any]) (WX.toT (wx_and (TP.toX (tp_gt (nw 4) (EP.w ep_int))) (fun Γ1 hp => ?_) (fun Γ1 hp => ?_))) (fun Γ1 hp => ?_) (fun Γ1 hp => ?_))
      · obtain ⟨_, rfl⟩ := hp
        refine wx_and (TP.toX (tp_gt (nw 6) (EP.w ep_int))) (fun Γ1 hp => ?_) (fun Γ1 hp => ?_)
        · obtain ⟨hpos, rfl⟩ := hp
          have hpos' := of_decide_eq_true hpos.symm
          refine wx_and1 (tx_cmpL (fun _ _ => op_eq) (ex_callB (Pd := fun d => ∃ i, i < 4 ∧ d = dN i) ((p_take T).fd (by decide)) rfl (ap_cons (ep_int (i := 4)) ap_nil) ⟨4, by decide, by decide, rfl, rfl, fun i hi => ⟨i, hi, rfl⟩⟩ hb (by omega)) (fun d Γ' hp => ?_))
          obtain ⟨⟨v, hv, rfl⟩, k0, k1, k2, hx', rfl⟩ := hp
          exact ⟨.int 0, _, ep_int, rvd_eqI, fun _ => by omega, k0, k1, k2, hx', rfl⟩
        · obtain ⟨_, rfl⟩ := hp
          exact ⟨fun h => (by cases h), _, _, _, hb.mono (by omega), rfl⟩
      · obtain ⟨_, rfl⟩ := hp
        exact ⟨fun h => (by cases h), _, _, _, hb.mono (by omega), rfl⟩
      · obtain ⟨hpos, k0, k1, k2, hb1, rfl⟩ := hp
        have hpos' := hpos rfl
        refine bx_cons (sx_append (ds := []) (s := 5) rfl (.inr (.inl rfl)) ⟨_, rfl⟩ (ex_ixO 5 (P2 := PB b (m + 2 + 10 * i + 2) [.any, .val (dN letters), .val (dN many), .val (dN kd), .own (.lst (colsD cols)), .val (dN i), .any, .any, .any] fun d => ∃ l ∈ cols, d = dL l) (ex_callB (Pd := fun d => ∃ q, q < i ∧ d = dN q) ((p_take T).fd (by decide)) rfl (ap_cons (nm 6) ap_nil) ⟨i, hpos', by omega, rfl, rfl, fun i hi => ⟨i, hi, rfl⟩⟩ hb1 (by omega)) (fun d Γ' hp => ?_)) (fun d Γ' hp => ?_))
        · obtain ⟨⟨q, hq, rfl⟩, q0, q1, q2, hx', rfl⟩ := hp
          have hqc : q < cols.length := by omega
          exact ⟨q, dL cols[q], colsD cols, rfl, rfl, by unfold colsD; rw [List.getElem?_map, List.getElem?_eq_getElem hqc]; rfl, ⟨cols[q], List.getElem_mem hqc, rfl⟩, q0, q1, q2, hx', rfl⟩
        · obtain ⟨⟨l, hl, rfl⟩, q0, q1, q2, hx', rfl⟩ := hp
          exact ⟨colsD cols, rfl, cl, bx_nil (bx_nil (fin q0 q1 q2 l _ (hx'.mono (by omega)) (hcs l hl).1 (hcs l hl).2 (by (first | exact GmW.refl _ | (repeat' (first | exact True.intro | refine ⟨?_, ?_⟩ | exact SlW.refl _ | exact SlW.any _ | exact SlW.frz _))))))⟩
      · obtain ⟨_, k0, k1, k2, hb1, rfl⟩ := hp
        refine bx_cons (sx_if (tp_eqN (y := 1) (nw 4) (EP.w ep_int)) (fun _ => ?_) (fun _ => ?_))
        · refine bx_cons (sx_append (ds := []) (s := 5) rfl (.inr (.inl rfl)) ⟨_, rfl⟩ (ex_callB (Pd := fun d => ∃ l : List Nat, l.length = many ∧ (∀ x ∈ l, x < many) ∧ d = dL l) ((p_pick T).fd (by decide)) rfl (ap_cons (EO.ep (eo_listRg rfl T.b_list rfl T.b_range (nm 3) (by omega))) (ap_cons (nm 3) ap_nil)) ⟨many, hm1, hm5, rfl, rfl, fun l h1 h2 => ⟨l, h1, h2, rfl⟩⟩ hb1 (by omega)) (fun d Γ' hp => ?_))
          obtain ⟨⟨l, hl, hlm, rfl⟩, q0, q1, q2, hx', rfl⟩ := hp
          exact ⟨colsD cols, rfl, cl, bx_nil (bx_nil (bx_nil (fin q0 q1 q2 l _ (hx'.mono (by omega)) hl hlm (by (first | exact GmW.refl _ | (repeat' (first | exact True.intro | refine ⟨?_, ?_⟩ | exact SlW.refl _ | exact SlW.any _ | exact SlW.frz _)))))))⟩
        · refine bx_cons (sx_if (tp_eqN (y := 2) (nw 4) (EP.w ep_int)) (fun _ => ?_) (fun _ => ?_))
          · refine bx_cons (sx_append (ds := []) (s := 5) (P := PB b (m + 2 + 10 * i + 1 + 1 * 5) [.any, .val (dN letters), .val (dN many), .val (dN kd), .own (.lst (colsD cols)), .val (dN i), .any, .any, .any] fun d => ∃ ds rs, ds = (List.range many).map dN ∧ RSn many ds rs ∧ d = .list rs) rfl (.inr (.inl rfl)) ⟨_, rfl⟩ (ex_lcx (own := [("_law_own", 8)]) (ts := [8]) (PL := fun ds => ds = (List.range many).map dN) (fun d => [.any, .val (dN letters), .val (dN many), .val (dN kd), .own (.lst (colsD cols)), .val (dN i), .any, .val d, .any]) (RSn many) (ib_rng rfl T.b_range (nm 3) hb1 (by omega)) (by decide) (fun _ _ _ => rfl) (fun _ => rfl) ?_ (by decide) (fun ds h => by subst h; simp; omega) (by decide) (fun ds rs h => by obtain ⟨l, rfl, h, _⟩ := h; simp [h]) ⟨[], rfl, rfl, by simp⟩ (kc := 1) (N := 5) (fun ds pre d mm j0 j1 j2 hPL hpre hx hmm => ?_)) (fun d Γ' hp => ?_))
            · intro d q s hs h
              rcases q with _ | _ | _ | _ | _ | _ | _ | _ | _ | q
              all_goals first | exact ⟨by decide, h⟩ | (cases h; exact (hs rfl).elim) | cases h
            · subst hPL
              obtain ⟨st, hst, rfl⟩ := List.mem_map.mp (mem_pre hpre)
              have hst' := List.mem_range.mp hst
              obtain ⟨g1, g2, g3⟩ := lotFn_ok many hm1 hm5 st hst'
              refine ⟨gn 8, fx_nil ⟨j0, j1, j2, rfl, fun h => (by cases h), fun _ => ?_⟩⟩
              refine ex_callB (((p_of T).fd (by decide)).blk _) rfl (ap_cons (ep_call (d := dL (lotFn many st)) (((p_lot T).fd (by decide)).blk _) rfl (ap_cons (nm 3) (ap_cons (nm 8) ap_nil)) ⟨many, st, hm1, hm5, hst', rfl, rfl⟩) ap_nil) ⟨_, ?_, ?_, rfl, rfl, fun g hg rs hrs => ?_⟩ hx (by omega)
              · intro e; exact g1 (by simpa using e)
              · rw [List.length_map]; omega
              · obtain ⟨x, hx, rfl⟩ := List.mem_map.mp hg
                exact RSn.snoc (g3 x hx) rs hrs
            · obtain ⟨⟨_, rs, rfl, ⟨l, rfl, hl, hlm⟩, rfl⟩, q0, q1, q2, hx', rfl⟩ := hp
              exact ⟨colsD cols, rfl, cl, bx_nil (bx_nil (bx_nil (bx_nil (fin q0 q1 q2 l _ (hx'.mono (by omega)) (by simpa using hl) hlm (by (first | exact GmW.refl _ | (repeat' (first | exact True.intro | refine ⟨?_, ?_⟩ | exact SlW.refl _ | exact SlW.any _ | exact SlW.frz _))))))))⟩
          · refine bx_cons (sx_append (ds := []) (s := 5) (P := PB b (m + 2 + 10 * i + 1 + 1 * 5) [.any, .val (dN letters), .val (dN many), .val (dN kd), .own (.lst (colsD cols)), .val (dN i), .any, .any, .any] fun d => ∃ ds rs, ds = (List.range many).map dN ∧ RSn many ds rs ∧ d = .list rs) rfl (.inr (.inl rfl)) ⟨_, rfl⟩ (ex_lcx (own := [("_law_own", 8)]) (ts := [8]) (PL := fun ds => ds = (List.range many).map dN) (fun d => [.any, .val (dN letters), .val (dN many), .val (dN kd), .own (.lst (colsD cols)), .val (dN i), .any, .val d, .any]) (RSn many) (ib_rng rfl T.b_range (nm 3) hb1 (by omega)) (by decide) (fun _ _ _ => rfl) (fun _ => rfl) ?_ (by decide) (fun ds h => by subst h; simp; omega) (by decide) (fun ds rs h => by obtain ⟨l, rfl, h, _⟩ := h; simp [h]) ⟨[], rfl, rfl, by simp⟩ (kc := 1) (N := 5) (fun ds pre d mm j0 j1 j2 hPL hpre hx hmm => ?_)) (fun d Γ' hp => ?_))
            · intro d q s hs h
              rcases q with _ | _ | _ | _ | _ | _ | _ | _ | _ | q
              all_goals first | exact ⟨by decide, h⟩ | (cases h; exact (hs rfl).elim) | cases h
            · refine ⟨gn 8, fx_nil ⟨j0, j1, j2, rfl, fun h => (by cases h), fun _ => ?_⟩⟩
              exact ex_callB (((p_take T).fd (by decide)).blk _) rfl (ap_cons (nm 3) ap_nil) ⟨many, hm1, by omega, rfl, rfl, fun v hv rs hrs => RSn.snoc hv rs hrs⟩ hx (by omega)
            · obtain ⟨⟨_, rs, rfl, ⟨l, rfl, hl, hlm⟩, rfl⟩, q0, q1, q2, hx', rfl⟩ := hp
              exact ⟨colsD cols, rfl, cl, bx_nil (bx_nil (bx_nil (bx_nil (fin q0 q1 q2 l _ (hx'.mono (by omega)) (by simpa using hl) hlm (by (first | exact GmW.refl _ | (repeat' (first | exact True.intro | refine ⟨?_, ?_⟩ | exact SlW.refl _ | exact SlW.any _ | exact SlW.frz _))))))))⟩
    · obtain ⟨j0, j1, j2, cols, hb, hcl, hcs, hg⟩ := hW
      rw [List.length_map, List.length_range] at hb hcl
      refine bx_weak hg ?_
      refine bs_setX 7 (P := PB b (m + 2 + 10 * letters + 5) [.any, .val (dN letters), .val (dN many), .val (dN kd), .own (.lst (colsD cols)), .any, .any, .any, .any] fun d => ∃ l : List Nat, l.length ≤ 5 ∧ (∀ x ∈ l, x < many) ∧ d = dT l) (ex_tupleOf rfl T.b_tuple (ex_lcx (own := [("_law_own", 8)]) (ts := [8]) (kc := 1) (N := 5) (m1 := m + 2 + 10 * letters) (PL := fun ds => ds = (List.range many).map dN) (fun d => [.any, .val (dN letters), .val (dN many), .val (dN kd), .own (.lst (colsD cols)), .any, .any, .val d, .any]) (fun ds rs => ∃ l : List Nat, rs = l.map dN ∧ l.length ≤ ds.length ∧ ∀ x ∈ l, x < many) (ib_rng rfl T.b_range (nm 3) hb (by omega)) (by decide) (fun _ _ _ => rfl) (fun _ => rfl) ?_ (by decide) (fun ds h => by subst h; simp; omega) (by decide) (fun ds rs h => by obtain ⟨l, rfl, h, _⟩ := h; simpa using h) ⟨[], rfl, by simp, by simp⟩ (fun ds pre d mm j0 j1 j2 hPL hpre hx hmm => ?_)) (fun d Γ' hp => ?_)) (fun d Γ' hp => ?_)
      · intro d q s hs h
        rcases q with _ | _ | _ | _ | _ | _ | _ | _ | _ | q
        all_goals first | exact ⟨by decide, h⟩ | (cases h; exact (hs rfl).elim) | cases h
      · subst hPL
        obtain ⟨st, hst, rfl⟩ := List.mem_map.mp (mem_pre hpre)
        have hst' := List.mem_range.mp hst
        refine ⟨gn 8, fx_one (tx_cmpL (fun _ _ => op_eq) (ex_callB (Pd := fun d => ∃ i, i < 2 ∧ d = dN i) (((p_take T).fd (by decide)).blk _) rfl (ap_cons (ep_int (i := 2)) ap_nil) ⟨2, by decide, by decide, rfl, rfl, fun i hi => ⟨i, hi, rfl⟩⟩ hx (by omega)) (fun d' Γ' hp => ?_))⟩
        obtain ⟨⟨v, hv, rfl⟩, q0, q1, q2, hx', rfl⟩ := hp
        refine ⟨.int 0, decide ((v : Int) = 0), ep_int, rvd_eqI, q0, q1, q2, rfl, fun _ => ⟨hx', fun rs ⟨l, h1, h2, h3⟩ => ⟨l, h1, by simp; omega, h3⟩⟩, fun _ => ?_⟩
        refine EX.mono (nm 8).toX fun y Γ' hy => ?_
        obtain ⟨rfl, rfl⟩ := hy
        refine ⟨fun rs ⟨l, h1, h2, h3⟩ => ⟨l ++ [st], by rw [h1, List.map_append]; rfl, by simp; omega, fun x hx => ?_⟩, q0, q1, q2, hx', rfl⟩
        rcases List.mem_append.mp hx with hx | hx
        · exact h3 x hx
        · rw [List.mem_singleton.mp hx]; exact hst'
      · obtain ⟨⟨_, rs, rfl, ⟨l, rfl, hl, hlm⟩, rfl⟩, q0, q1, q2, hx', rfl⟩ := hp
        exact ⟨l.map dN, rfl, ⟨l, by simp at hl; omega, hlm, rfl⟩, q0, q1, q2, hx', rfl⟩
      · obtain ⟨⟨e, he1, he2, rfl⟩, q0, q1, q2, hx', rfl⟩ := hp
        have hT : Tb ((List.range many).map fun st => cols.map fun l => l.getD st 0) letters := by
          refine ⟨by simp; omega, by simp; omega, h1, h3, fun r hr => ?_, fun r hr x hx => ?_⟩
          · obtain ⟨st, _, rfl⟩ := List.mem_map.mp hr
            rw [List.length_map, hcl]
          · obtain ⟨st, hst, rfl⟩ := List.mem_map.mp hr
            obtain ⟨l, hl, rfl⟩ := List.mem_map.mp hx
            have hst' := List.mem_range.mp hst
            obtain ⟨c1, c2⟩ := hcs l hl
            rw [List.length_map, List.length_range, List.getD_eq_getElem?_getD, List.getElem?_eq_getElem (by omega)]
            exact c2 _ (List.getElem_mem _)
        refine bs_ret (ep_tup (ap_cons (EP.is (ep_tupleOf rfl T.b_tuple (EP.w (EO.ep (eo_map [("_law_state_so", 9), ("_law_own", 8)] (List.range many) dN (fun st => dT (cols.map fun l => l.getD st 0)) (IS.w (is_rng rfl T.b_range (nm 3) (by omega))) (fun st hst => ⟨_, gn 9, EP.is (ep_tupleOf rfl T.b_tuple (EP.w (EO.ep (eo_map [("_law_own", 8)] cols dL (fun l => dN (l.getD st 0)) (iw_list (ow 5)) (fun l hl => ⟨_, gn 8, ep_ixL (nw 8) (nw 9) rfl (get_dN (by rw [(hcs l hl).1]; exact List.mem_range.mp hst))⟩) (by omega))))) ?_⟩) (by simp; omega))))) ?_) (ap_cons (nm 7) ap_nil)) sz2) ⟨hP _ e hT he1 (fun x hx => by rw [List.length_map, List.length_range]; exact he2 x hx), q0, q1, q2, _, rfl, hx'.mono (by omega)⟩
        · rw [dT, List.map_map]; rfl
        · rw [dTT, List.map_map]; rfl
end
end GL
end
/-! ## B5 -/
section
namespace GL
open PySem PySem.Spec PyProof.Rows L2
section
variable {c : Cp} {Γ Γ' Γ1 Γ2 Γr : Gm} {e a b' t elt tg iter ix : Expr} {es ifs : List Expr} {d x y z : D} {pos p p2 p3 q apos cpos : Pos} {n n2 tn : Str} {scope : Scope} {vs ts : List Nat} {kk : Bool} {E : En} {st : Stmt} {sts orelse rest body : List Stmt} {b : Addr} {i0 i1 i2 : Int} {m k : Nat} {ps : List Str} {ds : List D}
/-- a, b = stateful, stateful, the names cells -/
theorem bs_parXX (i j : Nat) {n1 : Str} {p1 pt : Pos} {kt k2 : Nat} {pt2 : Pos} {P1 : D → Gm → Prop} {P2 : D → D → Gm → Prop} (ha : EX c a Γ P1) (hb : ∀ d Γ1, P1 d Γ1 → EX c b' Γ1 (P2 d)) (hn : ∀ d d2 Γ2, P2 d d2 Γ2 → BX c rest ((Γ2.set i (.val d)).set j (.val d2)) E) (hN : c.N[i]? = some n1 := by rfl) (hN2 : c.N[j]? = some n2 := by rfl) (hx : Loc c.sc n1 := by first | exact .inl rfl | exact .inr rfl) (hf : c.fn n1 = true ∨ c.sc.names.lookup n1 = some .local := by first | exact .inl rfl | exact .inr rfl) (hx2 : Loc c.sc n2 := by first | exact .inl rfl | exact .inr rfl) (hf2 : c.fn n2 = true ∨ c.sc.names.lookup n2 = some .local := by first | exact .inl rfl | exact .inr rfl)
    (hw : swappedStores [.Tuple [.Name n1 p1, .Name n2 p2] kt pt] (.Tuple [a, b'] k2 pt2) { scope := c.sc, locals := 0, globals := 0, cells := [] } = pure none := by rfl) (hs : ∀ env : Env, swapsWithSole [.Tuple [.Name n1 p1, .Name n2 p2] kt pt] (.Tuple [a, b'] k2 pt2) pos.line env = pure false := by intro _; rfl)
    (he : ∀ env : Env, starEach [a, b'] env = (false, eval a env) :: starEach [b'] env := by intro _; rfl) (he2 : ∀ env : Env, starEach [b'] env = (false, eval b' env) :: starEach [] env := by intro _; rfl) (h1 : ∀ env : Env, (assignEach [.Tuple [.Name n1 p1, .Name n2 p2] kt pt] env).map (·.2) = [assign (.Tuple [.Name n1 p1, .Name n2 p2] kt pt) env] := by intro _; rfl) :
    BX c (.Assign [.Tuple [.Name n1 p1, .Name n2 p2] kt pt] (.Tuple [a, b'] k2 pt2) pos :: rest) Γ E := bx_cons fun H0 B0 B σ H Dn S L X cx =>
  go_s (ps_asg (pe_tup (pa_cons (pe_of X a) (pa_cons (pe_of X b') pa_nil (he2 X.env)) (he X.env))) (pg_tup cx.calm (pgs_cons (pg_name (by rw [cx.N]; exact cx.nd) (by rw [cx.N]; exact hN) (by rw [cx.sc]; exact hx) (by rw [cx.fn, cx.sc]; exact hf)) (pgs_cons (pg_name (by rw [cx.N]; exact cx.nd) (by rw [cx.N]; exact hN2) (by rw [cx.sc]; exact hx2) (by rw [cx.fn, cx.sc]; exact hf2)) pgs_nil))) (hs X.env) (sws_of hw X.env cx.sc) (h1 X.env))
    (ha H0 B0 B σ H _ S (fun v H1 d1 Γ1 pp S1 t1 r1 => hb d1 Γ1 pp H0 B0 B σ H1 _ S1 (fun w H2 d2 Γ2 pp2 S2 t2 r2 => by
      refine ⟨sz2, fun tp htp => ?_⟩
      have e3 : Ext H2 (upd H2 tp (.tup [v, w])) := Ext.new htp
      have S4 := ((S2.ext e3).set_val ((r1.tr t2).ext e3) i).set_val (r2.ext e3) j
      exact ⟨tp, [v, w], rfl, .inl (.inl upd_same), rfl, v, [w], rfl, w, [], rfl, rfl, L.nx B _ _ _ S4 ((t1.trans t2).trans e3.tr) (hn d1 d2 Γ2 pp2)⟩) X cx) X cx)
end
section
variable {P : Program} {w : World} {K : PySem.W.Frag} {mg : Str → Option Value} {base : Heap}
theorem fit_dT (l : List Nat) : (dT l).fit 1 := fit_tup (fit_map (fun b : Nat => fit_int b) l)
theorem wd_mono : ∀ {n : Nat} {d : D}, d.wd n → d.wd (n + 1)
  | 0, d, h => .inl h
  | n + 1, d, h => by
    rcases h with h | ⟨xs, h1, h2, h3⟩
    · exact .inl h
    · exact .inr ⟨xs, h1, h2, fun x hx => wd_mono (h3 x hx)⟩
theorem wd_le {n m : Nat} {d : D} (h : d.wd n) (hm : n ≤ m) : d.wd m := by
  induction hm with
  | refl => exact h
  | step _ ih => exact wd_mono ih
theorem wd_list {n : Nat} {xs : List D} (hl : xs.length ≤ 1000) (h : ∀ x ∈ xs, x.wd n) : (D.list xs).wd (n + 1) := .inr ⟨xs, rfl, hl, h⟩
theorem wd_tup {n : Nat} {b : Bool} {xs : List D} (hl : xs.length ≤ 1000) (h : ∀ x ∈ xs, x.wd n) : (D.tup b xs).wd (n + 1) := .inr ⟨xs, rfl, hl, h⟩
theorem wd_dT (l : List Nat) (h : l.length ≤ 1000) : (dT l).wd 1 := wd_dS false l h
theorem wd_dTs (L : List (List Nat)) (hl : L.length ≤ 1000) (h : ∀ l ∈ L, l.length ≤ 1000) : (D.list (L.map dT)).wd 2 := wd_list (by simpa using hl) fun x hx => by
  obtain ⟨l, hl, rfl⟩ := List.mem_map.mp hx
  exact wd_dT l (h l hl)
theorem fit_dTs (L : List (List Nat)) : (D.list (L.map dT)).fit 2 := fit_list (fit_map fit_dT L)
theorem spread_small {l ts : List Nat} (h : l.length ≤ 4) (hts : ts.length ≤ 4) : (spreadF l ts).length ≤ 256 ∧ ∀ w ∈ spreadF l ts, w.length = ts.length := by
  have key : ∀ (ts : List Nat) (s : List (List Nat)) (n : Nat), (∀ w ∈ s, w.length = n) → (ts.foldl (fun found t => found.flatMap fun w => (lettersF l t).map fun x => w ++ [x]) s).length ≤ s.length * 4 ^ ts.length ∧ ∀ w ∈ ts.foldl (fun found t => found.flatMap fun w => (lettersF l t).map fun x => w ++ [x]) s, w.length = n + ts.length := by
    intro ts
    induction ts with
    | nil => intro s n h; exact ⟨by simp, by simpa using h⟩
    | cons t ts ih =>
      intro s n hs
      rw [List.foldl_cons]
      obtain ⟨h1, h2⟩ := ih (s.flatMap fun w => (lettersF l t).map fun x => w ++ [x]) (n + 1) (fun w hw => by
        obtain ⟨w', g1, g2⟩ := List.mem_flatMap.mp hw
        obtain ⟨x, _, rfl⟩ := List.mem_map.mp g2
        rw [List.length_append, hs w' g1]; rfl)
      refine ⟨Nat.le_trans h1 ?_, fun w hw => by rw [h2 w hw, List.length_cons]; omega⟩
      have h3 : (s.flatMap fun w => (lettersF l t).map fun x => w ++ [x]).length ≤ s.length * 4 := flat_le s _ 4 fun x _ => by rw [List.length_map]; exact Nat.le_trans letters_len h
      rw [List.length_cons, Nat.pow_succ, Nat.mul_comm (4 ^ ts.length) 4, ← Nat.mul_assoc]
      exact Nat.mul_le_mul_right _ h3
  obtain ⟨h1, h2⟩ := key ts [[]] 0 (by simp)
  refine ⟨Nat.le_trans h1 ?_, fun w hw => by have := h2 w hw; omega⟩
  have : 4 ^ ts.length ≤ 4 ^ 4 := Nat.pow_le_pow_right (by decide) hts
  simp; omega
/-! ### _law_words_right -/
def RSw (t : List Nat) (ds rs : List D) : Prop := ∃ l : List Nat, rs = l.map dN ∧ l.length = ds.length ∧ ∀ x ∈ l, 1 ≤ x ∧ x ≤ t.length
theorem RSw.snoc {t : List Nat} {pre : List D} {d : D} {x : Nat} (hx : 1 ≤ x ∧ x ≤ t.length) (rs : List D) (h : RSw t pre rs) : RSw t (pre ++ [d]) (rs ++ [dN x]) := by
  obtain ⟨l, rfl, h1, h2⟩ := h
  refine ⟨l ++ [x], by rw [List.map_append]; rfl, by simp [h1], fun y hy => ?_⟩
  rcases List.mem_append.mp hy with hy | hy
  · exact h2 y hy
  · rw [List.mem_singleton.mp hy]; exact hx
theorem rvd_add1 {i : Nat} : RvD (rI0 fun i j => .int (i + j)) (.int 1) (dN i) (dN (1 + i)) := by
  have z := @rvd_i0 (fun i j => i + j) 1 ((i : Nat) : Int)
  have e : (1 : Int) + (i : Nat) = ((1 + i : Nat) : Int) := by omega
  rw [e] at z; exact z
def standL (t w : List Nat) : List Nat := (w.map fun x => t.getD (x - 1) 0).map fun o => t.idxOf o + 1
theorem stand_eq {t w : List Nat} (h : okW t w) : standF t w = standL t w := by
  unfold standF standL toldF
  refine List.map_congr_left fun o ho => ?_
  have hm := told_mem h ho
  rw [letters_eq]
  have hi := List.idxOf_lt_length_iff.mpr hm
  -- the first place at which the token stands
  have key : ∀ n, n ≤ t.length → t.idxOf o < n → ((List.range n).filter fun k => decide (t.getD k 0 = o))[0]? = some (t.idxOf o) := by
    intro n
    induction n with
    | zero => intro _ h; omega
    | succ n ih =>
      intro hn hlt
      rw [List.range_succ, List.filter_append]
      by_cases hq : t.idxOf o < n
      · have z := ih (by omega) hq
        have hl : 0 < ((List.range n).filter fun k => decide (t.getD k 0 = o)).length := by
          cases q : (List.range n).filter fun k => decide (t.getD k 0 = o) with
          | nil => rw [q] at z; cases z
          | cons _ _ => simp
        rw [List.getElem?_append_left hl]; exact z
      · have e : t.idxOf o = n := by omega
        have hnil : (List.range n).filter (fun k => decide (t.getD k 0 = o)) = [] := by
          rw [List.filter_eq_nil_iff]
          intro k hk hd
          have hk' := List.mem_range.mp hk
          have hkl : k < t.length := by omega
          have h2 := of_decide_eq_true hd
          rw [List.getD_eq_getElem?_getD, List.getElem?_eq_getElem hkl] at h2
          exact idxOf_ne (l := t) (x := o) (m := k) (by omega) (List.getElem?_eq_getElem hkl) h2
        rw [hnil, List.nil_append]
        have hv : t.getD n 0 = o := by
          rw [List.getD_eq_getElem?_getD, List.getElem?_eq_getElem (by omega)]
          show t[n] = o
          have := List.getElem_idxOf hi
          simp only [e] at this
          exact this
        rw [List.filter_cons, hv]
        simp [e]
  have z := key t.length (Nat.le_refl _) hi
  rw [List.getD_eq_getElem?_getD, List.getElem?_map, z]
  show 1 + _ = _
  omega
def R_words (ds : List D) (Pd : D → Prop) (k : Nat) : Prop := ∃ n t, n < 4 ∧ t ∈ tellI n ∧ ds = [dT t] ∧ k = 10 ∧ Pd (.bool true)
theorem p_words (T : Tx K mg) : Pm P w K mg base 10 "_law_words_right" ["_law_tin", "_law_telling_so"] (spB R_words) := by
  refine T.d_l_words_right.pmB sc_l_words_right (fun ds Pd k h => ?_) (by decide) fun ds Pd k h b i0 i1 i2 m hx hm => ?_
  · obtain ⟨_, _, _, _, rfl, _⟩ := h; rfl
  · obtain ⟨n, t, hn, ht, rfl, rfl, hP⟩ := h
    obtain ⟨hT, hlen⟩ := tell_all n hn t ht
    refine bs_setX 2 (P := PB b (m + 1 + 1 * 4) [.val (dT t), .any, .any, .any, .any, .any, .any] fun d => ∃ l : List Nat, l.length ≤ 4 ∧ (∀ x ∈ l, 1 ≤ x ∧ x ≤ t.length) ∧ d = dT l) (ex_tupleOf rfl T.b_tuple (ex_lcx (own := [("_law_lap", 6)]) (ts := [6]) (kc := 1) (N := 4) (m1 := m + 1) (PL := fun ds => ∃ q, q ≤ 4 ∧ ds = (List.range q).map dN) (fun d => [.val (dT t), .any, .any, .any, .any, .val d, .any]) (RSw t) (ib_rngX rfl T.b_range (EX.mono (ex_callB (Pd := fun d => ∃ i, i ≤ 4 ∧ d = dN i) ((p_take T).fd (by decide)) rfl (ap_cons (ep_int (i := 5)) ap_nil) ⟨5, by decide, by decide, rfl, rfl, fun i hi => ⟨i, by omega, rfl⟩⟩ hx (by omega)) (fun _ _ h => h)) (by decide)) (by decide) (fun _ _ _ => rfl) (fun _ => rfl) ?_ (by decide) (fun ds h => by obtain ⟨q, hq, rfl⟩ := h; simpa using hq) (by decide) (fun ds rs h => by obtain ⟨l, rfl, h, _⟩ := h; simp [h]) ⟨[], rfl, rfl, by simp⟩ (fun ds pre d mm j0 j1 j2 hPL hpre hx hmm => ?_)) (fun d Γ' hp => ?_)) (fun d Γ' hp => ?_)
    · intro d q s hs h
      rcases q with _ | _ | _ | _ | _ | _ | _ | q
      all_goals first | exact ⟨by decide, h⟩ | (cases h; exact (hs rfl).elim) | cases h
    · refine ⟨gn 6, fx_nil ⟨j0, j1, j2, rfl, fun h => (by cases h), fun _ => ?_⟩⟩
      refine ex_bin (fun _ _ => op_add) ep_int (ex_callB (Pd := fun d => ∃ i, i < t.length ∧ d = dN i) (((p_take T).fd (by decide)).blk _) rfl (ap_cons (ep_lenN (x := t.length) rfl T.b_len (nw 1) rfl (by simp)) ap_nil) ⟨t.length, by omega, by omega, rfl, rfl, fun i hi => ⟨i, hi, rfl⟩⟩ hx (by omega)) (fun d' Γ' hp => ?_)
      obtain ⟨⟨v, hv, rfl⟩, q0, q1, q2, hx', rfl⟩ := hp
      exact ⟨dN (1 + v), rvd_add1, fun rs hrs => RSw.snoc ⟨by omega, by omega⟩ rs hrs, q0, q1, q2, hx', rfl⟩
    · obtain ⟨⟨_, rs, ⟨q, hq, rfl⟩, ⟨l, rfl, hl, hlm⟩, rfl⟩, q0, q1, q2, hx', rfl⟩ := hp
      exact ⟨l.map dN, rfl, ⟨l, by simp at hl; omega, hlm, rfl⟩, q0, q1, q2, hx', rfl⟩
    · obtain ⟨⟨l, hl4, hlm, rfl⟩, q0, q1, q2, hx', rfl⟩ := hp
      have hW : okW t l := ⟨by omega, by omega, hlm⟩
      have hS : okS t (toldF t l) := ⟨by omega, by unfold toldF; simp; omega, fun x hx => told_mem hW hx⟩
      refine bs_set 3 (s := .val (dT (toldF t l))) (EP.sp (EP.is (ep_tupleOf rfl T.b_tuple (EP.w (EO.ep (eo_map [("_law_own", 7)] l dN (fun x => dN (t.getD (x - 1) 0)) (iw_seq (nm 2) rfl) (fun x hx => ⟨_, gn 7, ep_ixT (nw 1) (EP.w (ep_sub (nw 7) (EP.w ep_int))) (sub1 (hlm x hx).1) (get_dN (by have := hlm x hx; omega))⟩) (by omega))))) ?_)) ?_
      · unfold toldF; rw [dT, List.map_map]; rfl
      refine bs_set 4 (s := .val (dT (standF t l))) (EP.sp (EP.is (ep_tupleOf rfl T.b_tuple (EP.w (EO.ep (eo_map [("_law_own", 7)] (toldF t l) dN (fun o => dN (t.idxOf o + 1)) (iw_seq (nm 3) rfl) (fun o ho => ⟨_, gn 7, ep_addN (y := 1) (EP.w (ep_tidx (nw 1) (nw 7) (told_mem hW ho))) (EP.w ep_int)⟩) (by unfold toldF; simp; omega))))) ?_)) ?_
      · rw [stand_eq hW]; unfold standL toldF; rw [dT, List.map_map, List.map_map, List.map_map]; rfl
      refine bs_set 5 (s := .val (.list [dT (toldF t l), dT (standF t l), .list ((spreadF t (toldF t l)).map dT)])) (EP.sp (EO.ep (eo_lst (ap_cons (ep_call ((p_told T).fd (by decide)) rfl (ap_cons (EO.ep (eo_list rfl T.b_list (nw 1) rfl)) (ap_cons (nm 2) ap_nil)) ⟨true, false, t, l, hW, rfl, rfl⟩) (ap_cons (ep_call ((p_stand_in T).fd (by decide)) rfl (ap_cons (nm 1) (ap_cons (EO.ep (eo_list rfl T.b_list (nw 2) rfl)) ap_nil)) ⟨false, true, t, l, hW, rfl, rfl⟩) (ap_cons (ep_call ((p_spread T).fd (by decide)) rfl (ap_cons (nm 1) (ap_cons (EO.ep (eo_list rfl T.b_list (nw 3) rfl)) ap_nil)) ⟨false, true, t, toldF t l, hS, rfl, rfl⟩) ap_nil))) (by show 3 ≤ sizeLine; decide)))) ?_
      refine bs_ret (ep_call ((p_same T 4 (by decide)).fd (by decide)) rfl (ap_cons (nm 5) (ap_cons (EO.ep (eo_lst (ap_cons (nm 3) (ap_cons (nm 4) (ap_cons (ep_call ((p_lspread T).fd (by decide)) rfl (ap_cons (nm 1) (ap_cons (nm 3) ap_nil)) ⟨false, t, toldF t l, hS, rfl, rfl⟩) ap_nil))) (by show 3 ≤ sizeLine; decide))) ap_nil)) ⟨_, rfl, ?_, ?_, rfl⟩) ⟨hP, q0, q1, q2, _, rfl, hx'.mono (by omega)⟩
      · obtain ⟨g1, g2⟩ := spread_small (l := t) (ts := toldF t l) (by omega) (by unfold toldF; simp; omega)
        refine wd_le (n := 3) (wd_list (by simp) fun x hx => ?_) (by decide)
        simp only [List.mem_cons, List.not_mem_nil, or_false] at hx
        rcases hx with rfl | rfl | rfl
        · exact wd_le (wd_dT _ (by unfold toldF; simp; omega)) (by decide)
        · exact wd_le (wd_dT _ (by unfold standF toldF; simp; omega)) (by decide)
        · exact wd_dTs _ (by omega) fun w hw => by rw [g2 w hw]; unfold toldF; simp; omega
      · refine D.fit.mono (fit_list (n := 2) fun x hx => ?_) (by decide)
        simp only [List.mem_cons, List.not_mem_nil, or_false] at hx
        rcases hx with rfl | rfl | rfl
        · exact (fit_dT _).mono (by decide)
        · exact (fit_dT _).mono (by decide)
        · exact fit_dTs _
end
end GL
end
/-! ## B6 -/
section
namespace GL
open PySem PySem.Spec PyProof.Rows L2
theorem fit_cons {n : Nat} {x : D} {xs : List D} (h : x.fit n) (hs : ∀ y ∈ xs, y.fit n) : ∀ y ∈ x :: xs, y.fit n := fun y hy => by
  rcases List.mem_cons.mp hy with rfl | hy
  · exact h
  · exact hs y hy
section
variable {P : Program} {w : World} {K : PySem.W.Frag} {mg : Str → Option Value} {base : Heap}
/-! ### _law_order_right -/
def R_order (ds : List D) (Pd : D → Prop) (k : Nat) : Prop := ∃ n, n < 4 ∧ ds = [.list ((tellI n).map dT)] ∧ k = 2 ∧ Pd (.bool true)
theorem p_order (T : Tx K mg) : Pm P w K mg base 10 "_law_order_right" ["_law_tin", "_law_all_so"] (spB R_order) := by
  refine T.d_l_order_right.pmB sc_l_order_right (fun ds Pd k h => ?_) (by decide) fun ds Pd k h b i0 i1 i2 m hx hm => ?_
  · obtain ⟨_, _, rfl, _⟩ := h; rfl
  · obtain ⟨n, hn, rfl, rfl, hP⟩ := h
    have hts := (tell_small n hn).1
    have hall := tell_all n hn
    have hne : tellI n ≠ [] := by
      have : n = 0 ∨ n = 1 ∨ n = 2 ∨ n = 3 := by omega
      rcases this with rfl | rfl | rfl | rfl <;> decide
    have hgs : (tellI n).map dT ≠ [] := fun e => hne (by simpa using e)
    refine bs_parXX 2 3 (ex_callB (Pd := fun d => ∃ l ∈ tellI n, d = dT l) ((p_of T).fd (by decide)) rfl (ap_cons (nm 1) ap_nil) ⟨_, hgs, by simp; omega, rfl, rfl, fun g hg => by obtain ⟨l, hl, rfl⟩ := List.mem_map.mp hg; exact ⟨l, hl, rfl⟩⟩ hx (by omega)) (P2 := fun d => PB b (m + 1 + 1) [.val (.list ((tellI n).map dT)), .any, .any, .any, .any, .any, .any, .any, .any, .any] fun d2 => (∃ l ∈ tellI n, d = dT l) ∧ ∃ l ∈ tellI n, d2 = dT l) (fun d Γ1 hp => ?_) (fun d d2 Γ2 hp => ?_)
    · obtain ⟨h1, j0, j1, j2, hx1, rfl⟩ := hp
      exact ex_callB ((p_of T).fd (by decide)) rfl (ap_cons (nm 1) ap_nil) ⟨_, hgs, by simp; omega, rfl, rfl, fun g hg => by obtain ⟨l, hl, rfl⟩ := List.mem_map.mp hg; exact ⟨h1, l, hl, rfl⟩⟩ hx1 (by omega)
    obtain ⟨⟨⟨l1, hl1, rfl⟩, l2, hl2, rfl⟩, j0, j1, j2, hx2, rfl⟩ := hp
    obtain ⟨T1, e1⟩ := hall l1 hl1
    obtain ⟨T2, e2⟩ := hall l2 hl2
    have hok := order_ok n hn l1 hl1 l2 hl2
    unfold orderOk at hok
    simp only [Bool.and_eq_true, decide_eq_true_eq, beq_iff_eq] at hok
    obtain ⟨⟨⟨⟨⟨⟨⟨k1, k2⟩, k3⟩, k4⟩, k5⟩, k6⟩, k7⟩, k8⟩ := hok
    obtain ⟨T3, e3⟩ := hall _ k7
    obtain ⟨T4, e4⟩ := hall _ k8
    have fin : ∀ (o i : List Nat), o ∈ tellI n → i ∈ tellI n → R_finer [dT o, dT i] (.bool (finL o i)) := fun o i ho hi => ⟨o, i, by rw [(hall o ho).2]; omega, by rw [(hall o ho).2, (hall i hi).2], rfl, rfl⟩
    refine bs_lcC 4 [("_law_own", 9)] (lc_fil [("_law_own", 9)] (tellI n) dT (fun o => finL l1 o && finL l2 o) dT (iw_list (nw 1)) (fun o ho => ⟨_, gn 9, WP.toT (wp_and2 (tp_val (ep_call (((p_finer T).fd (by decide)).blk _) rfl (ap_cons (nm 2) (ap_cons (nm 9) ap_nil)) (fin l1 o hl1 ho))) (fun _ => wp_and1 (tp_val (ep_call (((p_finer T).fd (by decide)).blk _) rfl (ap_cons (nm 3) (ap_cons (nm 9) ap_nil)) (fin l2 o hl2 ho))))), fun _ => nm 9⟩) (by omega)) ?_
    refine bs_lcC 5 [("_law_own", 9)] (lc_fil [("_law_own", 9)] (tellI n) dT (fun o => finL o l1 && finL o l2) dT (iw_list (nw 1)) (fun o ho => ⟨_, gn 9, WP.toT (wp_and2 (tp_val (ep_call (((p_finer T).fd (by decide)).blk _) rfl (ap_cons (nm 9) (ap_cons (nm 2) ap_nil)) (fin o l1 ho hl1))) (fun _ => wp_and1 (tp_val (ep_call (((p_finer T).fd (by decide)).blk _) rfl (ap_cons (nm 9) (ap_cons (nm 3) ap_nil)) (fin o l2 ho hl2))))), fun _ => nm 9⟩) (by omega)) ?_
    have aM : ∀ o ∈ aboveF n l1 l2, o ∈ tellI n := fun o ho => (List.mem_filter.mp ho).1
    have bM : ∀ o ∈ belowF n l1 l2, o ∈ tellI n := fun o ho => (List.mem_filter.mp ho).1
    have aL : (aboveF n l1 l2).length ≤ 15 := Nat.le_trans (List.length_filter_le _ _) hts
    have bL : (belowF n l1 l2).length ≤ 15 := Nat.le_trans (List.length_filter_le _ _) hts
    refine bx_weak (Γ' := [.own (.box b j0 j1 j2), .val (.list ((tellI n).map dT)), .val (dT l1), .val (dT l2), .val (.list ((aboveF n l1 l2).map dT)), .val (.list ((belowF n l1 l2).map dT)), .any, .any, .any, .any, .any]) ?_ ?_
    · show GmW [_, _, _, _, _, _, _, _, _, _, _] _
      exact ⟨.refl _, .refl _, .refl _, .refl _, .frz _, .frz _, .any _, .any _, .any _, .any _, .any _, trivial⟩
    refine bs_set 6 (s := .val (dT (joinF l1 l2))) (EP.sp (ep_ixL (EP.w (EO.ep (eo_fil [("_law_own", 9), ("_law_its", 10)] (aboveF n l1 l2) dT (fun o => (aboveF n l1 l2).all fun i => finL o i) dT (iw_list (nw 4)) (fun o ho => ⟨_, gn 9, TP.is (tp_val (ep_all (bs := (aboveF n l1 l2).map fun i => finL o i) rfl T.b_all (EW.is (EP.w (EO.ep (eo_map [("_law_its", 10)] (aboveF n l1 l2) dT (fun i => .bool (finL o i)) (iw_list (nw 4)) (fun i hi => ⟨_, gn 10, ep_call ((((p_finer T).fd (by decide)).blk _).blk _) rfl (ap_cons (nm 9) (ap_cons (nm 10) ap_nil)) (fin o i (aM o ho) (aM i hi))⟩) (by omega)))) (by rw [List.map_map]; rfl)))) (by rw [List.all_map]; rfl), fun _ => nm 9⟩) (by omega)))) (EP.w ep_int) (j := 0) rfl ?_)) ?_
    · have z := k1
      unfold topsF at z
      rw [List.getElem?_map, z]; rfl
    refine bs_set 7 (s := .val (dT (metF l1 l2))) (EP.sp (ep_ixL (EP.w (EO.ep (eo_fil [("_law_own", 9), ("_law_its", 10)] (belowF n l1 l2) dT (fun o => (belowF n l1 l2).all fun i => finL i o) dT (iw_list (nw 5)) (fun o ho => ⟨_, gn 9, TP.is (tp_val (ep_all (bs := (belowF n l1 l2).map fun i => finL i o) rfl T.b_all (EW.is (EP.w (EO.ep (eo_map [("_law_its", 10)] (belowF n l1 l2) dT (fun i => .bool (finL i o)) (iw_list (nw 5)) (fun i hi => ⟨_, gn 10, ep_call ((((p_finer T).fd (by decide)).blk _).blk _) rfl (ap_cons (nm 10) (ap_cons (nm 9) ap_nil)) (fin i o (bM i hi) (bM o ho))⟩) (by omega)))) (by rw [List.map_map]; rfl)))) (by rw [List.all_map]; rfl), fun _ => nm 9⟩) (by omega)))) (EP.w ep_int) (j := 0) rfl ?_)) ?_
    · have z := k3
      unfold lowsF at z
      rw [List.getElem?_map, z]; rfl
    have z3 : 3 ≤ sizeLine := by decide
    have z4 : 4 ≤ sizeLine := by decide
    refine bs_set 8 (s := .val (.list [dT (joinF l1 l2), dT (joinF l2 l1), dT (metF l1 l2), .bool (finF l1 l2)])) (EP.sp (EO.ep (eo_lst (ap_cons (ep_call ((p_joined T).fd (by decide)) rfl (ap_cons (nm 2) (ap_cons (EO.ep (eo_list rfl T.b_list (nw 3) rfl)) ap_nil)) ⟨false, true, l1, l2, T1, T2, by omega, by omega, rfl, rfl⟩) (ap_cons (ep_call ((p_joined T).fd (by decide)) rfl (ap_cons (nm 3) (ap_cons (nm 2) ap_nil)) ⟨false, false, l2, l1, T2, T1, by omega, by omega, rfl, rfl⟩) (ap_cons (ep_call ((p_met T).fd (by decide)) rfl (ap_cons (EO.ep (eo_list rfl T.b_list (nw 2) rfl)) (ap_cons (nm 3) ap_nil)) ⟨true, false, l1, l2, T1, T2, by omega, rfl, rfl⟩) (ap_cons (ep_call ((p_is_finer T).fd (by decide)) rfl (ap_cons (nm 2) (ap_cons (nm 3) ap_nil)) ⟨false, false, l1, l2, T1, T2, by omega, rfl, rfl⟩) ap_nil)))) z4))) ?_
    refine bs_set 8 (s := .val (.list ([dT (joinF l1 l2), dT (joinF l2 l1), dT (metF l1 l2), .bool (finF l1 l2)] ++ [dT (joinF l1 (metF l1 l2)), dT (metF l1 (joinF l1 l2)), .bool true, .bool false]))) (EP.sp (ep_cat (nw 8) (EP.w (EO.ep (eo_lst (ap_cons (ep_call ((p_joined T).fd (by decide)) rfl (ap_cons (nm 2) (ap_cons (ep_call ((p_met T).fd (by decide)) rfl (ap_cons (nm 2) (ap_cons (nm 3) ap_nil)) ⟨false, false, l1, l2, T1, T2, by omega, rfl, rfl⟩) ap_nil)) ⟨false, false, l1, metF l1 l2, T1, T3, by omega, by omega, rfl, rfl⟩) (ap_cons (ep_call ((p_met T).fd (by decide)) rfl (ap_cons (nm 2) (ap_cons (ep_call ((p_joined T).fd (by decide)) rfl (ap_cons (nm 2) (ap_cons (nm 3) ap_nil)) ⟨false, false, l1, l2, T1, T2, by omega, by omega, rfl, rfl⟩) ap_nil)) ⟨false, false, l1, joinF l1 l2, T1, T4, by omega, rfl, rfl⟩) (ap_cons (ep_call ((p_is_telling T).fd (by decide)) rfl (ap_cons (nm 2) ap_nil) (.inl ⟨l1, T1, rfl, rfl⟩)) (ap_cons (ep_call ((p_is_telling T).fd (by decide)) rfl (ap_cons (EO.ep (eo_list rfl T.b_list (nw 2) rfl)) ap_nil) (.inr ⟨_, rfl, rfl⟩)) ap_nil)))) z4))) (by simp))) ?_
    rw [k2, k4, k5, k6]
    refine bs_ret (ep_call ((p_same T 4 (by decide)).fd (by decide)) rfl (ap_cons (nm 8) (ap_cons (EO.ep (eo_lst (ap_cons (nm 6) (ap_cons (nm 6) (ap_cons (nm 7) (ap_cons (ep_call ((p_finer T).fd (by decide)) rfl (ap_cons (nm 2) (ap_cons (nm 3) ap_nil)) (fin l1 l2 hl1 hl2)) (ap_cons (nm 2) (ap_cons (nm 2) (ap_cons ep_bool (ap_cons ep_bool ap_nil)))))))) (by show 8 ≤ sizeLine; decide))) ap_nil)) ⟨_, rfl, ?_, ?_, rfl⟩) ⟨hP, j0, j1, j2, _, rfl, hx2⟩
    · refine wd_le (n := 2) (wd_list (by simp) fun x hx => ?_) (by decide)
      simp only [List.cons_append, List.nil_append, List.mem_cons, List.not_mem_nil, or_false] at hx
      have dn : ∀ l : List Nat, l.length ≤ 4 → (dT l).wd 1 := fun l h => wd_dT l (by omega)
      rcases hx with rfl | rfl | rfl | rfl | rfl | rfl | rfl | rfl
      · exact dn _ (by omega)
      · exact dn _ (by omega)
      · exact dn _ (by omega)
      · exact .inl rfl
      · exact dn _ (by omega)
      · exact dn _ (by omega)
      · exact .inl rfl
      · exact .inl rfl
    · refine D.fit.mono (fit_list (n := 1) fun x hx => ?_) (by decide)
      simp only [List.cons_append, List.nil_append, List.mem_cons, List.not_mem_nil, or_false] at hx
      rcases hx with rfl | rfl | rfl | rfl | rfl | rfl | rfl | rfl
      · exact fit_dT _
      · exact fit_dT _
      · exact fit_dT _
      · exact (fit_bool _).mono (by decide)
      · exact fit_dT _
      · exact fit_dT _
      · exact (fit_bool _).mono (by decide)
      · exact (fit_bool _).mono (by decide)
end
end GL
end
/-! ## B7 -/
section
namespace GL
open PySem PySem.Spec PyProof.Rows L2
/-! ### CanNot: raised and caught -/
structure CnT (K : PySem.W.Frag) (mg : Str → Option Value) (C : Addr) : Prop where
  g : mg "CanNot" = some (.ref C)
  x : PySem.W.excIn K C [.type "ValueError", .type "Exception", .type "BaseException", .type "object"] "ValueError.__new__" = true
  k : PySem.W.keepIn K (.ref C) = true
  b : PySem.W.subIn K (.ref C) (.type "BaseException") = some true
  t : PySem.W.typeIn K (.ref C) = some (.type "type")
  e : PySem.W.exmOne K (.ref C) (.ref C) = some true
  i : ExcC K C
  v : PySem.W.kitOne K (.ref C) (.type "ValueError") = some true
  gv : mg "ValueError" = none
theorem pmk_own0 {X : Cx} {C : Addr} {bmB : List Value} {B newId initId : String} {x : Str} {p pos : Pos} (F : ExcBaseFacts B newId initId bmB) (q : PySem.W.excIn X.K C bmB newId = true) (gC : X.mg x = some (.ref C)) (kC : PySem.W.keepIn X.K (.ref C) = true) (r : Raises X (.ref C)) (hg : Gl X x)
    (hdb : (x == ("__debug__" : Str)) = false := by decide) : PMk X (.Call (.Name x p) [] [] pos) (fun _ H Q => Q (.ref C) none H) := by
  intro pins s σ H Q I h
  refine wpAny_Call_Name_kw (ld_glob I hg gC ?_ hdb)
  refine PySem.W.callWith_K0 I.kIn kC ?_
  show wpAny _ _ (call (.ref C) []) _ _ _
  obtain ⟨bm, N, nm, qn, bs, hdct, sn, sub, ab, col, dd, k0, k1, k2, k3, k5, mN, hC, hN, hni, T⟩ := exc_obj I.kIn q
  refine wpAny_call_exc_subT F T hC hN hni (fun h' e hm => ?_) (Nat.zero_le _)
  exact mk_of I hm r h (I.hok.gone hm.new)
theorem pss_own {X : Cx} {st : List Stmt} {t : TS} {C cls : Value} {d : Option Addr} (h : cls = C → d = none → PSs X st t) : PSs X st (fun Dn σ H => cls = C ∧ d = none ∧ t Dn σ H) := ⟨fun pins s σ H Dn I q => (h q.1 q.2.1).run pins s σ H Dn I q.2.2⟩
def spC (C : Addr) : Sp := fun vs H Q E => ∃ (B : Av) (ds : List D), InH B H ∧ RpA B H vs ds ∧ ((∃ d, R_coarsest ds d ∧ ∀ v H', Ext H H' → Rp B H' v d → Q v H') ∨ ∃ m k S', ds = [m] ∧ KeepP m k S' false ∧ ∀ H', Ext H H' → E (.ref C) none H')
section
variable {P : Program} {w : World} {K : PySem.W.Frag} {mg : Str → Option Value} {base : Heap}
theorem bx_coarsest (T : Tx K mg) (ds : List D) (d : D) (h : R_coarsest ds d) : BX (c0 P w K mg base n_coarsest s_coarsest 7) (defBody s_coarsest) (startG n_coarsest ds) { rt := fun _ r => r = d, nx := fun _ => d = .none } := by
  obtain ⟨m, k, S', S2, E2, hK, hL2, T2, rfl, rfl⟩ := h
  have hkle := T2.kle
  refine bs_ifr (tp_not (tp_val (ep_call ((p_keeps_tails T).fd (by decide)) rfl (ap_cons (nm 0) ap_nil) ⟨m, k, S', true, hK, rfl, rfl⟩))) (fun h => by cases h) (fun h => ?_)
  obtain ⟨s, e, E', fd, rs, hm, Ts, hL, Ts', hb, ht, hbb⟩ := hK
  refine bs_set 1 (EP.sp (ep_ixT (d := dTT S2) (EP.w (ep_call ((p_returns_machine T).fd (by decide)) rfl (ap_cons (nm 0) ap_nil) ⟨m, s, k, e, S', E', S2, E2, hm, Ts, hL, Ts', hL2, rfl, rfl⟩)) (EP.w ep_int) (j := 0) rfl rfl)) ?_
  refine bs_ret (ep_call ((p_numbered T).fd (by decide)) rfl (ap_cons (EO.ep (eo_map [("letter", 3)] (List.range k) dN (fun a => dT (S2.map fun r => r.getD a 0)) (IS.w (is_rng rfl T.b_range (ep_lenN (d := dT (rw' S2 0)) rfl T.b_len (EP.w (ep_ixT (nw 1) (EP.w ep_int) (j := 0) rfl (get_dT T2.pos))) rfl (by rw [List.length_map]; exact T2.row _ (rw_mem T2.pos))) (by omega))) (fun a ha => ⟨_, gn 3, EP.is (ep_tupleOf rfl T.b_tuple (EP.w (EO.ep (eo_map [("row", 2)] S2 dT (fun r => dN (r.getD a 0)) (iw_seq (nm 1) rfl) (fun r hr => ⟨_, gn 2, ep_ixT (nw 2) (nw 3) rfl (get_dN (by have := List.mem_range.mp ha; rw [T2.row r hr]; exact this))⟩) (by have := T2.le; omega))))) ?_⟩) (by simp; omega))) ap_nil) ⟨_, _, kdT true, colsF S2 k, by unfold colsF; simp; omega, ?_, rfl⟩) rfl
  · rw [dT, List.map_map]; rfl
  · unfold colsF; rw [List.map_map]; rfl
theorem p_coarsestX (T : Tx K mg) {C : Addr} (CN : CnT K mg C) : ∃ (f : Addr) (fd : FuncData), mg "coarsest" = some (.ref f) ∧ PySem.W.keepIn K (.ref f) = true ∧ Binds K fd ["machine"] [] ∧ FnOk P w K mg base (L2.CX P w) 8 f fd ["machine"] (spC C) := by
  obtain ⟨f, fd, h1, h2, h3⟩ := T.d_coarsest.ex
  refine ⟨f, fd, h1, h2.kp, h3, h2.okX sc_coarsest (k := 7) (fun vs H Q E h => ?_) (fun cdv A outer s H vs Q E hr h => ?_)⟩
  · obtain ⟨B, ds, _, r, h⟩ := h
    rw [r.length]
    rcases h with ⟨d, ⟨m, k, S', S2, E2, _, _, _, rfl, _⟩, _⟩ | ⟨m, k, S', rfl, _⟩ <;> rfl
  · obtain ⟨B, ds, hB, r, h⟩ := h
    rcases h with ⟨d, hR, q⟩ | ⟨m, k, S', rfl, hK, q⟩
    · refine ⟨_, PSs.nox (pb_of _ _), bx_coarsest T ds d hR H B B (L2.start n_coarsest vs) H _ (sto_start hB r) ⟨fun B' σ' H' Γ' S' t e => ?_, fun B' σ' H' Γ' v d' S' t r' e => ?_, fun B' σ' H' Γ' p o S' t h1 h2 r' e => e.elim, fun _ _ _ _ _ _ e => e.elim, fun _ _ _ _ _ _ e => e.elim⟩ _ ⟨rfl, rfl, rfl, rfl, rfl, rfl, rfl, rfl, rfl, hr, rfl, sc_coarsest.nd⟩⟩
      · subst e; exact q .non H' S'.ex .non
      · subst e; exact q v H' S'.ex (r'.sub S'.sub)
    · refine ⟨_, pss_cons (ps_if (PT.nox (pt_of _ _)) (pss_cons (ps_raise rfl (takes_of rfl rfl rfl rfl) (pmk_own0 PySem.F.excBase_ValueError CN.x CN.g CN.k (raises_own CN.b CN.t) rfl)) pss_nil) pss_nil) (PSs.nox (pb_of _ _)), ?_⟩
      refine (tp_not (tp_val (ep_call ((p_keeps_tails T).fd (by decide)) rfl (ap_cons (nm 0) ap_nil) ⟨m, k, S', false, hK, rfl, rfl⟩)) : TP (c0 P w K mg base n_coarsest s_coarsest 7) _ (startG n_coarsest [m]) (!false)) H B B (L2.start n_coarsest vs) H _ (sto_start hB r) (fun H' e' => ?_) _ ⟨rfl, rfl, rfl, rfl, rfl, rfl, rfl, rfl, rfl, hr, rfl, sc_coarsest.nd⟩
      exact q H' e'
/-! ### _law_heard -/
def R_heard (ds : List D) (d : D) : Prop := R_coarsest ds d ∨ ∃ m k S', KeepP m k S' false ∧ ds = [m] ∧ d = .list [.str "cannot", .bool true]
theorem p_heard (T : Tx K mg) {C : Addr} (CN : CnT K mg C) : Pm P w K mg base 9 "_law_heard" ["_law_machine_so"] (spD R_heard) := by
  obtain ⟨fc, fdc, g1, g2, g3, g4⟩ := p_coarsestX (P := P) (w := w) (base := base) T CN
  refine T.d_l_heard.pm fun f fd F => ?_
  refine F.ok (k := 8) sc_l_heard (fun vs H Q E h => ?_) (fun cdv A outer s H vs Q E hr h => ?_)
  · obtain ⟨B, ds, d, _, r, hR, _⟩ := h
    rw [r.length]
    rcases hR with ⟨m, k, S', S2, E2, _, _, _, rfl, _⟩ | ⟨m, k, S', _, rfl, _⟩ <;> rfl
  · obtain ⟨B, ds, d, hB, r, hR, q⟩ := h
    refine ⟨_, pss_cons (ps_try_as (i := 1) (c := .ref C) (Wout := fun _ _ _ _ => False) rfl rfl sc_l_heard.nd rfl rfl ⟨rfl, by decide, .inl CN.g⟩ takes0 (fun W pn xe tk _ => pss_cons (ps_ret (pe_callS g4 hr rfl g1 g2 g3 (fun σ => passAt tk σ) (pa_cons (pe_var (i := 0) rfl (.inl rfl)) pa_nil))) pss_nil) (fun a oe cls d pn hz hf => pss_own (C := .ref C) (cls := cls) (d := d) fun hc hd => by subst hc; subst hd; exact pss_cons (ps_ret (pe_lst (pa_cons pe_str (pa_cons (pe_callB (call_isE CN.i hz hf) rfl T.b_isinstance (by decide +kernel) (pa_cons (pe_var (i := 1) rfl (.inl rfl)) (pa_cons (pe_bltn (v := .ty "ValueError") rfl CN.gv (by decide +kernel) rfl) pa_nil))) pa_nil)))) pss_nil)) pss_nil, ?_⟩
    · have r1 := r
      rcases hR with hR | ⟨m, k, S', hK, rfl, rfl⟩
      · obtain ⟨m, k, S', S2, E2, h1, h2, h3, rfl, rfl⟩ := hR
        cases r with
        | cons rv rr =>
          cases rr
          refine ⟨_, rfl, B, _, hB, r1, .inl ⟨_, ⟨m, k, S', S2, E2, h1, h2, h3, rfl, rfl⟩, fun v H' e' rp => q v H' e' rp⟩⟩
      · cases r with
        | cons rv rr =>
          cases rr
          refine ⟨_, rfl, B, _, hB, r1, .inr ⟨m, k, S', rfl, hK, fun H' e' => ⟨true, CN.e, fun _ a ha => ⟨rfl, rfl, .ref a, rfl, .ty "ValueError", .type "ValueError", true, rfl, fun u hu => hu, CN.v, sz2, fun p hp => ?_⟩, fun h => by cases h⟩⟩⟩
          exact q (.ref p) _ (e'.trans (Ext.new hp)) (.lst (fun hb => by obtain ⟨o, ho⟩ := hB p hb; rw [e' p o ho] at hp; cases hp) upd_same (.cons (.str _) (.cons (.bl _) .nil)))
end
end GL
end
/-! ## M13 -/
section
namespace GL
/-- all that _law_machine_right needs of a machine -/
structure MF (s : List (List Nat)) (e : List Nat) (k : Nat) (S' : List (List Nat)) (E' : List Nat) (SL : List (List Nat)) (EL : List Nat) (r b : Bool) (n : Nat) : Prop where
  l1 : LeastP s e S' E'
  m1 : MinOf s e k S'
  l2 : LLeastP s e SL EL
  m2 : MinOf s e k SL
  lt : ltLoop SL k n (lt0 SL, lt0 SL) = some r
  tf : tailsF SL r = b
  kp : ∀ m, Mach m s e → KeepP m k S' b
  bk : b = true → AllBk SL k
theorem mf_ok {s : List (List Nat)} {e : List Nat} {k : Nat} (T : Tb s k) : ∃ S' E' SL EL r b n, MF s e k S' E' SL EL r b n := by
  obtain ⟨S', E', h1, m1⟩ := least_min (e := e) T
  obtain ⟨SL, EL, h2, m2⟩ := lleast_min (e := e) T
  obtain ⟨n, r, h3, h4⟩ := ltails_ok m2.T
  refine ⟨S', E', SL, EL, r, tailsF SL r, n, h1, m1, h2, m2, h3, rfl, fun m hm => ?_, fun hb => (h4.mp hb).2⟩
  obtain ⟨b, g1, g2⟩ := keep_ok hm T h1 m1.T
  have : b = tailsF SL r := by
    rw [Bool.eq_iff_iff, g2, h4, tail_same m1 m2, back_same m1 m2]
  exact this ▸ g1
structure MC (s : List (List Nat)) (k : Nat) (S' SL S2 : List (List Nat)) (E2 : List Nat) (L2 : List (List Nat)) (F2 : List Nat) : Prop where
  l1 : LeastP S' [0] S2 E2
  t1 : Tb S2 k
  l2 : LLeastP SL [0] L2 F2
  m2 : MinOf SL [0] k L2
  eq : numOf (colsF S2 k) = numL (colsF L2 k)
  mem : numL (colsF L2 k) ∈ tellI (k - 1)
theorem mc_ok {s : List (List Nat)} {e : List Nat} {k : Nat} {S' SL : List (List Nat)} (m1 : MinOf s e k S') (m2 : MinOf s e k SL) : ∃ S2 E2 L2 F2, MC s k S' SL S2 E2 L2 F2 := by
  obtain ⟨S2, E2, h1, g1⟩ := least_min (e := [0]) m1.T
  obtain ⟨L2, F2, h2, g2⟩ := lleast_min (e := [0]) m2.T
  have g3 := m1.loops m2 g2
  exact ⟨S2, E2, L2, F2, h1, g1.T, h2, g2, cols_same g1 g3, numL_tell k m2.T.kpos m2.T.kle (List Nat) (fun (a : Nat) => L2.map fun (r : List Nat) => r.getD a 0)⟩
/-- the machine as it is drawn, and of lists -/
theorem wd_dTT {s : List (List Nat)} {k : Nat} (T : Tb s k) : (dTT s).wd 2 := wd_tup (by have := T.le; simp; omega) fun x hx => by
  obtain ⟨r, hr, rfl⟩ := List.mem_map.mp hx
  exact wd_dT r (by have := T.row r hr; have := T.kle; omega)
theorem toTup_dTT (s : List (List Nat)) : (dTT s).toTup = dTT s := by
  rw [toTup_items (d := dTT s) rfl, List.map_map]
  congr 1
  exact List.map_congr_left fun r _ => toTup_dS false r
theorem mach_tup {s : List (List Nat)} {e : List Nat} {k : Nat} (T : Tb s k) (he : e.length ≤ 5) : Mach (.tup true [dTT s, dT e]) s e := by
  refine ⟨wd_tup (by simp) fun x hx => ?_, ?_⟩
  · simp only [List.mem_cons, List.not_mem_nil, or_false] at hx
    rcases hx with rfl | rfl
    · exact wd_dTT T
    · exact wd_mono (wd_dT e (by omega))
  · rw [toTup_items (d := .tup true [dTT s, dT e]) rfl]
    show D.tup true [(dTT s).toTup, (dT e).toTup] = _
    rw [toTup_dTT, show (dT e).toTup = dT e from toTup_dS false e]
theorem toLst_dT (l : List Nat) : (dT l).toLst = dL l := by
  rw [toLst_items (d := dT l) rfl, List.map_map]; rfl
theorem mach_lst {s : List (List Nat)} {e : List Nat} {k : Nat} (T : Tb s k) (he : e.length ≤ 5) : Mach (D.tup true [dTT s, dT e]).toLst s e := by
  have e1 : (D.tup true [dTT s, dT e]).toLst = .list [.list (s.map dL), dL e] := by
    rw [toLst_items (d := .tup true [dTT s, dT e]) rfl]
    show D.list [(dTT s).toLst, (dT e).toLst] = _
    rw [toLst_dT, toLst_items (d := dTT s) rfl, List.map_map]
    congr 3
    exact List.map_congr_left fun r _ => toLst_dT r
  rw [e1]
  refine ⟨wd_list (by simp) fun x hx => ?_, ?_⟩
  · simp only [List.mem_cons, List.not_mem_nil, or_false] at hx
    rcases hx with rfl | rfl
    · refine wd_list (by have := T.le; simp; omega) fun x hx => ?_
      obtain ⟨r, hr, rfl⟩ := List.mem_map.mp hx
      exact wd_dS true r (by have := T.row r hr; have := T.kle; omega)
    · exact wd_mono (wd_dS true e (by omega))
  · rw [toTup_items (d := .list [.list (s.map dL), dL e]) rfl]
    show D.tup true [(D.list (s.map dL)).toTup, (dL e).toTup] = _
    rw [toTup_items (d := .list (s.map dL)) rfl, List.map_map, show (dL e).toTup = dT e from toTup_dS true e]
    congr 3
    exact List.map_congr_left fun r _ => toTup_dS true r
end GL
end
/-! ## M14 -/
section
namespace GL
/-! ### the rows: words of the same tokens return -/
def SpW (l w ts : List Nat) : Prop := (∀ x ∈ w, 1 ≤ x ∧ x ≤ l.length) ∧ w.map (fun x => l.getD (x - 1) 0) = ts
theorem spread_mem {l ts w : List Nat} (h : w ∈ spreadF l ts) : SpW l w ts := by
  have key : ∀ (ts pre : List Nat) (s : List (List Nat)), (∀ w ∈ s, SpW l w pre) → ∀ w ∈ ts.foldl (fun found t => found.flatMap fun w => (lettersF l t).map fun x => w ++ [x]) s, SpW l w (pre ++ ts) := by
    intro ts
    induction ts with
    | nil => intro pre s h w hw; rw [List.append_nil]; exact h w hw
    | cons t ts ih =>
      intro pre s hs w hw
      rw [List.foldl_cons] at hw
      have := ih (pre ++ [t]) _ (fun w hw => by
        obtain ⟨w', h1, h2⟩ := List.mem_flatMap.mp hw
        obtain ⟨x, hx, rfl⟩ := List.mem_map.mp h2
        obtain ⟨g1, g2⟩ := hs w' h1
        obtain ⟨a1, a2, a3⟩ := letters_mem hx
        refine ⟨fun y hy => ?_, by rw [List.map_append, g2, List.map_singleton, a3]⟩
        rcases List.mem_append.mp hy with hy | hy
        · exact g1 y hy
        · rw [List.mem_singleton.mp hy]; exact ⟨a1, a2⟩) w hw
      rwa [List.append_assoc] at this
  exact key ts [] [[]] (fun w hw => by rw [List.mem_singleton.mp hw]; exact ⟨fun x hx => (by cases hx), rfl⟩) w h
theorem goF_run (s : List (List Nat)) (q : Nat) (u : List Nat) : goF s q u = run s q (u.map (· - 1)) := by
  unfold goF run
  rw [List.foldl_map]
theorem numL_inj {α : Type} [DecidableEq α] {k : Nat} (c : Nat → α) {i j : Nat} (hi : i < k) (hj : j < k) (h : (numL ((List.range k).map c)).getD i 0 = (numL ((List.range k).map c)).getD j 0) : c i = c j := by
  have at_ : ∀ i < k, (numL ((List.range k).map c)).getD i 0 = (knownF ((List.range k).map c)).idxOf (c i) := fun i hi => by
    unfold numL
    rw [List.getD_eq_getElem?_getD, List.getElem?_map, List.getElem?_map, List.getElem?_range hi]; rfl
  rw [at_ i hi, at_ j hj] at h
  have mem_ : ∀ i < k, c i ∈ knownF ((List.range k).map c) := fun i hi => (kn_mem _ [] _).mpr (.inr (List.mem_map.mpr ⟨i, List.mem_range.mpr hi, rfl⟩))
  have h1 := List.idxOf_lt_length_iff.mpr (mem_ i hi)
  have h2 := List.idxOf_lt_length_iff.mpr (mem_ j hj)
  have e1 := List.getElem_idxOf h1
  have e2 := List.getElem_idxOf h2
  rw [← e1, ← e2]
  simp only [h]
theorem rows_ok {SL L2 : List (List Nat)} {k : Nat} {u w : List Nat} (h : MinOf SL [0] k L2) (hl : (numL (colsF L2 k)).length = k) (hu : ∀ x ∈ u, 1 ≤ x ∧ x ≤ k) (h0 : goF SL 0 u = 0) (hw : w ∈ spreadF (numL (colsF L2 k)) ((u.take 6).map fun x => (numL (colsF L2 k)).getD (x - 1) 0)) : goF SL 0 (w ++ u.drop 6) = 0 := by
  obtain ⟨g1, g2⟩ := spread_mem hw
  rw [hl] at g1
  have hlen : (u.take 6).length = w.length := by simpa using (congrArg List.length g2).symm
  have hd : ∀ x ∈ u.drop 6, 1 ≤ x ∧ x ≤ k := fun x hx => hu x (List.mem_of_mem_drop hx)
  have ht : ∀ x ∈ u.take 6, 1 ≤ x ∧ x ≤ k := fun x hx => hu x (List.mem_of_mem_take hx)
  have vd : ∀ v : List Nat, (∀ x ∈ v, 1 ≤ x ∧ x ≤ k) → Vd k (v.map (· - 1)) := fun v hv a ha => by
    obtain ⟨x, hx, rfl⟩ := List.mem_map.mp ha
    have := hv x hx
    show x - 1 < k
    omega
  have z := exchange h (w := (u.take 6).map (· - 1)) (w' := w.map (· - 1)) (by simpa using hlen) (vd _ ht) (vd _ g1) (fun i hi => by
    rw [List.length_map] at hi
    have hi2 : i < w.length := by omega
    have e := congrArg (fun l => l[i]?) g2
    simp only [List.getElem?_map] at e
    rw [List.getElem?_eq_getElem hi, List.getElem?_eq_getElem hi2] at e
    have e := Option.some.inj e
    have e1 : ((u.take 6).map (· - 1)).getD i 0 = (u.take 6)[i] - 1 := by
      rw [List.getD_eq_getElem?_getD, List.getElem?_map, List.getElem?_eq_getElem hi]; rfl
    have e2 : (w.map (· - 1)).getD i 0 = w[i] - 1 := by
      rw [List.getD_eq_getElem?_getD, List.getElem?_map, List.getElem?_eq_getElem hi2]; rfl
    rw [e1, e2]
    have b1 := ht _ (List.getElem_mem hi)
    have b2 := g1 _ (List.getElem_mem hi2)
    exact numL_inj (k := k) (i := (u.take 6)[i] - 1) (j := w[i] - 1) (fun a => L2.map fun r => r.getD a 0) (by omega) (by omega) e.symm) (vd _ hd)
  rw [goF_run, List.map_append]
  refine z.mp ?_
  rw [← List.map_append, List.take_append_drop, ← goF_run]
  exact h0
theorem spread_small6 {l ts : List Nat} (h : l.length ≤ 3) (hts : ts.length ≤ 6) : (spreadF l ts).length ≤ 729 ∧ ∀ w ∈ spreadF l ts, w.length = ts.length := by
  have key : ∀ (ts : List Nat) (s : List (List Nat)), (ts.foldl (fun found t => found.flatMap fun w => (lettersF l t).map fun x => w ++ [x]) s).length ≤ s.length * 3 ^ ts.length := by
    intro ts
    induction ts with
    | nil => intro s; simp
    | cons t ts ih =>
      intro s
      rw [List.foldl_cons]
      refine Nat.le_trans (ih _) ?_
      have h3 : (s.flatMap fun w => (lettersF l t).map fun x => w ++ [x]).length ≤ s.length * 3 := flat_le s _ 3 fun x _ => by rw [List.length_map]; exact Nat.le_trans letters_len h
      rw [List.length_cons, Nat.pow_succ, Nat.mul_comm (3 ^ ts.length) 3, ← Nat.mul_assoc]
      exact Nat.mul_le_mul_right _ h3
  refine ⟨Nat.le_trans (key ts [[]]) ?_, fun w hw => ?_⟩
  · have : 3 ^ ts.length ≤ 3 ^ 6 := Nat.pow_le_pow_right (by decide) hts
    simp; omega
  · have := congrArg List.length (spread_mem hw).2
    simpa using this
end GL
end
/-! ## B9 -/
section
namespace GL
open PySem PySem.Spec PyProof.Rows L2
/-! ### slices by numbers -/
theorem take_min {α : Type} (l : List α) (n : Nat) : l.take (min n l.length) = l.take n := by
  by_cases h : n ≤ l.length
  · rw [Nat.min_eq_left h]
  · rw [Nat.min_eq_right (by omega), List.take_of_length_le (Nat.le_refl _), List.take_of_length_le (by omega)]
theorem cut_hi (l : List Nat) (n : Nat) : cutD (l.map dN) none (some (n : Int)) = (l.take n).map dN := by
  unfold cutD
  rw [HT.sIx_none, HT.sIx_nat, List.drop_zero, Nat.sub_zero, take_min, List.map_take]
theorem cut_lo (l : List Nat) (n : Nat) : cutD (l.map dN) (some (n : Int)) none = (l.drop n).map dN := by
  unfold cutD
  rw [HT.sIx_none, HT.sIx_nat, List.take_of_length_le (by rw [List.length_drop]; omega)]
  by_cases h : n ≤ (l.map dN).length
  · rw [Nat.min_eq_left h, List.map_drop]
  · rw [Nat.min_eq_right (by omega), List.drop_of_length_le (Nat.le_refl _), List.drop_of_length_le (l := l) (by simp at h; omega)]; rfl
end GL
end
/-! ## B8 -/
section
namespace GL
open PySem PySem.Spec PyProof.Rows L2
section
variable {P : Program} {w : World} {K : PySem.W.Frag} {mg : Str → Option Value} {base : Heap}
/-! ### _law_machine_right -/
def R_mright (ds : List D) (Pd : D → Prop) (kk : Nat) : Prop := ∃ k, 1 ≤ k ∧ k ≤ 3 ∧ ds = [dN k, .list ((tellI (k - 1)).map dT)] ∧ kk = 110 ∧ Pd (.bool true)
theorem p_mright (T : Tx K mg) {C : Addr} (CN : CnT K mg C) : Pm P w K mg base 11 "_law_machine_right" ["_law_tin", "_law_letters_so", "_law_all_so"] (spB R_mright) := by
  refine T.d_l_machine_right.pmB sc_l_machine_right (fun ds Pd k h => ?_) (by decide) fun ds Pd kk h b i0 i1 i2 m hx hm => ?_
  · obtain ⟨_, _, _, rfl, _⟩ := h; rfl
  · obtain ⟨k, hk1, hk3, rfl, rfl, hP⟩ := h
    refine bs_setX 3 (ex_callB (Pd := fun d => ∃ s e, Tb s k ∧ e.length ≤ 5 ∧ d = .tup true [dTT s, dT e]) ((p_machine T).fd (by decide)) rfl (ap_cons (ep_int (i := 5)) (ap_cons (nm 1) ap_nil)) ⟨k, hk1, hk3, rfl, rfl, fun s e h1 h2 _ => ⟨s, e, h1, h2, rfl⟩⟩ hx (by omega)) (fun d Γ' hp => ?_)
    obtain ⟨⟨s, e, Ts, he, rfl⟩, j0, j1, j2, hx1, rfl⟩ := hp
    clear hx
    obtain ⟨S', E', SL, EL, r, bb, n, F⟩ := mf_ok (e := e) Ts
    have M1 := mach_tup Ts he
    have M2 := mach_lst Ts he
    have K1 := F.kp _ M1
    have K2 := F.kp _ M2
    have TL := F.m2.T
    refine bs_set 4 (EP.sp (ep_ixT (d := dTT SL) (EP.w (ep_call ((p_lleast T).fd (by decide)) rfl (ap_cons (nm 3) ap_nil) ⟨s, k, e, SL, EL, true, Ts, F.l2, rfl, rfl⟩)) (EP.w ep_int) (j := 0) rfl rfl)) ?_
    refine bs_ifr (tp_not (tp_val (ep_call ((p_ltails T).fd (by decide)) rfl (ap_cons (nm 4) ap_nil) ⟨SL, k, n, r, TL, F.lt, rfl, rfl⟩))) (fun h => ?_) (fun h => ?_)
    · have hb : bb = false := by rw [F.tf] at h; simpa using h
      rw [hb] at K1 K2
      refine bs_ret (ep_call ((p_same T 4 (by decide)).fd (by decide)) rfl (ap_cons (EO.ep (eo_lst (ds := [.list [.str "cannot", .bool true], .list []]) (ap_cons (ep_call ((p_heard T CN).fd (by decide)) rfl (ap_cons (nm 3) ap_nil) (.inr ⟨_, k, S', K1, rfl, rfl⟩)) (ap_cons (ep_call ((p_good_tellings T).fd (by decide)) rfl (ap_cons (ep_call (d := (D.tup true [dTT s, dT e]).toLst) ((p_lists T 3).fd (by decide)) rfl (ap_cons (nm 3) ap_nil) ⟨_, rfl, M1.1, rfl⟩) ap_nil) ⟨_, k, S', rfl, .inl ⟨K2, rfl⟩⟩) ap_nil)) sz2)) (ap_cons (EO.ep (eo_lst (ds := [.list [.str "cannot", .bool true], .list []]) (ap_cons (EO.ep (eo_lst (ap_cons ep_str (ap_cons ep_bool ap_nil)) sz2)) (ap_cons (EO.ep (eo_lst (ds := []) ap_nil sz0)) ap_nil)) sz2)) ap_nil)) ⟨_, rfl, ?_, ?_, rfl⟩) ⟨hP, j0, j1, j2, _, rfl, hx1.mono (by omega)⟩
      · refine wd_le (n := 2) (wd_list (by simp) fun x hx => ?_) (by decide)
        simp only [List.mem_cons, List.not_mem_nil, or_false] at hx
        rcases hx with rfl | rfl
        · exact wd_list (by simp) fun x hx => by
            simp only [List.mem_cons, List.not_mem_nil, or_false] at hx
            rcases hx with rfl | rfl <;> rfl
        · exact wd_list (by simp) fun x hx => by cases hx
      · refine D.fit.mono (fit_list (n := 1) (fit_cons (fit_list (n := 0) (fit_cons (fit_str _ (by decide +kernel)) (fit_cons (fit_bool _) fun y hy => by cases hy))) (fit_cons (fit_list (n := 0) fun y hy => by cases hy) fun y hy => by cases hy))) (by decide)
    · have hb : bb = true := by rw [F.tf] at h; simpa using h
      rw [hb] at K1 K2
      have hback := F.bk hb
      obtain ⟨S2, E2, L2, F2, G⟩ := mc_ok F.m1 F.m2
      refine bs_set 5 (s := .val (dT (numL (colsF L2 k)))) (EP.sp (ep_call ((p_lcoarsest T).fd (by decide)) rfl (ap_cons (nm 4) ap_nil) ⟨SL, k, L2, F2, TL, G.l2, G.m2.T, rfl, rfl⟩)) ?_
      have hmem := G.mem
      have hall := tell_all (k - 1) (by omega)
      have hts := (tell_small (k - 1) (by omega)).1
      have heq := G.eq
      generalize hmost : numL (colsF L2 k) = most at *
      obtain ⟨Tm, em⟩ := hall most hmem
      refine bs_lc 6 [("_law_own", 11)] (lc_fil [("_law_own", 11)] (tellI (k - 1)) dT (fun o => finL o most) dT (iw_list (nw 2)) (fun o ho => ⟨_, gn 11, tp_val (ep_call (((p_finer T).fd (by decide)).blk _) rfl (ap_cons (nm 11) (ap_cons (nm 5) ap_nil)) ⟨o, most, by rw [(hall o ho).2]; omega, by rw [(hall o ho).2, em], rfl, rfl⟩), fun _ => nm 11⟩) (by omega)) ?_
      have hgood : goodF k (numOf (colsF S2 k)) = (tellI (k - 1)).filter fun o => finL o most := by
        rw [heq]
        unfold goodF
        refine List.filter_congr fun o ho => ?_
        have := order_ok (k - 1) (by omega) o ho most hmem
        unfold orderOk at this
        simp only [Bool.and_eq_true, decide_eq_true_eq, beq_iff_eq] at this
        exact this.1.1.1.1.2
      have hdl : ((tellI (k - 1)).filter fun o => finL o most).length ≤ 15 := Nat.le_trans (List.length_filter_le _ _) hts
      refine bx_weak (Γ' := [.own (.box b j0 j1 j2), .val (dN k), .val (.list ((tellI (k - 1)).map dT)), .val (.tup true [dTT s, dT e]), .val (dTT SL), .val (dT most), .val (.list (((tellI (k - 1)).filter fun o => finL o most).map dT)), .any, .any, .any, .any, .any, .any, .any]) ?_ ?_
      · show GmW [_, _, _, _, _, _, _, _, _, _, _, _, _, _] _
        exact ⟨.refl _, .refl _, .refl _, .refl _, .refl _, .refl _, .frz _, .any _, .any _, .any _, .any _, .any _, .any _, .any _, trivial⟩
      refine bs_ifr (k := !true) (tp_not (tp_val (ep_call ((p_same T 4 (by decide)).fd (by decide)) rfl (ap_cons (EO.ep (eo_lst (ds := [dT most, .list (((tellI (k - 1)).filter fun o => finL o most).map dT)]) (ap_cons (ep_call ((p_heard T CN).fd (by decide)) rfl (ap_cons (ep_call (d := (D.tup true [dTT s, dT e]).toLst) ((p_lists T 3).fd (by decide)) rfl (ap_cons (nm 3) ap_nil) ⟨_, rfl, M1.1, rfl⟩) ap_nil) (.inl ⟨_, k, S', S2, E2, K2, G.l1, G.t1, rfl, by rw [heq]⟩)) (ap_cons (ep_call ((p_good_tellings T).fd (by decide)) rfl (ap_cons (nm 3) ap_nil) ⟨_, k, S', rfl, .inr ⟨K1, S2, E2, G.l1, G.t1, by rw [heq]; exact Tm, by rw [hgood]⟩⟩) ap_nil)) sz2)) (ap_cons (EO.ep (eo_lst (ap_cons (nm 5) (ap_cons (nm 6) ap_nil)) sz2)) ap_nil)) ⟨_, rfl, ?_, ?_, rfl⟩))) (fun h => by cases h) (fun _ => ?_)
      · refine wd_le (n := 3) (wd_list (by simp) fun x hx => ?_) (by decide)
        simp only [List.mem_cons, List.not_mem_nil, or_false] at hx
        rcases hx with rfl | rfl
        · exact wd_le (wd_dT _ (by omega)) (by decide)
        · exact wd_dTs _ (by omega) fun l hl => by have := (hall l (List.mem_filter.mp hl).1).2; omega
      · exact D.fit.mono (fit_list (n := 2) (fit_cons ((fit_dT _).mono (by decide)) (fit_cons (fit_dTs _) fun y hy => by cases hy))) (by decide)
      -- the word
      refine bs_setX 7 (P := PB b (m + 100 + 1 + 1 * 2) [.val (dN k), .val (.list ((tellI (k - 1)).map dT)), .val (.tup true [dTT s, dT e]), .val (dTT SL), .val (dT most), .val (.list (((tellI (k - 1)).filter fun o => finL o most).map dT)), .any, .any, .any, .any, .any, .any, .any] fun d => ∃ l : List Nat, l.length ≤ 2 ∧ (∀ x ∈ l, 1 ≤ x ∧ x ≤ k) ∧ d = dL l) (EX.mono (ex_lcx (own := [("_law_lap", 12)]) (ts := [12]) (kc := 1) (N := 2) (m1 := m + 100 + 1) (PL := fun ds => ∃ q, q ≤ 2 ∧ ds = (List.range q).map dN) (fun d => [.val (dN k), .val (.list ((tellI (k - 1)).map dT)), .val (.tup true [dTT s, dT e]), .val (dTT SL), .val (dT most), .val (.list (((tellI (k - 1)).filter fun o => finL o most).map dT)), .any, .any, .any, .any, .any, .val d, .any]) (RSw most) (ib_rngX rfl T.b_range (ex_bin (fun _ _ => op_add) ep_int (ex_callB (Pd := fun d => ∃ i, i < 2 ∧ d = dN i) ((p_take T).fd (by decide)) rfl (ap_cons (ep_int (i := 2)) ap_nil) ⟨2, by decide, by decide, rfl, rfl, fun i hi => ⟨i, hi, rfl⟩⟩ hx1 (by omega)) (fun d Γ' hp => ?_)) (by decide)) (by decide) (fun _ _ _ => rfl) (fun _ => rfl) ?_ (by decide) (fun ds h => by obtain ⟨q, hq, rfl⟩ := h; simpa using hq) (by decide) (fun ds rs h => by obtain ⟨l, rfl, h, _⟩ := h; simp [h]) ⟨[], rfl, rfl, by simp⟩ (fun ds pre d mm j0 j1 j2 hPL hpre hx hmm => ?_)) (fun d Γ' hp => ?_)) (fun d Γ' hp => ?_) (hs := sw_cell (by intro q; cases q))
      · obtain ⟨⟨v, hv, rfl⟩, q0, q1, q2, hx', rfl⟩ := hp
        exact ⟨dN (1 + v), rvd_add1, ⟨1 + v, by omega, rfl⟩, q0, q1, q2, hx', rfl⟩
      · intro d q s hs h
        rcases q with _ | _ | _ | _ | _ | _ | _ | _ | _ | _ | _ | _ | _ | q
        all_goals first | exact ⟨by decide, h⟩ | (cases h; exact (hs rfl).elim) | cases h
      · refine ⟨gn 12, fx_nil ⟨j0, j1, j2, rfl, fun h => (by cases h), fun _ => ?_⟩⟩
        refine ex_bin (fun _ _ => op_add) ep_int (ex_callB (Pd := fun d => ∃ i, i < k ∧ d = dN i) (((p_take T).fd (by decide)).blk _) rfl (ap_cons (nm 1) ap_nil) ⟨k, by omega, by omega, rfl, rfl, fun i hi => ⟨i, hi, rfl⟩⟩ hx (by omega)) (fun d' Γ' hp => ?_)
        obtain ⟨⟨v, hv, rfl⟩, q0, q1, q2, hx', rfl⟩ := hp
        exact ⟨dN (1 + v), rvd_add1, fun rs hrs => RSw.snoc ⟨by omega, by omega⟩ rs hrs, q0, q1, q2, hx', rfl⟩
      · obtain ⟨⟨_, rs, ⟨q, hq, rfl⟩, ⟨l, rfl, hl, hlm⟩, rfl⟩, q0, q1, q2, hx', rfl⟩ := hp
        exact ⟨⟨l, by simp at hl; omega, fun x hx => by have := hlm x hx; omega, rfl⟩, q0, q1, q2, hx', rfl⟩
      obtain ⟨⟨wd, hwl, hwm, rfl⟩, j0, j1, j2, hx2, rfl⟩ := hp
      have hN := near_ok TL hback
      have hTL := TL.le
      have go0 : ∀ u : List Nat, (∀ x ∈ u, 1 ≤ x ∧ x ≤ k) → goF SL 0 u < SL.length := fun u => by
        have key : ∀ (u : List Nat) q, q < SL.length → (∀ x ∈ u, 1 ≤ x ∧ x ≤ k) → goF SL q u < SL.length := fun u => by
          induction u with
          | nil => intro q hq _; exact hq
          | cons a u ih => intro q hq hu; exact ih _ (TL.go hq (by have := hu a List.mem_cons_self; omega)) fun x hx => hu x (List.mem_cons_of_mem _ hx)
        exact key u 0 TL.pos
      refine bs_set 8 (s := .val (dN (goF SL 0 wd))) (EP.sp (ep_call ((p_go T).fd (by decide)) rfl (ap_cons (nm 4) (ap_cons ep_int (ap_cons (nm 7) ap_nil))) ⟨SL, k, 0, wd, TL, TL.pos, by omega, hwm, rfl, rfl⟩)) ?_
      refine bs_while (fun mm Γ' => ∃ u : List Nat, (∀ x ∈ u, 1 ≤ x ∧ x ≤ k) ∧ u.length + mm ≤ 7 ∧ (farF SL).getD (goF SL 0 u) 0 = mm ∧ GmW Γ' [.own (.box b j0 j1 j2), .val (dN k), .any, .any, .val (dTT SL), .val (dT most), .any, .val (dL u), .val (dN (goF SL 0 u)), .any, .any, .any, .any, .any]) (m := (farF SL).getD (goF SL 0 wd) 0) ⟨wd, hwm, by have := (hN _ (go0 wd hwm)).1; omega, rfl, by (first | exact GmW.refl _ | (repeat' (first | exact True.intro | refine ⟨?_, ?_⟩ | exact SlW.refl _ | exact SlW.any _ | exact SlW.frz _)))⟩ (fun mm Γ0 hW => ?_)
      obtain ⟨u, hum, hul, hfar, hg⟩ := hW
      have hst := go0 u hum
      refine ⟨_, _, hg, tp_neN (y := 0) (nw 8) (EP.w ep_int), fun hk => ?_, fun hk => ?_⟩
      · have hne : goF SL 0 u ≠ 0 := by rw [Bool.not_eq_true', decide_eq_false_iff_not] at hk; exact hk
        obtain ⟨a1, ha1, hn1⟩ := (hN _ hst).2 hne
        have hex : a1 ∈ (List.range k).filter fun a => decide ((farF SL).getD (go SL (goF SL 0 u) a) 0 < (farF SL).getD (goF SL 0 u) 0) := List.mem_filter.mpr ⟨List.mem_range.mpr ha1, decide_eq_true hn1⟩
        have hpos : 0 < ((List.range k).filter fun a => decide ((farF SL).getD (go SL (goF SL 0 u) a) 0 < (farF SL).getD (goF SL 0 u) 0)).length := List.length_pos_iff.mpr fun q => by rw [q] at hex; cases hex
        have hm0 := List.getElem_mem hpos
        have e0 : ((List.range k).filter fun a => decide ((farF SL).getD (go SL (goF SL 0 u) a) 0 < (farF SL).getD (goF SL 0 u) 0)).getD 0 0 = ((List.range k).filter fun a => decide ((farF SL).getD (go SL (goF SL 0 u) a) 0 < (farF SL).getD (goF SL 0 u) 0))[0] := by
          rw [List.getD_eq_getElem?_getD, List.getElem?_eq_getElem hpos]; rfl
        rw [← e0] at hm0
        obtain ⟨hr0, hd0⟩ := List.mem_filter.mp hm0
        have hr0 := List.mem_range.mp hr0
        have hd0 := of_decide_eq_true hd0
        generalize hA : ((List.range k).filter fun a => decide ((farF SL).getD (go SL (goF SL 0 u) a) 0 < (farF SL).getD (goF SL 0 u) 0)).getD 0 0 = a0 at *
        refine bs_set 7 (s := .val (dL (u ++ [1 + a0]))) (EP.sp (EP.is (ep_cat (ys := [dN (1 + a0)]) (nw 7) (EP.w (EO.ep (eo_lst (ap_cons (ep_addN (x := 1) (EP.w ep_int) (EP.w (ep_ixL (EP.w (EO.ep (eo_fil [("_law_k", 13)] (List.range k) dN (fun a => decide ((farF SL).getD (go SL (goF SL 0 u) a) 0 < (farF SL).getD (goF SL 0 u) 0)) dN (IS.w (is_rng rfl T.b_range (nm 1) (by omega))) (fun a ha => ⟨_, gn 13, tp_val (ep_call (((p_nearer T).fd (by decide)).blk _) rfl (ap_cons (nm 4) (ap_cons (nm 8) (ap_cons (nm 13) ap_nil))) ⟨SL, k, goF SL 0 u, a, TL, hst, List.mem_range.mp ha, rfl, rfl⟩), fun _ => nm 13⟩) (by simp; omega)))) (EP.w ep_int) (j := 0) rfl (by rw [get_dN hpos, hA])))) ap_nil) sz1))) (by simp; omega)) (by simp))) ?_
        have hu2 : ∀ x ∈ u ++ [1 + a0], 1 ≤ x ∧ x ≤ k := fun x hx => by
          rcases List.mem_append.mp hx with hx | hx
          · exact hum x hx
          · rw [List.mem_singleton.mp hx]; omega
        have hgo2 : goF SL 0 (u ++ [1 + a0]) = go SL (goF SL 0 u) a0 := by
          unfold goF
          rw [List.foldl_append]
          show go SL _ (1 + a0 - 1) = _
          rw [show 1 + a0 - 1 = a0 from by omega]
        refine bs_set 8 (s := .val (dN (goF SL 0 (u ++ [1 + a0])))) (EP.sp (ep_call ((p_go T).fd (by decide)) rfl (ap_cons (nm 4) (ap_cons ep_int (ap_cons (nm 7) ap_nil))) ⟨SL, k, 0, u ++ [1 + a0], TL, TL.pos, by simp; omega, hu2, rfl, rfl⟩)) ?_
        exact bx_nil ⟨(farF SL).getD (goF SL 0 (u ++ [1 + a0])) 0, by rw [hgo2]; omega, u ++ [1 + a0], hu2, by rw [hgo2, List.length_append, List.length_singleton]; omega, rfl, by (first | exact GmW.refl _ | (repeat' (first | exact True.intro | refine ⟨?_, ?_⟩ | exact SlW.refl _ | exact SlW.any _ | exact SlW.frz _)))⟩
      · have h0 : goF SL 0 u = 0 := by rw [Bool.not_eq_false', decide_eq_true_eq] at hk; exact hk
        have hmk : most.length = k := by omega
        have hrow : ∀ w ∈ spreadF most ((u.take 6).map fun x => most.getD (x - 1) 0), goF SL 0 (w ++ u.drop 6) = 0 := fun w hw => by
          rw [← hmost] at hw hmk
          exact rows_ok G.m2 hmk hum h0 hw
        have etk : ((u.take 6).map fun x => dN (most.getD (x - 1) 0)) = ((u.take 6).map fun x => most.getD (x - 1) 0).map dN := by rw [List.map_map]; rfl
        refine bs_lc 9 [("_law_own", 11)] (lc_map [("_law_own", 11)] (u.take 6) dN (fun x => dN (most.getD (x - 1) 0)) (iw_list (EP.w (EP.is (EO.ep (eo_sliceHi (nw 7) (EP.w ep_int))) (congrArg D.list (cut_hi u 6))))) (fun x hx => ⟨_, gn 11, ep_ixT (nw 5) (EP.w (ep_subN (y := 1) (nw 11) (EP.w ep_int) (by have := hum x (List.mem_of_mem_take hx); omega))) rfl (get_dN (by have := hum x (List.mem_of_mem_take hx); omega))⟩) (by simp; omega)) ?_
        rw [etk]
        have hS : okS most ((u.take 6).map fun x => most.getD (x - 1) 0) := ⟨by omega, by simp; omega, fun t ht => by
          obtain ⟨x, hx, rfl⟩ := List.mem_map.mp ht
          have := hum x (List.mem_of_mem_take hx)
          rw [List.getD_eq_getElem?_getD, List.getElem?_eq_getElem (by omega)]; exact List.getElem_mem _⟩
        generalize ((u.take 6).map fun x => most.getD (x - 1) 0) = toks at *
        obtain ⟨z1, z2⟩ := spread_small6 (l := most) (ts := toks) (by omega) hS.2.1
        refine bx_weak (Γ' := [.own (.box b j0 j1 j2), .val (dN k), .any, .any, .val (dTT SL), .val (dT most), .any, .val (dL u), .val (dN (goF SL 0 u)), .val (dL toks), .any, .any, .any, .any]) ?_ ?_
        · show GmW [_, _, _, _, _, _, _, _, _, _, _, _, _, _] _
          exact ⟨.refl _, .refl _, .refl _, .refl _, .refl _, .refl _, .refl _, .refl _, .refl _, .frz _, .any _, .any _, .any _, .any _, trivial⟩
        refine bs_set 10 (s := .val (.list ((spreadF most toks).map dT))) (EP.sp (ep_call ((p_spread T).fd (by decide)) rfl (ap_cons (nm 5) (ap_cons (nm 9) ap_nil)) ⟨false, true, most, toks, hS, rfl, rfl⟩)) ?_
        refine bs_ifr (k := !true) (tp_not (tp_val (ep_call ((p_same T 4 (by decide)).fd (by decide)) rfl (ap_cons (nm 10) (ap_cons (ep_call ((p_lspread T).fd (by decide)) rfl (ap_cons (nm 5) (ap_cons (nm 9) ap_nil)) ⟨true, most, toks, hS, rfl, rfl⟩) ap_nil)) ⟨_, rfl, wd_le (wd_dTs _ (by omega) fun w hw => by rw [z2 w hw]; have := hS.2.1; omega) (by decide), D.fit.mono (fit_dTs _) (by decide), rfl⟩))) (fun h => by cases h) (fun _ => ?_)
        have hnil : (spreadF most toks).filter (fun w => !decide (goF SL 0 (w ++ u.drop 6) = 0)) = [] := by
          rw [List.filter_eq_nil_iff]
          intro w hw h
          rw [hrow w hw] at h
          cases h
        refine bs_ret (d := .bool true) (EP.is (ep_eq (d := .list []) (x := .list []) (EP.w (EP.is (EO.ep (eo_fil [("_law_own", 11)] (spreadF most toks) dT (fun w => !decide (goF SL 0 (w ++ u.drop 6) = 0)) (fun _ => dN 1) (iw_list (nw 10)) (fun w hw => ⟨_, gn 11, tp_neN (y := 0) (EP.w (ep_call (((p_go T).fd (by decide)).blk _) rfl (ap_cons (nm 4) (ap_cons ep_int (ap_cons (EP.is (ep_cat (EP.w (EO.ep (eo_list rfl T.b_list (nw 11) rfl))) (EP.w (EP.is (EO.ep (eo_sliceLo (nw 7) (EP.w ep_int))) (congrArg D.list (cut_lo u 6)))) ?_) ?_) ap_nil))) ⟨SL, k, 0, w ++ u.drop 6, TL, TL.pos, ?_, ?_, rfl, rfl⟩)) (EP.w ep_int), fun _ => ep_int⟩) (by omega))) (by rw [hnil]; rfl))) (EP.w (EO.ep (eo_lst (ds := []) ap_nil sz0))) ok_nil ok_nil) rfl) ⟨hP, j0, j1, j2, _, rfl, hx2.mono (by omega)⟩
        · have := z2 w hw; have := hS.2.1; simp; omega
        · rw [← List.map_append]
        · have := z2 w hw; have := hS.2.1; simp; omega
        · intro x hx
          rcases List.mem_append.mp hx with hx | hx
          · have := (spread_mem hw).1 x hx; omega
          · exact hum x (List.mem_of_mem_drop hx)
end
end GL
end
/-! ## B10 -/
section
namespace GL
open PySem PySem.Spec PyProof.Rows L2
section
variable {c : Cp} {Γ : Gm} {e : Expr}
/-- a stateful value as a test -/
theorem tx_val {P : D → Gm → Prop} {P2 : Bool → Gm → Prop} (h : EX c e Γ P) (hr : ∀ d Γ', P d Γ' → ∃ k, d = .bool k ∧ P2 k Γ') (he : ∀ (env : Env) whole, isTrue e env whole = (do let v ← whole; standAt e.pos; holding [v] (truthy v)) := by intro _ _; rfl) : TX c e Γ P2 := fun H0 B0 B σ H Q S q X cx =>
  go_t (pt_val (pe_of X e) (he X.env)) (h H0 B0 B σ H _ S (fun v H' d Γ' pp S' t r => by
    obtain ⟨k, rfl, hp⟩ := hr d Γ' pp
    cases r
    exact ⟨k, rfl, q k H' Γ' hp S' t⟩) X cx)
end
section
variable {P : Program} {w : World} {K : PySem.W.Frag} {mg : Str → Option Value} {base : Heap}
/-! ### _law_right -/
def R_right (ds : List D) (Pd : D → Prop) (kk : Nat) : Prop := ds = [] ∧ kk = 200 ∧ Pd (.bool true)
theorem p_right (T : Tx K mg) {C : Addr} (CN : CnT K mg C) : Pm P w K mg base 12 "_law_right" ["_law_tin"] (spB R_right) := by
  refine T.d_l_right.pmB sc_l_right (fun ds Pd k h => ?_) (by decide) fun ds Pd kk h b i0 i1 i2 m hx hm => ?_
  · obtain ⟨rfl, _⟩ := h; rfl
  · obtain ⟨rfl, rfl, hP⟩ := h
    refine bs_setX 1 (P := PB b (m + 1) [.any, .any, .any, .any] fun d => ∃ v, v < 4 ∧ d = dN (v + 1)) (ex_bin (fun _ _ => op_add) ep_int (ex_callB (Pd := fun d => ∃ i, i < 4 ∧ d = dN i) ((p_take T).fd (by decide)) rfl (ap_cons (ep_int (i := 4)) ap_nil) ⟨4, by decide, by decide, rfl, rfl, fun i hi => ⟨i, hi, rfl⟩⟩ hx (by omega)) (fun d Γ' hp => ?_)) (fun d Γ' hp => ?_)
    · obtain ⟨⟨v, hv, rfl⟩, q0, q1, q2, hx', rfl⟩ := hp
      exact ⟨dN (1 + v), rvd_add1, ⟨v, hv, by rw [Nat.add_comm]⟩, q0, q1, q2, hx', rfl⟩
    obtain ⟨⟨n, hn, rfl⟩, j0, j1, j2, hx1, rfl⟩ := hp
    clear hx
    have hts := (tell_small n hn).1
    have hall := tell_all n hn
    have hne : tellI n ≠ [] := by
      have : n = 0 ∨ n = 1 ∨ n = 2 ∨ n = 3 := by omega
      rcases this with rfl | rfl | rfl | rfl <;> decide
    have hgs : (tellI n).map dT ≠ [] := fun e => hne (by simpa using e)
    refine bs_set 2 (s := .val (.list ((tellI n).map dT))) (EP.sp (ep_call ((p_all_tellings T).fd (by decide)) rfl (ap_cons (nm 1) ap_nil) ⟨n, hn, rfl, rfl⟩)) ?_
    refine bs_ifr (k := !true) (tp_not (tp_val (ep_call ((p_same T 4 (by decide)).fd (by decide)) rfl (ap_cons (ep_call ((p_tellings T).fd (by decide)) rfl (ap_cons (nm 1) ap_nil) ⟨n, hn, rfl, rfl⟩) (ap_cons (nm 2) ap_nil)) ⟨_, rfl, wd_le (wd_dTs _ (by omega) fun l hl => by have := (hall l hl).2; omega) (by decide), D.fit.mono (fit_dTs _) (by decide), rfl⟩))) (fun h => by cases h) (fun _ => ?_)
    refine bx_cons (sx_for (is_rng (n := 4) rfl T.b_range (ep_num (n := 4)) (by decide)) (fun i Γ' => ∃ j0 j1 j2, Bx (m + 1 + 13 * i) j0 j1 j2 ∧ GmW Γ' [.own (.box b j0 j1 j2), .any, .val (.list ((tellI n).map dT)), .any, .any]) ⟨j0, j1, j2, hx1, by (first | exact GmW.refl _ | (repeat' (first | exact True.intro | refine ⟨?_, ?_⟩ | exact SlW.refl _ | exact SlW.any _ | exact SlW.frz _)))⟩ (fun i d Γ' hd hW => ?_) fun Γ' hW => ?_)
    · obtain ⟨k0, k1, k2, hx2, hg⟩ := hW
      have hi : i < 4 := by have := (List.getElem?_eq_some_iff.mp hd).1; simpa using this
      refine ⟨_, _, _, hg, gn 3, ?_⟩
      refine bx_cons (sx_ifX (P := fun kb Γ' => kb = false ∧ ∃ k0 k1 k2, Bx (m + 1 + 13 * (i + 1)) k0 k1 k2 ∧ Γ' = [.own (.box b k0 k1 k2), .any, .val (.list ((tellI n).map dT)), .val d, .any]) (WX.toT (wx_or (P1 := fun kb Γ' => kb = false ∧ ∃ k0 k1 k2, Bx (m + 1 + 13 * i + 2) k0 k1 k2 ∧ Γ' = [.own (.box b k0 k1 k2), .any, .val (.list ((tellI n).map dT)), .val d, .any]) (tx_not (tx_val (ex_callB (Pd := fun d => d = .bool true) ((p_order T).fd (by decide)) rfl (ap_cons (nm 2) ap_nil) ⟨n, hn, rfl, rfl, rfl⟩ hx2 (by omega)) (fun d Γ' hp => ?_))) (fun Γ1 h1 => ?_) (fun Γ1 h1 => by cases h1.1))) (fun Γ' h => by cases h.1) (fun Γ' h => ?_))
      · obtain ⟨rfl, q0, q1, q2, hx', rfl⟩ := hp
        exact ⟨true, rfl, rfl, q0, q1, q2, hx', rfl⟩
      · obtain ⟨_, q0, q1, q2, hx', rfl⟩ := h1
        refine wx_or1 (tx_not (tx_val (ex_callBX (Pd := fun d => d = .bool true) (m1 := m + 1 + 13 * i + 2 + 1) (P1 := fun d => ∃ t ∈ tellI n, d = dT t) ((p_words T).fd (by decide)) rfl (ex_callB (Pd := fun d => ∃ l ∈ tellI n, d = dT l) ((p_of T).fd (by decide)) rfl (ap_cons (nm 2) ap_nil) ⟨_, hgs, by simp; omega, rfl, rfl, fun g hg => by obtain ⟨l, hl, rfl⟩ := List.mem_map.mp hg; exact ⟨l, hl, rfl⟩⟩ hx' (by omega)) (fun d ⟨t, ht, e⟩ => ⟨n, t, hn, ht, by rw [e], rfl, rfl⟩) (by omega)) (fun d Γ' hp => ?_)))
        obtain ⟨rfl, q0, q1, q2, hx', rfl⟩ := hp
        exact ⟨true, rfl, rfl, q0, q1, q2, hx'.mono (by omega), rfl⟩
      · obtain ⟨_, q0, q1, q2, hx', rfl⟩ := h
        exact bx_nil (bx_nil ⟨q0, q1, q2, hx', by (first | exact GmW.refl _ | (repeat' (first | exact True.intro | refine ⟨?_, ?_⟩ | exact SlW.refl _ | exact SlW.any _ | exact SlW.frz _)))⟩)
    · obtain ⟨k0, k1, k2, hx2, hg⟩ := hW
      rw [List.length_map, List.length_range] at hx2
      refine bx_weak hg ?_
      refine bs_setX 4 (P := PB b (m + 1 + 13 * 4 + 1) [.any, .val (.list ((tellI n).map dT)), .any, .any] fun d => ∃ v, v < 3 ∧ d = dN (v + 1)) (ex_bin (fun _ _ => op_add) ep_int (ex_callB (Pd := fun d => ∃ i, i < 3 ∧ d = dN i) ((p_take T).fd (by decide)) rfl (ap_cons (ep_int (i := 3)) ap_nil) ⟨3, by decide, by decide, rfl, rfl, fun i hi => ⟨i, hi, rfl⟩⟩ hx2 (by omega)) (fun d Γ' hp => ?_)) (fun d Γ' hp => ?_)
      · obtain ⟨⟨v, hv, rfl⟩, q0, q1, q2, hx', rfl⟩ := hp
        exact ⟨dN (1 + v), rvd_add1, ⟨v, hv, by rw [Nat.add_comm]⟩, q0, q1, q2, hx', rfl⟩
      obtain ⟨⟨v, hv, rfl⟩, q0, q1, q2, hx', rfl⟩ := hp
      refine bx_cons (sx_retX (ex_callB (Pd := Pd) ((p_mright T CN).fd (by decide)) rfl (ap_cons (nm 4) (ap_cons (ep_call ((p_all_tellings T).fd (by decide)) rfl (ap_cons (nm 4) ap_nil) ⟨v, by omega, rfl, rfl⟩) ap_nil)) ⟨v + 1, by omega, by omega, rfl, rfl, hP⟩ hx' (by omega)) (fun d Γ' hp => ?_))
      obtain ⟨hp, j0, j1, j2, hx3, rfl⟩ := hp
      exact ⟨hp, j0, j1, j2, _, rfl, hx3.mono (by omega)⟩
end
end GL
end
/-! ## B11 -/
section
namespace GL
open PySem PySem.Spec PyProof.Rows L2
/-! ### the machines given by hand -/
def cA : List (List Nat) := [[1, 0, 1], [0, 1, 0]]
def cB : List (List Nat) := [[1, 0], [1, 0]]
def cC : List (List Nat) := [[1, 0], [0, 1]]
theorem tbC {s : List (List Nat)} {k : Nat} (h : (decide (1 ≤ s.length) && decide (s.length ≤ 5) && decide (1 ≤ k) && decide (k ≤ 3) && s.all (fun r => decide (r.length = k)) && s.all (fun r => r.all fun x => decide (x < s.length))) = true) : Tb s k := by
  simp only [Bool.and_eq_true, decide_eq_true_eq, List.all_eq_true] at h
  obtain ⟨⟨⟨⟨⟨h1, h2⟩, h3⟩, h4⟩, h5⟩, h6⟩ := h
  exact ⟨h1, h2, h3, h4, h5, h6⟩
theorem tA : Tb cA 3 := tbC (by decide +kernel)
theorem tB' : Tb cB 2 := tbC (by decide +kernel)
theorem tC : Tb cC 2 := tbC (by decide +kernel)
theorem clC {s : List (List Nat)} (h : (decide (2 = s.length) && s.all (fun r => r.all fun x => decide (x < 2))) = true) : Cl s [0, 1] := by
  simp only [Bool.and_eq_true, decide_eq_true_eq, List.all_eq_true] at h
  obtain ⟨h1, h2⟩ := h
  refine ⟨by decide, fun x hx => ?_, fun x hx g hg => ?_⟩
  · simp at hx; omega
  · have hx' : x < s.length := by simp at hx; omega
    have := h2 _ (rw_mem hx') g hg
    simp; omega
theorem leastC {s : List (List Nat)} {e E' : List Nat} {S' : List (List Nat)} (r2 : KiF) (h1 : ctLoop s 10 ([(0, [])], [0]) = some [(0, []), (1, [1])]) (hc : Cl s [0, 1]) (h2 : kiLoop s [0, 1] 10 0 (kind0 e [0, 1]) = some r2) (h3 : S' = rowsF s r2 [0, 1]) (h4 : E' = endsF e r2 [0, 1]) : LeastP s e S' E' :=
  ⟨10, _, 10, r2, h1, hc, h2, h3, h4⟩
theorem lA : LeastP cA [1] cA [1] := leastC (S' := cA) [(0, 0), (1, 1)] (by decide +kernel) (clC (by decide +kernel)) (by decide +kernel) (by decide +kernel) (by decide +kernel)
theorem lA0 : LeastP cA [0] cA [0] := leastC (S' := cA) [(0, 1), (1, 0)] (by decide +kernel) (clC (by decide +kernel)) (by decide +kernel) (by decide +kernel) (by decide +kernel)
theorem lB : LeastP cB [1] cB [1] := leastC (S' := cB) [(0, 0), (1, 1)] (by decide +kernel) (clC (by decide +kernel)) (by decide +kernel) (by decide +kernel) (by decide +kernel)
theorem lC : LeastP cC [1] cC [1] := leastC (S' := cC) [(0, 0), (1, 1)] (by decide +kernel) (clC (by decide +kernel)) (by decide +kernel) (by decide +kernel) (by decide +kernel)
theorem lC0 : LeastP cC [0] cC [0] := leastC (S' := cC) [(0, 1), (1, 0)] (by decide +kernel) (clC (by decide +kernel)) (by decide +kernel) (by decide +kernel) (by decide +kernel)
theorem keepC {s : List (List Nat)} {k : Nat} {b : Bool} (r : Option (List Nat)) (T : Tb s k) (hL : LeastP s [1] s [1]) (h2 : s.length = 2) (hb : bkLoop s 10 [0] [0] = some [0, 1]) (ht : taLoop s k 30 ([((0, 1), [])], [(0, 1)]) = some r) (hr : r.isNone = b) : KeepP (.tup true [dTT s, dT [1]]) k s b := by
  refine ⟨s, [1], [1], [0, 1], fun _ => r, mach_tup T (by decide), T, hL, T, ⟨10, by decide, hb⟩, fun st h1 h2' => ?_, ?_⟩
  · have : st = 1 := by omega
    subst this
    exact ⟨30, ht⟩
  · subst hr; rw [h2]; show r.isNone = (true && ([0] : List Nat).all fun _ => r.isNone); cases r <;> rfl
theorem kA : KeepP (.tup true [dTT cA, dT [1]]) 3 cA true := keepC none tA lA rfl (by decide +kernel) (by decide +kernel) rfl
theorem kB : KeepP (.tup true [dTT cB, dT [1]]) 2 cB false := keepC (some [2]) tB' lB rfl (by decide +kernel) (by decide +kernel) rfl
theorem kC : KeepP (.tup true [dTT cC, dT [1]]) 2 cC true := keepC none tC lC rfl (by decide +kernel) (by decide +kernel) rfl
def hand7 : List D := [dT [0, 1, 1, 1], dT [0, 1, 2], .bool false, .list [dT [1, 2], dT [3, 2]], dT [0, 1, 0], .list [], dT [0, 1]]
def hand3 : List D := [dT [0, 0, 0], .list [dT [0, 1]], dT [1]]
section
variable {P : Program} {w : World} {K : PySem.W.Frag} {mg : Str → Option Value} {base : Heap}
/-! ### _law_by_hand_right -/
def R_hand (ds : List D) (d : D) : Prop := ds = [] ∧ d = .bool true
theorem p_hand (T : Tx K mg) : Pm P w K mg base 10 "_law_by_hand_right" [] (spD R_hand) := by
  refine T.d_l_by_hand_right.pmD sc_l_by_hand_right (fun ds d h => ?_) fun ds d h => ?_
  · obtain ⟨rfl, _⟩ := h; rfl
  · obtain ⟨rfl, rfl⟩ := h
    have z3 : 3 ≤ sizeLine := by decide
    have z4 : 4 ≤ sizeLine := by decide
    refine bs_set 0 (s := .val (.list [dT [0, 1, 1, 1], dT [0, 1, 2], .bool false, .list [dT [1, 2], dT [3, 2]]])) (EP.sp (EO.ep (eo_lst (ap_cons (ep_call ((p_joined T).fd (by decide)) rfl (ap_cons (ep_tup (ap_cons ep_int (ap_cons ep_int (ap_cons ep_int (ap_cons ep_int ap_nil)))) z4) (ap_cons (ep_tup (ap_cons ep_int (ap_cons ep_int (ap_cons ep_int (ap_cons ep_int ap_nil)))) z4) ap_nil)) ⟨false, false, [0, 1, 2, 1], [0, 1, 2, 2], by decide +kernel, by decide +kernel, rfl, by decide, rfl, congrArg dT (by decide +kernel)⟩)
      (ap_cons (ep_call ((p_met T).fd (by decide)) rfl (ap_cons (ep_tup (ap_cons ep_int (ap_cons ep_int (ap_cons ep_int ap_nil))) z3) (ap_cons (ep_tup (ap_cons ep_int (ap_cons ep_int (ap_cons ep_int ap_nil))) z3) ap_nil)) ⟨false, false, [0, 0, 1], [0, 1, 1], by decide +kernel, by decide +kernel, rfl, rfl, congrArg dT (by decide +kernel)⟩)
      (ap_cons (ep_call ((p_is_finer T).fd (by decide)) rfl (ap_cons (ep_tup (ap_cons ep_int (ap_cons ep_int (ap_cons ep_int ap_nil))) z3) (ap_cons (ep_tup (ap_cons ep_int (ap_cons ep_int (ap_cons ep_int ap_nil))) z3) ap_nil)) ⟨false, false, [0, 0, 1], [0, 1, 1], by decide +kernel, by decide +kernel, rfl, rfl, congrArg D.bool (by decide +kernel)⟩)
      (ap_cons (ep_call ((p_spread T).fd (by decide)) rfl (ap_cons (ep_tup (ap_cons ep_int (ap_cons ep_int (ap_cons ep_int ap_nil))) z3) (ap_cons (ep_tup (ap_cons ep_int (ap_cons ep_int ap_nil)) sz2) ap_nil)) ⟨false, false, [0, 1, 0], [0, 1], ⟨by decide, by decide, by decide⟩, rfl, congrArg (fun l : List (List Nat) => D.list (l.map dT)) (by decide +kernel : [[1, 2], [3, 2]] = spreadF [0, 1, 0] [0, 1])⟩) ap_nil)))) z4))) ?_
    refine bs_set 0 (s := .val (.list hand7)) (EP.sp (EP.is (ep_cat (ys := [dT [0, 1, 0], .list [], dT [0, 1]]) (nw 0) (EP.w (EO.ep (eo_lst (ap_cons (ep_call ((p_coarsest T).fd (by decide)) rfl (ap_cons (ep_tup (ap_cons (ep_tup (ap_cons (ep_tup (ap_cons ep_int (ap_cons ep_int (ap_cons ep_int ap_nil))) z3) (ap_cons (ep_tup (ap_cons ep_int (ap_cons ep_int (ap_cons ep_int ap_nil))) z3) ap_nil)) sz2) (ap_cons (ep_tup (ap_cons ep_int ap_nil) sz1) ap_nil)) sz2) ap_nil) ⟨_, 3, cA, cA, [0], kA, lA0, tA, rfl, congrArg dT (by decide +kernel)⟩)
      (ap_cons (ep_call ((p_good_tellings T).fd (by decide)) rfl (ap_cons (ep_tup (ap_cons (ep_tup (ap_cons (ep_tup (ap_cons ep_int (ap_cons ep_int ap_nil)) sz2) (ap_cons (ep_tup (ap_cons ep_int (ap_cons ep_int ap_nil)) sz2) ap_nil)) sz2) (ap_cons (ep_tup (ap_cons ep_int ap_nil) sz1) ap_nil)) sz2) ap_nil) ⟨_, 2, cB, rfl, .inl ⟨kB, rfl⟩⟩)
      (ap_cons (ep_call ((p_told T).fd (by decide)) rfl (ap_cons (ep_tup (ap_cons ep_int (ap_cons ep_int (ap_cons ep_int ap_nil))) z3) (ap_cons (ep_tup (ap_cons ep_int (ap_cons ep_int ap_nil)) sz2) ap_nil)) ⟨false, false, [0, 1, 0], [3, 2], ⟨by decide, by decide, by decide⟩, rfl, congrArg dT (by decide +kernel)⟩) ap_nil))) z3))) (by decide)) rfl)) ?_
    refine bs_set 0 (s := .val (.list (hand7 ++ hand3))) (EP.sp (EP.is (ep_cat (xs := hand7) (ys := hand3) (nw 0) (EP.w (EO.ep (eo_lst (ap_cons (ep_call ((p_joined T).fd (by decide)) rfl (ap_cons (ep_tup (ap_cons ep_int (ap_cons ep_int (ap_cons ep_int ap_nil))) z3) (ap_cons (ep_tup (ap_cons ep_int (ap_cons ep_int (ap_cons ep_int ap_nil))) z3) ap_nil)) ⟨false, false, [0, 1, 1], [0, 0, 1], by decide +kernel, by decide +kernel, rfl, by decide, rfl, congrArg dT (by decide +kernel)⟩)
      (ap_cons (ep_call ((p_good_tellings T).fd (by decide)) rfl (ap_cons (ep_tup (ap_cons (ep_tup (ap_cons (ep_tup (ap_cons ep_int (ap_cons ep_int ap_nil)) sz2) (ap_cons (ep_tup (ap_cons ep_int (ap_cons ep_int ap_nil)) sz2) ap_nil)) sz2) (ap_cons (ep_tup (ap_cons ep_int ap_nil) sz1) ap_nil)) sz2) ap_nil) ⟨_, 2, cC, rfl, .inr ⟨kC, cC, [0], lC0, tC, by decide +kernel, congrArg (fun l : List (List Nat) => D.list (l.map dT)) (by decide +kernel : [[0, 1]] = goodF 2 (numOf (colsF cC 2)))⟩⟩)
      (ap_cons (ep_call ((p_stand_in T).fd (by decide)) rfl (ap_cons (ep_tup (ap_cons ep_int (ap_cons ep_int ap_nil)) sz2) (ap_cons (ep_tup (ap_cons ep_int ap_nil) sz1) ap_nil)) ⟨false, false, [0, 0], [2], ⟨by decide, by decide, by decide⟩, rfl, congrArg dT (by decide +kernel)⟩) ap_nil))) z3))) (by decide)) rfl)) ?_
    refine bs_set 1 (s := .val (.list hand7)) (EP.sp (EO.ep (eo_lst (ap_cons (ep_tup (ap_cons ep_int (ap_cons ep_int (ap_cons ep_int (ap_cons ep_int ap_nil)))) z4) (ap_cons (ep_tup (ap_cons ep_int (ap_cons ep_int (ap_cons ep_int ap_nil))) z3) (ap_cons ep_bool (ap_cons (EO.ep (eo_lst (ap_cons (ep_tup (ap_cons ep_int (ap_cons ep_int ap_nil)) sz2) (ap_cons (ep_tup (ap_cons ep_int (ap_cons ep_int ap_nil)) sz2) ap_nil)) sz2)) (ap_cons (ep_tup (ap_cons ep_int (ap_cons ep_int (ap_cons ep_int ap_nil))) z3) (ap_cons (EO.ep (eo_lst (ds := []) ap_nil sz0)) (ap_cons (ep_tup (ap_cons ep_int (ap_cons ep_int ap_nil)) sz2) ap_nil))))))) (by decide)))) ?_
    refine bs_ret (ep_call ((p_same T 4 (by decide)).fd (by decide)) rfl (ap_cons (nm 0 (d := .list (hand7 ++ hand3))) (ap_cons (EP.is (d' := .list (hand7 ++ hand3)) (ep_cat (xs := hand7) (ys := hand3) (nw 1) (EP.w (EO.ep (eo_lst (ap_cons (ep_tup (ap_cons ep_int (ap_cons ep_int (ap_cons ep_int ap_nil))) z3) (ap_cons (EO.ep (eo_lst (ap_cons (ep_tup (ap_cons ep_int (ap_cons ep_int ap_nil)) sz2) ap_nil) sz1)) (ap_cons (ep_tup (ap_cons ep_int ap_nil) sz1) ap_nil))) z3))) (by decide)) rfl) ap_nil)) ⟨_, rfl, ?_, ?_, rfl⟩) rfl
    · refine wd_le (n := 3) (wd_list (by decide) fun x hx => ?_) (by decide)
      simp only [hand7, hand3, List.mem_append, List.mem_cons, List.not_mem_nil, or_false] at hx
      rcases hx with (rfl | rfl | rfl | rfl | rfl | rfl | rfl) | rfl | rfl | rfl
      all_goals first | exact wd_le (wd_dT _ (by decide)) (by decide) | exact .inl rfl | exact wd_dTs [[1, 2], [3, 2]] (by decide) (by decide) | exact wd_dTs [] (by decide) (by decide) | exact wd_dTs [[0, 1]] (by decide) (by decide)
    · refine D.fit.mono (fit_list (n := 2) fun x hx => ?_) (by decide)
      simp only [hand7, hand3, List.mem_append, List.mem_cons, List.not_mem_nil, or_false] at hx
      rcases hx with (rfl | rfl | rfl | rfl | rfl | rfl | rfl) | rfl | rfl | rfl
      all_goals first | exact (fit_dT _).mono (by decide) | exact (fit_bool _).mono (by decide) | exact fit_dTs [[1, 2], [3, 2]] | exact fit_dTs [] | exact fit_dTs [[0, 1]]
end
end GL
end
/-! ## C2 -/
section
namespace GL
open PySem PySem.Spec PyProof.Rows L2
section
variable {P : Program} {w : World} {K : PySem.W.Frag} {mg : Str → Option Value} {base : Heap}
/-! ### _law_box, of one cell -/
def absI (i : Int) : Int := if i < 0 then -i else i
def boxA (i : Int) : Int := absI i * (if decide ((10 : Int) ^ 18 ≤ absI i) = true then 1 else 0)
def boxB (i : Int) : Int := i % 2305843009213693951 + 39373 * 0 + 3184013
def R_box (ds : List D) (o : Ob) : Prop := ∃ i : Int, ds = [.list [.int i], .int 0] ∧ o = .lst [.int (boxA i), .int (boxB i), .int 0]
theorem p_box (T : Tx K mg) : Pm P w K mg base 1 "_law_box" ["_law_script", "_law_k"] (spO R_box) := by
  refine T.d_l_box.pmO sc_l_box (fun ds d h => ?_) fun ds d h => ?_
  · obtain ⟨_, rfl, _⟩ := h; rfl
  · obtain ⟨i, rfl, rfl⟩ := h
    refine bs_set 2 (s := .val (.int i)) (EP.sp (ep_if (k := true) (TP.is (tp_lt (nw 1) (EP.w (ep_len rfl T.b_len (nw 0) rfl))) rfl) (fun _ => ep_ixL (nw 0) (nw 1) (j := 0) rfl rfl) (fun h => by cases h))) ?_
    have hc : (if decide ((10 : Int) ^ 18 ≤ absI i) = true then (1 : Int) else 0) = 0 ∨ (if decide ((10 : Int) ^ 18 ≤ absI i) = true then (1 : Int) else 0) = 1 := by split <;> simp
    refine bx_cons (sx_retS (ESp.s (EO.sp (eo_lst (ds := [.int (boxA i), .int (boxB i), .int 0]) (ap_cons (ep_mul (EP.w (ep_abs rfl T.b_abs (nw 2))) (EP.w (ep_intB rfl T.b_int (EP.w (ep_ge (EP.w (ep_abs rfl T.b_abs (nw 2))) (EP.w (ep_pow (EP.w ep_int) (EP.w ep_int) ?_)))))) (.inr ?_)) (ap_cons (ep_add (EP.w (ep_add (EP.w (ep_mod (EP.w (ep_intI rfl T.b_int (nw 2))) (EP.w ep_int) (by decide))) (EP.w (ep_mul (EP.w ep_int) (nw 1) (.inl (by decide)))))) (EP.w ep_int)) (ap_cons ep_int ap_nil))) (by show 3 ≤ sizeLine; decide)))) (fun s Γ' h => ?_))
    · exact ⟨by decide, by decide, by decide⟩
    · rcases hc with h | h <;> (rw [h]; decide)
    · obtain ⟨rfl, rfl⟩ := h
      exact rfl
/-! ### law -/
def spLaw (K : PySem.W.Frag) : Sp := fun vs H Q _ => ∃ (a : Addr) (ns : List Int), vs = [.ref a] ∧ SqL K H a (ns.map V.int) ∧ ns.length ≤ 63 ∧ ∀ H', Q (.bl true) H'
theorem ok_law {f : Addr} {fd : FuncData} (F : L2.Fun K "law" "law" s_law f fd) (T : Tx K mg) {C : Addr} (CN : CnT K mg C) : FnOk P w K mg base CX0 13 f fd ["_law_script"] (spLaw K) := by
  obtain ⟨f1, fd1, g1, k1, b1, o1⟩ := (p_hand (P := P) (w := w) (base := base) T).ex
  obtain ⟨f2, fd2, g2, k2, b2, o2⟩ := (p_cells (P := P) (w := w) (base := base) T).ex
  obtain ⟨f3, fd3, g3, k3, b3, o3⟩ := (p_box (P := P) (w := w) (base := base) T).ex
  obtain ⟨f4, fd4, g4, k4, b4, o4⟩ := (p_right (P := P) (w := w) (base := base) T CN).ex
  refine F.ok sc_law (fun vs H Q E h => ?_) (fun cdv A outer s H vs Q E hr h => ?_)
  · obtain ⟨a, ns, rfl, _⟩ := h; rfl
  · obtain ⟨a, ns, rfl, hS, hl, q⟩ := h
    refine ⟨_, PSs.nox (pss_cons (ps_if (pt_not (pt_val (pe_call0 o1 (hr.mono (by decide)) (by rfl) g1 k1 b1 .nil pass0))) (pss_one (ps_ret pe_bl)) pss_nil)
      (pss_one (ps_ret (pe_call o4 (hr.mono (by decide)) (by rfl) g4 k4 b4 .nil pass0 (pa_cons (pe_call o3 (hr.mono (by decide)) (by rfl) g3 k3 b3 .nil pass0 (pa_cons (pe_call o2 (hr.mono (by decide)) (by rfl) g2 k2 b2 .nil pass0 (pa_cons (pv 0) (pa_cons pe_int pa_nil))) (pa_cons pe_int pa_nil))) pa_nil))))), ?_⟩
    refine ⟨fun _ => False, [], .bool true, fun _ h => h.elim, .nil, ⟨rfl, rfl⟩, fun v H1 e1 r1 => ?_⟩
    cases r1
    refine ⟨true, rfl, iteF ?_⟩
    refine ⟨_, rfl, a, ns, rfl, Same.seq e1 hS, hl, fun z p H2 np e2 hp => ?_⟩
    refine ⟨fun _ => False, [.list [.int z], .int 0], _, fun _ h => h.elim, .cons (.lst id hp (.cons (.int z) .nil)) (.cons (.int 0) .nil), ⟨z, rfl, rfl⟩, fun p2 H3 np2 e3 r3 => ?_⟩
    obtain ⟨xs, h3, rx⟩ := r3
    have ex : xs = [V.int (boxA z), .int (boxB z), .int 0] := rx.map_int (ns := [boxA z, boxB z, 0])
    subst ex
    have m1 := Int.emod_nonneg z (b := 2305843009213693951) (by decide)
    have m2 := Int.emod_lt_of_pos z (b := 2305843009213693951) (by decide)
    refine ⟨fun a => a = p2, p2, [], [], boxA z, boxB z, 0, 0, 200, fun d => d = .bool true, fun b hb => ⟨_, hb ▸ h3⟩, rfl, rfl, .nil, h3, ⟨by unfold boxB; omega, by unfold boxB; omega, by decide, by decide⟩, by decide, ⟨rfl, rfl, rfl⟩, fun v H4 j0 j1 j2 d _ _ _ hd r4 => ?_⟩
    subst hd
    cases r4
    exact q H4
end
end GL
end
/-! ## HD -/
section
set_option maxHeartbeats 0
namespace GL
open PySem PySem.Spec PyProof.Rows L2
/-! ### the head: facts by names -/
def dD (n : Str) (st : Stmt) : He.DefD := ⟨(n, none), n, n, defArgs st, defBody st, defScope st, [], []⟩
def hdFn0 : List He.DefD := [dD "is_number" s_is_number, dD "tuple_of" s_tuple_of, dD "come_to" s_come_to, dD "kinds_of" s_kinds_of, dD "least_of" s_least_of, dD "least" s_least, dD "backs_of" s_backs_of, dD "leads_back" s_leads_back, dD "returns_machine" s_returns_machine, dD "tail_of" s_tail_of, dD "keeps_tails" s_keeps_tails, dD "is_telling" s_is_telling, dD "numbered" s_numbered, dD "tellings" s_tellings, dD "told" s_told, dD "letters_with" s_letters_with, dD "spread" s_spread, dD "stand_in" s_stand_in, dD "two" s_two, dD "is_finer" s_is_finer]
def hdFn1 : List He.DefD := [dD "joined" s_joined, dD "met" s_met, dD "coarsest" s_coarsest, dD "good_tellings" s_good_tellings, dD "_law_box" s_l_box, dD "_law_take" s_l_take, dD "_law_cells" s_l_cells, dD "_law_of" s_l_of, dD "_law_pick" s_l_pick, dD "_law_lists" s_l_lists, dD "_law_same" s_l_same, dD "_law_machine" s_l_machine, dD "_law_lot" s_l_lot, dD "_law_go" s_l_go, dD "_law_least" s_l_least, dD "_law_tails" s_l_tails, dD "_law_backs" s_l_backs, dD "_law_numbered" s_l_numbered, dD "_law_coarsest" s_l_coarsest, dD "_law_finer" s_l_finer]
def hdFn2 : List He.DefD := [dD "_law_all_tellings" s_l_all_tellings, dD "_law_heard" s_l_heard, dD "_law_spread" s_l_spread, dD "_law_by_hand_right" s_l_by_hand_right, dD "_law_order_right" s_l_order_right, dD "_law_words_right" s_l_words_right, dD "_law_machine_right" s_l_machine_right, dD "_law_nearer" s_l_nearer, dD "_law_right" s_l_right, dD "law" s_law]
def hdFn : List He.DefD := hdFn0 ++ (hdFn1 ++ (hdFn2))
def hdFa0 : List He.Fa := [.glo "is_number", .glo "tuple_of", .glo "come_to", .glo "kinds_of", .glo "least_of", .glo "least", .glo "backs_of", .glo "leads_back", .glo "returns_machine", .glo "tail_of", .glo "keeps_tails", .glo "is_telling", .glo "numbered", .glo "tellings", .glo "told", .glo "letters_with", .glo "spread", .glo "stand_in", .glo "two", .glo "is_finer"]
def hdFa1 : List He.Fa := [.glo "joined", .glo "met", .glo "coarsest", .glo "good_tellings", .glo "_law_box", .glo "_law_take", .glo "_law_cells", .glo "_law_of", .glo "_law_pick", .glo "_law_lists", .glo "_law_same", .glo "_law_machine", .glo "_law_lot", .glo "_law_go", .glo "_law_least", .glo "_law_tails", .glo "_law_backs", .glo "_law_numbered", .glo "_law_coarsest", .glo "_law_finer"]
def hdFa2 : List He.Fa := [.glo "_law_all_tellings", .glo "_law_heard", .glo "_law_spread", .glo "_law_by_hand_right", .glo "_law_order_right", .glo "_law_words_right", .glo "_law_machine_right", .glo "_law_nearer", .glo "_law_right", .glo "law", .free "isinstance", .free "int", .free "bool", .free "list", .free "tuple", .free "dict", .free "set", .free "sorted", .free "len", .free "enumerate"]
def hdFa3 : List He.Fa := [.free "range", .free "all", .free "any", .free "max", .free "min", .free "abs", .free "zip", .free "str", .glo "CanNot", .exc "CanNot", .exm "CanNot" "CanNot" true, .free "ValueError"]
def hdFa : List He.Fa := hdFa0 ++ (hdFa1 ++ (hdFa2 ++ (hdFa3)))
def hdNames0 : List Str := ["NoPlace", "CanNot", "Unfit", "is_number", "tuple_of", "come_to", "kinds_of", "least_of", "least", "backs_of", "leads_back", "returns_machine", "tail_of", "keeps_tails", "is_telling", "numbered", "tellings", "told", "letters_with", "spread"]
def hdNames1 : List Str := ["stand_in", "two", "is_finer", "joined", "met", "coarsest", "good_tellings", "_law_box", "_law_take", "_law_cells", "_law_of", "_law_pick", "_law_lists", "_law_same", "_law_machine", "_law_lot", "_law_go", "_law_least", "_law_tails", "_law_backs"]
def hdNames2 : List Str := ["_law_numbered", "_law_coarsest", "_law_finer", "_law_all_tellings", "_law_heard", "_law_spread", "_law_by_hand_right", "_law_order_right", "_law_words_right", "_law_machine_right", "_law_nearer", "_law_right"]
def hdNames : List Str := hdNames0 ++ (hdNames1 ++ (hdNames2))
/-- what the Hook's facts do not say of the error's class -/
def hdEx (K : PySem.W.Frag) : Bool :=
  decide (PySem.W.findIn K (.ref (He.ga K "CanNot")) "__getattribute__" = some (some (.builtin "BaseException.__getattribute__")))
  && (decide (PySem.W.findIn K (.ref (He.ga K "CanNot")) "__getattr__" = some none)
  && (PySem.W.hasDictIn K (He.ga K "CanNot")
  && (decide (PySem.W.findIn K (.ref (He.ga K "CanNot")) "__class__" = some (some (.builtin "object.__class__")))
  && (decide (PySem.W.specialIn K (.builtin "object.__class__") "__get__" = some (some (.builtin "getset_descriptor.__get__")))
  && (decide (PySem.W.takesIn K (.builtin "object.__class__") = some true)
  && (decide (PySem.W.mroIn K (He.ga K "CanNot") (.type "object") = some true)
  && decide (PySem.W.kitOne K (.ref (He.ga K "CanNot")) (.type "ValueError") = some true)))))))
abbrev AlM : Type := He.AlD × Bool
def obsM (n : Nat) (g : Addr → Option Obj) : AlM := (He.obsD hdFa hdFn (He.frG g (He.asD g n)), hdEx (He.frG g (He.asD g n)))
def hookM (n : Nat) : PySem.W.Hook where
  α := AlM
  obs := fun s => obsM n s.heap.get?
  val := fun _ => (He.valD hdFn, true)
  says := fun _ h => ∃ K : PySem.W.Frag, K.In h ∧ He.SaysD hdFa hdFn K ∧ hdEx K = true
  of := fun _ _ e => ⟨_, He.frG_in, congrArg (fun z : AlM => z.1) e, congrArg (fun z : AlM => z.2) e⟩
  keeps := fun _ _ _ ⟨K, hK, c⟩ k => ⟨K, PySem.W.Frag.In.keeps hK k, c⟩
def obM (s : PySem.W.SharedT) : AlM := obsM 5 (HandSHeadRun.getT s)
theorem obM_eq (s : PySem.W.SharedT) : obM s = (hookM 5).obs s.abs := by
  have e : HandSHeadRun.getT s = s.abs.heap.get? := funext (HandSHeadRun.getT_eq s)
  unfold obM; rw [e] <;> rfl
abbrev hdR : PySem.W.OpenRow := PySem.W.OpenLaw.row PySem.Challenge.rw_gonetold_k13_whole_tellings_and_the_coar
theorem hd_run (w : World) : HandSHeadRun.RunEq hdR (PySem.W.view hdR.prog [58]) (hookM 5) obM 4000 hdNames w := by
  intro os
  kernel_rfl
section
variable {K : PySem.W.Frag} {h : Heap} {mg : Str → Option Value}
theorem df_of (X : K.In h) (G : h.Ns mainGlobals mg) (c : He.SaysD hdFa hdFn K) (i : Nat) {n : Str} {st : Stmt} {ps : List Str} (hg : hdFa[i]? = some (.glo n)) (hf : hdFn[i]? = some (dD n st))
    (hb : ∀ (kV doc pm : Value) (an : Option Addr) (cdv ct : Value) (us : List Value), us.length = ps.length → bindArgs (PySem.W.fnOf n n (defArgs st) (defBody st) (defScope st) .none kV doc pm an cdv ct) ⟨us, []⟩ = pure (ps.zip us)) : Df K mg n st ps := by
  obtain ⟨fd, F⟩ := c.def_ i hf
  have b := FunD.bindsN (ps := ps) F hb
  obtain ⟨oc, od, dV, kV, doc, pm, an, cdv, ct, osl, e, l, cc, hd, _⟩ := F.ex
  rcases hd with ⟨_, e2⟩ | ⟨e2, _⟩
  · subst e2
    exact ⟨_, fd, He.glo_ok X G (c.fact i hg), ⟨⟨oc, od, kV, doc, pm, an, cdv, ct, osl, e, l, cc⟩, F.kp⟩, b⟩
  · exact absurd rfl e2
theorem hd_is_number (X : K.In h) (G : h.Ns mainGlobals mg) (c : He.SaysD hdFa hdFn K) : Df K mg "is_number" s_is_number ["thing"] := df_of X G c 0 rfl rfl fun _ _ _ _ _ _ us hl => match us, hl with | [_], _ => rfl
theorem hd_tuple_of (X : K.In h) (G : h.Ns mainGlobals mg) (c : He.SaysD hdFa hdFn K) : Df K mg "tuple_of" s_tuple_of ["thing"] := df_of X G c 1 rfl rfl fun _ _ _ _ _ _ us hl => match us, hl with | [_], _ => rfl
theorem hd_come_to (X : K.In h) (G : h.Ns mainGlobals mg) (c : He.SaysD hdFa hdFn K) : Df K mg "come_to" s_come_to ["steps"] := df_of X G c 2 rfl rfl fun _ _ _ _ _ _ us hl => match us, hl with | [_], _ => rfl
theorem hd_kinds_of (X : K.In h) (G : h.Ns mainGlobals mg) (c : He.SaysD hdFa hdFn K) : Df K mg "kinds_of" s_kinds_of ["steps", "ends", "states"] := df_of X G c 3 rfl rfl fun _ _ _ _ _ _ us hl => match us, hl with | [_, _, _], _ => rfl
theorem hd_least_of (X : K.In h) (G : h.Ns mainGlobals mg) (c : He.SaysD hdFa hdFn K) : Df K mg "least_of" s_least_of ["steps", "ends"] := df_of X G c 4 rfl rfl fun _ _ _ _ _ _ us hl => match us, hl with | [_, _], _ => rfl
theorem hd_least (X : K.In h) (G : h.Ns mainGlobals mg) (c : He.SaysD hdFa hdFn K) : Df K mg "least" s_least ["machine"] := df_of X G c 5 rfl rfl fun _ _ _ _ _ _ us hl => match us, hl with | [_], _ => rfl
theorem hd_backs_of (X : K.In h) (G : h.Ns mainGlobals mg) (c : He.SaysD hdFa hdFn K) : Df K mg "backs_of" s_backs_of ["steps"] := df_of X G c 6 rfl rfl fun _ _ _ _ _ _ us hl => match us, hl with | [_], _ => rfl
theorem hd_leads_back (X : K.In h) (G : h.Ns mainGlobals mg) (c : He.SaysD hdFa hdFn K) : Df K mg "leads_back" s_leads_back ["machine"] := df_of X G c 7 rfl rfl fun _ _ _ _ _ _ us hl => match us, hl with | [_], _ => rfl
theorem hd_returns_machine (X : K.In h) (G : h.Ns mainGlobals mg) (c : He.SaysD hdFa hdFn K) : Df K mg "returns_machine" s_returns_machine ["machine"] := df_of X G c 8 rfl rfl fun _ _ _ _ _ _ us hl => match us, hl with | [_], _ => rfl
theorem hd_tail_of (X : K.In h) (G : h.Ns mainGlobals mg) (c : He.SaysD hdFa hdFn K) : Df K mg "tail_of" s_tail_of ["steps", "state"] := df_of X G c 9 rfl rfl fun _ _ _ _ _ _ us hl => match us, hl with | [_, _], _ => rfl
theorem hd_keeps_tails (X : K.In h) (G : h.Ns mainGlobals mg) (c : He.SaysD hdFa hdFn K) : Df K mg "keeps_tails" s_keeps_tails ["machine"] := df_of X G c 10 rfl rfl fun _ _ _ _ _ _ us hl => match us, hl with | [_], _ => rfl
theorem hd_is_telling (X : K.In h) (G : h.Ns mainGlobals mg) (c : He.SaysD hdFa hdFn K) : Df K mg "is_telling" s_is_telling ["thing"] := df_of X G c 11 rfl rfl fun _ _ _ _ _ _ us hl => match us, hl with | [_], _ => rfl
theorem hd_numbered (X : K.In h) (G : h.Ns mainGlobals mg) (c : He.SaysD hdFa hdFn K) : Df K mg "numbered" s_numbered ["row"] := df_of X G c 12 rfl rfl fun _ _ _ _ _ _ us hl => match us, hl with | [_], _ => rfl
theorem hd_tellings (X : K.In h) (G : h.Ns mainGlobals mg) (c : He.SaysD hdFa hdFn K) : Df K mg "tellings" s_tellings ["many"] := df_of X G c 13 rfl rfl fun _ _ _ _ _ _ us hl => match us, hl with | [_], _ => rfl
theorem hd_told (X : K.In h) (G : h.Ns mainGlobals mg) (c : He.SaysD hdFa hdFn K) : Df K mg "told" s_told ["telling", "word"] := df_of X G c 14 rfl rfl fun _ _ _ _ _ _ us hl => match us, hl with | [_, _], _ => rfl
theorem hd_letters_with (X : K.In h) (G : h.Ns mainGlobals mg) (c : He.SaysD hdFa hdFn K) : Df K mg "letters_with" s_letters_with ["telling", "token"] := df_of X G c 15 rfl rfl fun _ _ _ _ _ _ us hl => match us, hl with | [_, _], _ => rfl
theorem hd_spread (X : K.In h) (G : h.Ns mainGlobals mg) (c : He.SaysD hdFa hdFn K) : Df K mg "spread" s_spread ["telling", "tokens"] := df_of X G c 16 rfl rfl fun _ _ _ _ _ _ us hl => match us, hl with | [_, _], _ => rfl
theorem hd_stand_in (X : K.In h) (G : h.Ns mainGlobals mg) (c : He.SaysD hdFa hdFn K) : Df K mg "stand_in" s_stand_in ["telling", "word"] := df_of X G c 17 rfl rfl fun _ _ _ _ _ _ us hl => match us, hl with | [_, _], _ => rfl
theorem hd_two (X : K.In h) (G : h.Ns mainGlobals mg) (c : He.SaysD hdFa hdFn K) : Df K mg "two" s_two ["one", "other"] := df_of X G c 18 rfl rfl fun _ _ _ _ _ _ us hl => match us, hl with | [_, _], _ => rfl
theorem hd_is_finer (X : K.In h) (G : h.Ns mainGlobals mg) (c : He.SaysD hdFa hdFn K) : Df K mg "is_finer" s_is_finer ["one", "other"] := df_of X G c 19 rfl rfl fun _ _ _ _ _ _ us hl => match us, hl with | [_, _], _ => rfl
theorem hd_joined (X : K.In h) (G : h.Ns mainGlobals mg) (c : He.SaysD hdFa hdFn K) : Df K mg "joined" s_joined ["one", "other"] := df_of X G c 20 rfl rfl fun _ _ _ _ _ _ us hl => match us, hl with | [_, _], _ => rfl
theorem hd_met (X : K.In h) (G : h.Ns mainGlobals mg) (c : He.SaysD hdFa hdFn K) : Df K mg "met" s_met ["one", "other"] := df_of X G c 21 rfl rfl fun _ _ _ _ _ _ us hl => match us, hl with | [_, _], _ => rfl
theorem hd_coarsest (X : K.In h) (G : h.Ns mainGlobals mg) (c : He.SaysD hdFa hdFn K) : Df K mg "coarsest" s_coarsest ["machine"] := df_of X G c 22 rfl rfl fun _ _ _ _ _ _ us hl => match us, hl with | [_], _ => rfl
theorem hd_good_tellings (X : K.In h) (G : h.Ns mainGlobals mg) (c : He.SaysD hdFa hdFn K) : Df K mg "good_tellings" s_good_tellings ["machine"] := df_of X G c 23 rfl rfl fun _ _ _ _ _ _ us hl => match us, hl with | [_], _ => rfl
theorem hd_l_box (X : K.In h) (G : h.Ns mainGlobals mg) (c : He.SaysD hdFa hdFn K) : Df K mg "_law_box" s_l_box ["_law_script", "_law_k"] := df_of X G c 24 rfl rfl fun _ _ _ _ _ _ us hl => match us, hl with | [_, _], _ => rfl
theorem hd_l_take (X : K.In h) (G : h.Ns mainGlobals mg) (c : He.SaysD hdFa hdFn K) : Df K mg "_law_take" s_l_take ["_law_tin", "_law_below_so"] := df_of X G c 25 rfl rfl fun _ _ _ _ _ _ us hl => match us, hl with | [_, _], _ => rfl
theorem hd_l_cells (X : K.In h) (G : h.Ns mainGlobals mg) (c : He.SaysD hdFa hdFn K) : Df K mg "_law_cells" s_l_cells ["_law_script", "_law_most_so"] := df_of X G c 26 rfl rfl fun _ _ _ _ _ _ us hl => match us, hl with | [_, _], _ => rfl
theorem hd_l_of (X : K.In h) (G : h.Ns mainGlobals mg) (c : He.SaysD hdFa hdFn K) : Df K mg "_law_of" s_l_of ["_law_tin", "_law_goods_so"] := df_of X G c 27 rfl rfl fun _ _ _ _ _ _ us hl => match us, hl with | [_, _], _ => rfl
theorem hd_l_pick (X : K.In h) (G : h.Ns mainGlobals mg) (c : He.SaysD hdFa hdFn K) : Df K mg "_law_pick" s_l_pick ["_law_tin", "_law_goods_so", "_law_count_so"] := df_of X G c 28 rfl rfl fun _ _ _ _ _ _ us hl => match us, hl with | [_, _, _], _ => rfl
theorem hd_l_lists (X : K.In h) (G : h.Ns mainGlobals mg) (c : He.SaysD hdFa hdFn K) : Df K mg "_law_lists" s_l_lists ["_law_matter"] := df_of X G c 29 rfl rfl fun _ _ _ _ _ _ us hl => match us, hl with | [_], _ => rfl
theorem hd_l_same (X : K.In h) (G : h.Ns mainGlobals mg) (c : He.SaysD hdFa hdFn K) : Df K mg "_law_same" s_l_same ["_law_got", "_law_due"] := df_of X G c 30 rfl rfl fun _ _ _ _ _ _ us hl => match us, hl with | [_, _], _ => rfl
theorem hd_l_machine (X : K.In h) (G : h.Ns mainGlobals mg) (c : He.SaysD hdFa hdFn K) : Df K mg "_law_machine" s_l_machine ["_law_tin", "_law_most_so", "_law_letters_so"] := df_of X G c 31 rfl rfl fun _ _ _ _ _ _ us hl => match us, hl with | [_, _, _], _ => rfl
theorem hd_l_lot (X : K.In h) (G : h.Ns mainGlobals mg) (c : He.SaysD hdFa hdFn K) : Df K mg "_law_lot" s_l_lot ["_law_many_so", "_law_state_so"] := df_of X G c 32 rfl rfl fun _ _ _ _ _ _ us hl => match us, hl with | [_, _], _ => rfl
theorem hd_l_go (X : K.In h) (G : h.Ns mainGlobals mg) (c : He.SaysD hdFa hdFn K) : Df K mg "_law_go" s_l_go ["_law_steps_so", "_law_state_so", "_law_word_so"] := df_of X G c 33 rfl rfl fun _ _ _ _ _ _ us hl => match us, hl with | [_, _, _], _ => rfl
theorem hd_l_least (X : K.In h) (G : h.Ns mainGlobals mg) (c : He.SaysD hdFa hdFn K) : Df K mg "_law_least" s_l_least ["_law_machine_so"] := df_of X G c 34 rfl rfl fun _ _ _ _ _ _ us hl => match us, hl with | [_], _ => rfl
theorem hd_l_tails (X : K.In h) (G : h.Ns mainGlobals mg) (c : He.SaysD hdFa hdFn K) : Df K mg "_law_tails" s_l_tails ["_law_steps_so"] := df_of X G c 35 rfl rfl fun _ _ _ _ _ _ us hl => match us, hl with | [_], _ => rfl
theorem hd_l_backs (X : K.In h) (G : h.Ns mainGlobals mg) (c : He.SaysD hdFa hdFn K) : Df K mg "_law_backs" s_l_backs ["_law_steps_so"] := df_of X G c 36 rfl rfl fun _ _ _ _ _ _ us hl => match us, hl with | [_], _ => rfl
theorem hd_l_numbered (X : K.In h) (G : h.Ns mainGlobals mg) (c : He.SaysD hdFa hdFn K) : Df K mg "_law_numbered" s_l_numbered ["_law_row_so"] := df_of X G c 37 rfl rfl fun _ _ _ _ _ _ us hl => match us, hl with | [_], _ => rfl
theorem hd_l_coarsest (X : K.In h) (G : h.Ns mainGlobals mg) (c : He.SaysD hdFa hdFn K) : Df K mg "_law_coarsest" s_l_coarsest ["_law_steps_so"] := df_of X G c 38 rfl rfl fun _ _ _ _ _ _ us hl => match us, hl with | [_], _ => rfl
theorem hd_l_finer (X : K.In h) (G : h.Ns mainGlobals mg) (c : He.SaysD hdFa hdFn K) : Df K mg "_law_finer" s_l_finer ["_law_one_so", "_law_two_so"] := df_of X G c 39 rfl rfl fun _ _ _ _ _ _ us hl => match us, hl with | [_, _], _ => rfl
theorem hd_l_all_tellings (X : K.In h) (G : h.Ns mainGlobals mg) (c : He.SaysD hdFa hdFn K) : Df K mg "_law_all_tellings" s_l_all_tellings ["_law_many_so"] := df_of X G c 40 rfl rfl fun _ _ _ _ _ _ us hl => match us, hl with | [_], _ => rfl
theorem hd_l_heard (X : K.In h) (G : h.Ns mainGlobals mg) (c : He.SaysD hdFa hdFn K) : Df K mg "_law_heard" s_l_heard ["_law_machine_so"] := df_of X G c 41 rfl rfl fun _ _ _ _ _ _ us hl => match us, hl with | [_], _ => rfl
theorem hd_l_spread (X : K.In h) (G : h.Ns mainGlobals mg) (c : He.SaysD hdFa hdFn K) : Df K mg "_law_spread" s_l_spread ["_law_telling_so", "_law_tokens_so"] := df_of X G c 42 rfl rfl fun _ _ _ _ _ _ us hl => match us, hl with | [_, _], _ => rfl
theorem hd_l_by_hand_right (X : K.In h) (G : h.Ns mainGlobals mg) (c : He.SaysD hdFa hdFn K) : Df K mg "_law_by_hand_right" s_l_by_hand_right [] := df_of X G c 43 rfl rfl fun _ _ _ _ _ _ us hl => match us, hl with | [], _ => rfl
theorem hd_l_order_right (X : K.In h) (G : h.Ns mainGlobals mg) (c : He.SaysD hdFa hdFn K) : Df K mg "_law_order_right" s_l_order_right ["_law_tin", "_law_all_so"] := df_of X G c 44 rfl rfl fun _ _ _ _ _ _ us hl => match us, hl with | [_, _], _ => rfl
theorem hd_l_words_right (X : K.In h) (G : h.Ns mainGlobals mg) (c : He.SaysD hdFa hdFn K) : Df K mg "_law_words_right" s_l_words_right ["_law_tin", "_law_telling_so"] := df_of X G c 45 rfl rfl fun _ _ _ _ _ _ us hl => match us, hl with | [_, _], _ => rfl
theorem hd_l_machine_right (X : K.In h) (G : h.Ns mainGlobals mg) (c : He.SaysD hdFa hdFn K) : Df K mg "_law_machine_right" s_l_machine_right ["_law_tin", "_law_letters_so", "_law_all_so"] := df_of X G c 46 rfl rfl fun _ _ _ _ _ _ us hl => match us, hl with | [_, _, _], _ => rfl
theorem hd_l_nearer (X : K.In h) (G : h.Ns mainGlobals mg) (c : He.SaysD hdFa hdFn K) : Df K mg "_law_nearer" s_l_nearer ["_law_steps_so", "_law_state_so", "_law_letter_so"] := df_of X G c 47 rfl rfl fun _ _ _ _ _ _ us hl => match us, hl with | [_, _, _], _ => rfl
theorem hd_l_right (X : K.In h) (G : h.Ns mainGlobals mg) (c : He.SaysD hdFa hdFn K) : Df K mg "_law_right" s_l_right ["_law_tin"] := df_of X G c 48 rfl rfl fun _ _ _ _ _ _ us hl => match us, hl with | [_], _ => rfl
theorem hd_Tx (X : K.In h) (G : h.Ns mainGlobals mg) (c : He.SaysD hdFa hdFn K) : Tx K mg where
  d_is_number := hd_is_number X G c
  d_tuple_of := hd_tuple_of X G c
  d_come_to := hd_come_to X G c
  d_kinds_of := hd_kinds_of X G c
  d_least_of := hd_least_of X G c
  d_least := hd_least X G c
  d_backs_of := hd_backs_of X G c
  d_leads_back := hd_leads_back X G c
  d_returns_machine := hd_returns_machine X G c
  d_tail_of := hd_tail_of X G c
  d_keeps_tails := hd_keeps_tails X G c
  d_is_telling := hd_is_telling X G c
  d_numbered := hd_numbered X G c
  d_tellings := hd_tellings X G c
  d_told := hd_told X G c
  d_letters_with := hd_letters_with X G c
  d_spread := hd_spread X G c
  d_stand_in := hd_stand_in X G c
  d_two := hd_two X G c
  d_is_finer := hd_is_finer X G c
  d_joined := hd_joined X G c
  d_met := hd_met X G c
  d_coarsest := hd_coarsest X G c
  d_good_tellings := hd_good_tellings X G c
  d_l_box := hd_l_box X G c
  d_l_take := hd_l_take X G c
  d_l_cells := hd_l_cells X G c
  d_l_of := hd_l_of X G c
  d_l_pick := hd_l_pick X G c
  d_l_lists := hd_l_lists X G c
  d_l_same := hd_l_same X G c
  d_l_machine := hd_l_machine X G c
  d_l_lot := hd_l_lot X G c
  d_l_go := hd_l_go X G c
  d_l_least := hd_l_least X G c
  d_l_tails := hd_l_tails X G c
  d_l_backs := hd_l_backs X G c
  d_l_numbered := hd_l_numbered X G c
  d_l_coarsest := hd_l_coarsest X G c
  d_l_finer := hd_l_finer X G c
  d_l_all_tellings := hd_l_all_tellings X G c
  d_l_heard := hd_l_heard X G c
  d_l_spread := hd_l_spread X G c
  d_l_by_hand_right := hd_l_by_hand_right X G c
  d_l_order_right := hd_l_order_right X G c
  d_l_words_right := hd_l_words_right X G c
  d_l_machine_right := hd_l_machine_right X G c
  d_l_nearer := hd_l_nearer X G c
  d_l_right := hd_l_right X G c
  b_isinstance := He.free_ok X G (c.fact 50 (f := .free "isinstance") rfl)
  b_int := He.free_ok X G (c.fact 51 (f := .free "int") rfl)
  b_bool := He.free_ok X G (c.fact 52 (f := .free "bool") rfl)
  b_list := He.free_ok X G (c.fact 53 (f := .free "list") rfl)
  b_tuple := He.free_ok X G (c.fact 54 (f := .free "tuple") rfl)
  b_dict := He.free_ok X G (c.fact 55 (f := .free "dict") rfl)
  b_set := He.free_ok X G (c.fact 56 (f := .free "set") rfl)
  b_sorted := He.free_ok X G (c.fact 57 (f := .free "sorted") rfl)
  b_len := He.free_ok X G (c.fact 58 (f := .free "len") rfl)
  b_enumerate := He.free_ok X G (c.fact 59 (f := .free "enumerate") rfl)
  b_range := He.free_ok X G (c.fact 60 (f := .free "range") rfl)
  b_all := He.free_ok X G (c.fact 61 (f := .free "all") rfl)
  b_any := He.free_ok X G (c.fact 62 (f := .free "any") rfl)
  b_max := He.free_ok X G (c.fact 63 (f := .free "max") rfl)
  b_min := He.free_ok X G (c.fact 64 (f := .free "min") rfl)
  b_abs := He.free_ok X G (c.fact 65 (f := .free "abs") rfl)
  b_zip := He.free_ok X G (c.fact 66 (f := .free "zip") rfl)
  b_str := He.free_ok X G (c.fact 67 (f := .free "str") rfl)
theorem hd_CnT (X : K.In h) (G : h.Ns mainGlobals mg) (c : He.SaysD hdFa hdFn K) (x : hdEx K = true) : CnT K mg (He.ga K "CanNot") := by
  unfold hdEx at x
  simp only [Bool.and_eq_true, decide_eq_true_eq] at x
  obtain ⟨x1, x2, x3, x4, x5, x6, x7, x8⟩ := x
  obtain ⟨e1, e2, e3, e4⟩ := He.exc_ok (c.fact 69 (f := .exc "CanNot") rfl)
  exact ⟨He.glo_ok X G (c.fact 68 (f := .glo "CanNot") rfl), e1, e2, e3, e4, He.exm_ok (c.fact 70 (f := .exm "CanNot" "CanNot" true) rfl), ⟨x1, x2, e3, x3, x4, x5, x6, x7⟩, x8, He.free_ok X G (c.fact 71 (f := .free "ValueError") rfl)⟩
theorem hd_law {P : Program} {w : World} {f : Addr} (X : K.In h) (G : h.Ns mainGlobals mg) (hfa : mg ("law" : Str) = some (.ref f)) (c : He.SaysD hdFa hdFn K) (x : hdEx K = true) :
    ∃ fd : FuncData, (∀ (s : Shared) (v : Value), BindsTo s fd ⟨[v], []⟩ [("_law_script", v)]) ∧ ∀ base : Heap, K.In base → base.Ns mainGlobals mg → FnOk P w K mg base CX0 13 f fd ["_law_script"] (spLaw K) := by
  obtain ⟨fd, F⟩ := c.def_ 49 (d := dD "law" s_law) rfl
  have e := hfa.symm.trans (He.glo_ok X G (c.fact 49 (f := .glo "law") rfl))
  cases e
  have b := FunD.bindsA (ps := ["_law_script"]) F fun _ _ _ _ _ _ us hl => match us, hl with | [_], _ => rfl
  obtain ⟨oc, od, dV, kV, doc, pm, an, cdv, ct, osl, e, l, cc, hd, _⟩ := F.ex
  rcases hd with ⟨_, e2⟩ | ⟨e2, _⟩
  · subst e2
    exact ⟨fd, fun s v => b s [v] rfl, fun base _ _ => ok_law ⟨⟨oc, od, kV, doc, pm, an, cdv, ct, osl, e, l, cc⟩, F.kp⟩ (hd_Tx X G c) (hd_CnT X G c x)⟩
  · exact absurd rfl e2
end
end GL
open PySem PySem.W PySem.Calls PyProof.Rows
theorem PySem.Challenge.cw_gonetold_k13_whole_tellings_and_the_coar_holds : PySem.Challenge.rw_gonetold_k13_whole_tellings_and_the_coar.Holds := by
  w_on; o_law
  refine HandSHeadRun.head_any (r := OpenLaw.row PySem.Challenge.rw_gonetold_k13_whole_tellings_and_the_coar) (q := view (OpenLaw.row PySem.Challenge.rw_gonetold_k13_whole_tellings_and_the_coar).prog [58]) (H := GL.hookM 5) (ob := GL.obM) (M := 4000) (loose := GL.hdNames) (d := HandSHeadRun.topDef (OpenLaw.row PySem.Challenge.rw_gonetold_k13_whole_tellings_and_the_coar).prog 58) (kwd := []) GL.obM_eq
    (by kernel_rfl) (fun s => by kernel_rfl) GL.hd_run (by kernel_rfl) (by kernel_rfl) (by kernel_rfl) (by rfl) (by first | assumption | decide +kernel) (by decide +kernel) ⟨rfl, rfl, rfl, rfl, rfl, by decide +kernel⟩ ?hw ?hc
  case hw => w_witness2
  case hc =>
    refine L2.walk_ofE (l := PySem.Challenge.rw_gonetold_k13_whole_tellings_and_the_coar) (n := 63) (k := 13) (x := "_law_script") (CX := L2.CX0) rfl (by decide) (by kernel_rfl) ⟨rfl, by decide, by decide⟩ ?F (fun _ _ _ _ z => z)
    intro w mg fa h Y G hmg0
    obtain ⟨K, KX, c, x⟩ := Y
    have hmg : mg ("law" : PySem.Str) = some (.ref fa) := by
      have e : (HandSHeadRun.topDef (OpenLaw.row PySem.Challenge.rw_gonetold_k13_whole_tellings_and_the_coar).prog 58).name = ("law" : PySem.Str) := by kernel_rfl
      rw [← e]
      exact hmg0
    obtain ⟨fd, hb, hF⟩ := GL.hd_law (P := (PySem.Challenge.rw_gonetold_k13_whole_tellings_and_the_coar).prog) (w := w) KX G hmg c x
    exact ⟨K, fd, GL.spLaw K, KX, hb, fun H a ns hl _ hS => ⟨a, ns, rfl, hS, hl, fun _ => rfl⟩, hF⟩
end
