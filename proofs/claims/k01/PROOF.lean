import PyProof.Rows.All
import Wide.All
import OpenK.AllK
import Wide.FinOn
import HandS.ForMost
import HandS.Lambda
import HandS.ExcInit
import HandS.ExcField
import HandS.IsInst
import KE.KeyNested
import HandS.Star
import HandS.Style
import HandS.Defaults
import HandS.WordsExc
import HandS.TupAny
import HandS.TupMul
import HandS.Deep
import HandS.SortInts
import HandS.SetFor
import HandS.Text
import HandS.Conv
import HandS.Zip
import HandS.ForDict
import KE.KExcSuper
import KE.GoesMore
import PyProof.P3Eq
import PyProof.Rows.SetFrom
import KE.KStateDown
import KE.KNestM
import HandS.Words
import HandS.Head0
import HandS.Head1
import HandS.Head2
import HandS.HeadEnd
import HandS.HeadHook1
import HandS.HeadHook2
import HandS.HeadHook3
import HandS.HeadHook4
import HandS.HeadWalk
import KE.KDictWalk
import KE.KDictDisplayH
import KE.SortKeyHeap
import HandS.SortKw
import KE.KTupSum
import PySem.Challenge.RW_pairrows_k01_whole_fillings
set_option Elab.async false
set_option linter.all false
set_option maxRecDepth 100000
set_option maxHeartbeats 1000000
/-! DL: values as plain data over the layer HandS -/
namespace DL
open PySem PySem.Spec PyProof.Rows L2
abbrev MG := Str → Option Value
/-! ### data -/
inductive D where
  | non
  | bl (b : Bool)
  | int (i : Int)
  | str (s : Str)
  | lst (l : List D)
  | tup (l : List D)
  | dct (l : List (Key × D))
  | fn (x : Str)
  | ty (x : String)
  | dice
  | dn (l : List ((Int × List Int) × D))

/-- the dice: a list of three ints, its count at most B -/
def DiceO (a : Addr) (B : Nat) : HO := .ext fun h => ∃ (o m c : Int) (t1 t2 t3 : Tok) (n : Nat), h.get? a = some { cls := .type "list", data := .seq #[.int o t1, .int m t2, .int c t3] n } ∧ 0 ≤ o ∧ 0 ≤ m ∧ m < 2147480009 ∧ 0 ≤ c ∧ c ≤ B
def Big : Nat := 1000000000
theorem dice_inj {a : Addr} {B B' : Nat} (ho : HO) (h1 : ho = DiceO a B) (h2 : ∃ xs, ho = .lst xs) : False := by
  obtain ⟨xs, e⟩ := h2
  rw [h1] at e
  unfold DiceO at e
  cases e
theorem dice_ne_lst {a : Addr} {B : Nat} {xs : List V} : DiceO a B ≠ .lst xs := fun z => by unfold DiceO at z; cases z
theorem dice_ne_tup {a : Addr} {B : Nat} {xs : List V} : DiceO a B ≠ .tup xs := fun z => by unfold DiceO at z; cases z
theorem dice_ne_dK {a : Addr} {B : Nat} {xs : List (Key × V)} : DiceO a B ≠ .dK xs := fun z => by unfold DiceO at z; cases z
theorem dice_ne_frz {a : Addr} {B : Nat} {o : Obj} {u : HO} : DiceO a B ≠ .frz o u := fun z => by unfold DiceO at z; cases z
theorem dice_ne_tbl {a : Addr} {B : Nat} {ps : Array Value} : DiceO a B ≠ .tbl ps := fun z => by unfold DiceO at z; cases z


/-! ### a dict whose keys are (int, ints) -/
abbrev NK := Int × List Int
abbrev NE := NK × Addr × Value
def nkHash (k : NK) : Int := reduceHash (Builtin.Tuple.tupleHashOf [hashInt k.1, reduceHash (Builtin.Tuple.tupleHashOf (k.2.map hashInt))])
def entN (x : NE) : DictEntry := ⟨nkHash x.1, .ref x.2.1, x.2.2⟩
def DnO (a : Addr) (xs : List NE) : HO := .ext fun h => xs.length ≤ sizeLine ∧ (a == sysModules) = false ∧ ∃ (o : Obj) (es : Array DictEntry) (ep : Nat), h.get? a = some o ∧ o.ExactDict ∧ o.data = .dict es ep ∧ es.toList = xs.map entN ∧ (xs.map (·.1)).Nodup
theorem hp_all (a : Addr) (o : Obj) (hn : (match o with | ⟨_, _, .freed, _⟩ => true | _ => false) = false) : ∃ h : Heap, h.get? a = some o ∧ ∀ b u, h.get? b = some u → u = o := by
  have nf : ∀ o' : Obj, o' = o → (match o' with | ⟨_, _, .freed, _⟩ => true | _ => false) = false := fun o' e => by rw [e]; exact hn
  refine ⟨({ objs := Array.replicate (a + 1) o } : Heap), ?_, fun b u e => ?_⟩
  · obtain ⟨c, d, dt, sl⟩ := o
    simp [Heap.get?]
    cases dt <;> first | rfl | cases hn | simp_all
  · obtain ⟨c, d, dt, sl⟩ := o
    simp only [Heap.get?] at e
    by_cases hb : b < a + 1
    · simp [hb] at e
      cases dt <;> first | exact (Option.some.inj e).symm | (cases e; rfl) | cases hn | simp_all
    · simp [hb] at e
theorem ext_inj0 {f g : Heap → Prop} (h : HO.ext f = HO.ext g) : f = g := by cases h; rfl
theorem dn_ne_dice {a b : Addr} {B : Nat} {xs : List NE} : DiceO a B ≠ DnO b xs := fun z => by
  unfold DiceO DnO at z
  have e := ext_inj0 z
  obtain ⟨h, hh, hall⟩ := hp_all a { cls := .type "list", data := .seq #[.int 0 0, .int 0 0, .int 0 0] 0 } rfl
  obtain ⟨_, _, o, es, ep, e1, e2, e3, _⟩ := (congrFun e h).mp ⟨0, 0, 0, 0, 0, 0, 0, hh, by omega, by omega, by omega, by omega, by omega⟩
  rw [hall _ _ e1] at e3
  cases e3
theorem dn_ne_code {b c : Addr} {q : Str} {xs : List NE} : DnO b xs ≠ LamX.CodeO c q := fun z => by
  unfold LamX.CodeO DnO at z
  have e := ext_inj0 z
  obtain ⟨h, hh, hall⟩ := hp_all c { cls := .none, data := .fields #[.none, .str q 0] } rfl
  obtain ⟨_, _, o, es, ep, e1, e2, e3, _⟩ := (congrFun e h).mpr ⟨_, _, 0, hh, rfl, rfl⟩
  rw [hall _ _ e1] at e3
  cases e3

/-! ### heaps that grow -/
abbrev TT0 := List (Addr × Str)
/-- neither a table nor a code object -/
structure Pl (o : HO) : Prop where
  nt : ∀ ps, o ≠ .tbl ps
  nc : ∀ c q, o ≠ LamX.CodeO c q
theorem pl_lst {xs : List V} : Pl (.lst xs) := ⟨(fun _ z => by cases z), (fun _ _ z => by unfold LamX.CodeO at z; cases z)⟩
theorem pl_dK {xs : List (Key × V)} : Pl (.dK xs) := ⟨(fun _ z => by cases z), (fun _ _ z => by unfold LamX.CodeO at z; cases z)⟩
theorem pl_dN {a : Addr} {xs : List NE} : Pl (DnO a xs) := ⟨(fun _ z => by unfold DnO at z; cases z), fun _ _ => dn_ne_code⟩
theorem pl_frz {o : Obj} {u : HO} : Pl (.frz o u) := ⟨(fun _ z => by cases z), (fun _ _ z => by unfold LamX.CodeO at z; cases z)⟩
/-- G is a part of H; tables and code objects are in it -/
structure Sub (G H : Hp) : Prop where
  at_ : ∀ b o, G b = some o → H b = some o
  hd : ∀ b o, H b = some o → G b = none → Pl o
instance {G H : Hp} : CoeFun (Sub G H) fun _ => ∀ b o, G b = some o → H b = some o := ⟨Sub.at_⟩
theorem Sub.refl (G : Hp) : Sub G G := ⟨fun _ _ h => h, fun b o h n => by rw [n] at h; cases h⟩
/-- neither dice nor a table -/
def Firm (o : HO) : Prop := (∀ a B, o ≠ DiceO a B) ∧ ∀ ps, o ≠ .tbl ps
theorem firm_lst {xs : List V} : Firm (.lst xs) := ⟨fun _ _ z => dice_ne_lst z.symm, fun _ z => by cases z⟩
theorem firm_tup {xs : List V} : Firm (.tup xs) := ⟨fun _ _ z => dice_ne_tup z.symm, fun _ z => by cases z⟩
theorem firm_dK {xs : List (Key × V)} : Firm (.dK xs) := ⟨fun _ _ z => dice_ne_dK z.symm, fun _ z => by cases z⟩
theorem firm_dN {a : Addr} {xs : List NE} : Firm (DnO a xs) := ⟨fun _ _ z => dn_ne_dice z.symm, fun _ z => by unfold DnO at z; cases z⟩
theorem firm_frz {o : Obj} {u : HO} : Firm (.frz o u) := ⟨fun _ _ z => dice_ne_frz z.symm, fun _ z => by cases z⟩
/-- all stays, but dice roll and tables grow -/
structure Le (T : TT0) (k : Nat) (G G' : Hp) : Prop where
  keep : ∀ b o, G b = some o → Firm o → G' b = some o
  roll : ∀ b B, G b = some (DiceO b B) → ∃ B', B' ≤ B + k ∧ G' b = some (DiceO b B')
  tabs : LamX.Tabs T G → LamX.Tabs T G'
theorem Le.refl (T : TT0) (G : Hp) : Le T 0 G G := ⟨fun _ _ h _ => h, fun _ B h => ⟨B, by omega, h⟩, fun h => h⟩
theorem Le.mono {T : TT0} {k k' : Nat} {G G' : Hp} (h : Le T k G G') (hk : k ≤ k') : Le T k' G G' :=
  ⟨h.keep, fun b B e => by
    obtain ⟨B', z, y⟩ := h.roll b B e
    exact ⟨B', by omega, y⟩, h.tabs⟩
theorem Le.trans {T : TT0} {k k' : Nat} {G G1 G2 : Hp} (h : Le T k G G1) (g : Le T k' G1 G2) : Le T (k + k') G G2 :=
  ⟨fun b o e f => g.keep b o (h.keep b o e f) f, fun b B e => by
    obtain ⟨B', z, y⟩ := h.roll b B e
    obtain ⟨C, w, x⟩ := g.roll b B' y
    exact ⟨C, by omega, x⟩, fun t => g.tabs (h.tabs t)⟩
theorem Le.same {T : TT0} {G G' : Hp} (h : Same G G') : Le T 0 G G' := ⟨fun b o e _ => h b o e, fun b B e => ⟨B, by omega, h b _ e⟩, fun t => t.ext h⟩
/-- a part G of the heap H grows, the rest of H stays and stays apart -/
structure Gw (T : TT0) (k : Nat) (G H G' H' : Hp) : Prop where
  sub : Sub G' H'
  le : Le T k G G'
  hid : ∀ b o, H b = some o → G b = none → H' b = some o
  new : ∀ b o, G' b = some o → G b = none → H b = none
theorem Gw.refl {T : TT0} {G H : Hp} (s : Sub G H) : Gw T 0 G H G H := ⟨s, .refl T G, fun _ _ h _ => h, fun b o h1 h2 => by rw [h2] at h1; cases h1⟩
theorem Gw.apart {T : TT0} {k : Nat} {G H G' H' : Hp} (g : Gw T k G H G' H') {b : Addr} {o : HO} (h : H b = some o) (n : G b = none) : G' b = none := by
  cases e : G' b with
  | none => rfl
  | some u =>
    have z := g.new b u e n
    rw [h] at z
    cases z
theorem Gw.trans {T : TT0} {k k' : Nat} {G H G1 H1 G2 H2 : Hp} (a : Gw T k G H G1 H1) (b : Gw T k' G1 H1 G2 H2) : Gw T (k + k') G H G2 H2 :=
  ⟨b.sub, a.le.trans b.le, fun c o h n => b.hid c o (a.hid c o h n) (a.apart h n), fun c o h n => by
    cases e : H c with
    | none => rfl
    | some u =>
      have n1 := a.apart e n
      have z := b.new c o h n1
      rw [a.hid c u e n] at z
      cases z⟩
theorem Gw.mono {T : TT0} {k k' : Nat} {G H G' H' : Hp} (h : Gw T k G H G' H') (hk : k ≤ k') : Gw T k' G H G' H' := ⟨h.sub, h.le.mono hk, h.hid, h.new⟩
/-- a new object -/
theorem Gw.alloc {T : TT0} {G H : Hp} {p : Addr} {o : HO} (s : Sub G H) (np : H p = none) : Gw T 0 G H (upd G p o) (upd H p o) := by
  have ng : G p = none := by
    cases e : G p with
    | none => rfl
    | some u =>
      rw [s p u e] at np
      cases np
  refine ⟨⟨fun b u e => ?_, fun b u e n => ?_⟩, .same fun b u e => ?_, fun b u e n => ?_, fun b u e n => ?_⟩
  · by_cases hb : b = p
    · subst hb
      rw [upd_same] at e ⊢
      exact e
    · rw [upd_ne hb] at e ⊢
      exact s b u e
  · by_cases hb : b = p
    · subst hb
      rw [upd_same] at n
      cases n
    · rw [upd_ne hb] at e n
      exact s.hd b u e n
  · rw [upd_ne (ne_of_none e ng)]
    exact e
  · rw [upd_ne (ne_of_none e np)]
    exact e
  · by_cases hb : b = p
    · rw [hb]
      exact np
    · rw [upd_ne hb, n] at e
      cases e

/-! ### what a value stands for -/
mutual
inductive Rep (K : PySem.W.Frag) (mg : MG) (G : Hp) (n : Nat) : V → D → Prop
  | non : Rep K mg G n .non .non
  | bl (b : Bool) : Rep K mg G n (.bl b) (.bl b)
  | int (i : Int) : Rep K mg G n (.int i) (.int i)
  | str (x : Str) : Rep K mg G n (.str x) (.str x)
  | lst {a : Addr} {xs : List V} {ds : List D} : SqL K G a xs → RepAll K mg G n xs ds → Rep K mg G n (.ref a) (.lst ds)
  | tup {a : Addr} {xs : List V} {ds : List D} : SqT K G a xs → RepAll K mg G n xs ds → Rep K mg G n (.ref a) (.tup ds)
  | dct {a : Addr} {kvs : List (Key × V)} {ds : List (Key × D)} : Rd G a (.dK kvs) → RepK K mg G n kvs ds → Rep K mg G n (.ref a) (.dct ds)
  | fn {x : Str} {f : Addr} : mg x = some (.ref f) → Rep K mg G n (.ref f) (.fn x)
  | ty (x : String) : Rep K mg G n (.ty x) (.ty x)
  | dice {a : Addr} {B : Nat} : G a = some (DiceO a B) → B + n ≤ Big → Rep K mg G n (.ref a) .dice
  | dn {a : Addr} {xs : List NE} {ds : List (NK × D)} : Rd G a (DnO a xs) → RepT K mg G n xs ds → Rep K mg G n (.ref a) (.dn ds)
inductive RepAll (K : PySem.W.Frag) (mg : MG) (G : Hp) (n : Nat) : List V → List D → Prop
  | nil : RepAll K mg G n [] []
  | cons {v : V} {vs : List V} {d : D} {ds : List D} : Rep K mg G n v d → RepAll K mg G n vs ds → RepAll K mg G n (v :: vs) (d :: ds)
inductive RepK (K : PySem.W.Frag) (mg : MG) (G : Hp) (n : Nat) : List (Key × V) → List (Key × D) → Prop
  | nil : RepK K mg G n [] []
  | cons {k : Key} {v : V} {vs : List (Key × V)} {d : D} {ds : List (Key × D)} : Rep K mg G n v d → RepK K mg G n vs ds → RepK K mg G n ((k, v) :: vs) ((k, d) :: ds)
inductive RepT (K : PySem.W.Frag) (mg : MG) (G : Hp) (n : Nat) : List NE → List (NK × D) → Prop
  | nil : RepT K mg G n [] []
  | cons {k : NK} {p b : Addr} {u : Value} {v : V} {vs : List NE} {d : D} {ds : List (NK × D)} : SqT K G p [.int k.1, .ref b] → SqT K G b (k.2.map V.int) → RelV v u → Rep K mg G n v d → RepT K mg G n vs ds → RepT K mg G n ((k, p, u) :: vs) ((k, d) :: ds)
end
section
variable {K : PySem.W.Frag} {mg : MG} {T : TT0} {k n n' : Nat} {G G' : Hp}
theorem rdL_le {a : Addr} {xs : List V} (g : Le T k G G') (h : Rd G a (.lst xs)) : Rd G' a (.lst xs) := by
  rcases h with h | ⟨o, h⟩
  · exact .inl (g.keep _ _ h firm_lst)
  · exact .inr ⟨o, g.keep _ _ h firm_frz⟩
theorem sqL_le {a : Addr} {xs : List V} (g : Le T k G G') (h : SqL K G a xs) : SqL K G' a xs := h.elim (fun h => .inl (rdL_le g h)) .inr
theorem sqT_le {a : Addr} {xs : List V} (g : Le T k G G') (h : SqT K G a xs) : SqT K G' a xs := by
  rcases h with (h | ⟨o, h⟩) | h
  · exact .inl (.inl (g.keep _ _ h firm_tup))
  · exact .inl (.inr ⟨o, g.keep _ _ h firm_frz⟩)
  · exact .inr h
theorem rdK_le {a : Addr} {xs : List (Key × V)} (g : Le T k G G') (h : Rd G a (.dK xs)) : Rd G' a (.dK xs) := by
  rcases h with h | ⟨o, h⟩
  · exact .inl (g.keep _ _ h firm_dK)
  · exact .inr ⟨o, g.keep _ _ h firm_frz⟩
theorem rdN_le {a : Addr} {xs : List NE} (g : Le T k G G') (h : Rd G a (DnO a xs)) : Rd G' a (DnO a xs) := by
  rcases h with h | ⟨o, h⟩
  · exact .inl (g.keep _ _ h firm_dN)
  · exact .inr ⟨o, g.keep _ _ h firm_frz⟩
mutual
theorem Rep.up (g : Le T k G G') (hn : n' + k ≤ n) : ∀ {v : V} {d : D}, Rep K mg G n v d → Rep K mg G' n' v d
  | _, _, .non => .non
  | _, _, .bl b => .bl b
  | _, _, .int i => .int i
  | _, _, .str x => .str x
  | _, _, .lst h a => .lst (sqL_le g h) (RepAll.up g hn a)
  | _, _, .tup h a => .tup (sqT_le g h) (RepAll.up g hn a)
  | _, _, .dct h a => .dct (rdK_le g h) (RepK.up g hn a)
  | _, _, .fn h => .fn h
  | _, _, .ty x => .ty x
  | _, _, .dice h hb => by
    obtain ⟨B', z, y⟩ := g.roll _ _ h
    exact .dice y (by omega)
  | _, _, .dn h a => .dn (rdN_le g h) (RepT.up g hn a)
theorem RepAll.up (g : Le T k G G') (hn : n' + k ≤ n) : ∀ {vs : List V} {ds : List D}, RepAll K mg G n vs ds → RepAll K mg G' n' vs ds
  | _, _, .nil => .nil
  | _, _, .cons a b => .cons (Rep.up g hn a) (RepAll.up g hn b)
theorem RepK.up (g : Le T k G G') (hn : n' + k ≤ n) : ∀ {vs : List (Key × V)} {ds : List (Key × D)}, RepK K mg G n vs ds → RepK K mg G' n' vs ds
  | _, _, .nil => .nil
  | _, _, .cons a b => .cons (Rep.up g hn a) (RepK.up g hn b)
theorem RepT.up (g : Le T k G G') (hn : n' + k ≤ n) : ∀ {vs : List NE} {ds : List (NK × D)}, RepT K mg G n vs ds → RepT K mg G' n' vs ds
  | _, _, .nil => .nil
  | _, _, .cons h1 h2 r a b => .cons (sqT_le g h1) (sqT_le g h2) r (Rep.up g hn a) (RepT.up g hn b)
end
theorem Rep.same (g : Same G G') {v : V} {d : D} (r : Rep K mg G n v d) : Rep K mg G' n v d := r.up (T := []) (k := 0) (Le.same g) (Nat.le_refl _)
theorem RepAll.same (g : Same G G') {v : List V} {d : List D} (r : RepAll K mg G n v d) : RepAll K mg G' n v d := r.up (T := []) (k := 0) (Le.same g) (Nat.le_refl _)
theorem RepK.same (g : Same G G') {v : List (Key × V)} {d : List (Key × D)} (r : RepK K mg G n v d) : RepK K mg G' n v d := r.up (T := []) (k := 0) (Le.same g) (Nat.le_refl _)
theorem RepT.same (g : Same G G') {v : List NE} {d : List (NK × D)} (r : RepT K mg G n v d) : RepT K mg G' n v d := r.up (T := []) (k := 0) (Le.same g) (Nat.le_refl _)
theorem Rep.fuel {v : V} {d : D} (r : Rep K mg G n v d) (h : n' ≤ n) : Rep K mg G n' v d := r.up (T := []) (k := 0) (Le.refl [] G) (by omega)
theorem RepAll.length : ∀ {vs : List V} {ds : List D}, RepAll K mg G n vs ds → vs.length = ds.length
  | _, _, .nil => rfl
  | _, _, .cons _ b => by rw [List.length_cons, List.length_cons, RepAll.length b]
theorem RepAll.get : ∀ {vs : List V} {ds : List D} {i : Nat} {d : D}, RepAll K mg G n vs ds → ds[i]? = some d → ∃ v, vs[i]? = some v ∧ Rep K mg G n v d
  | _, _, _, _, .nil, h => by simp at h
  | _, _, 0, _, .cons a _, h => by
    have e := Option.some.inj h
    subst e
    exact ⟨_, rfl, a⟩
  | _, _, i + 1, d, .cons _ b, h => by
    obtain ⟨v, h1, h2⟩ := RepAll.get (i := i) (d := d) b h
    exact ⟨v, h1, h2⟩
theorem RepAll.get' {vs : List V} {ds : List D} {i : Nat} {v : V} (r : RepAll K mg G n vs ds) (h : vs[i]? = some v) : ∃ d, ds[i]? = some d ∧ Rep K mg G n v d := by
  have hl : i < ds.length := by
    rw [← r.length]
    exact (List.getElem?_eq_some_iff.mp h).1
  obtain ⟨v', e, r'⟩ := r.get (List.getElem?_eq_getElem hl)
  rw [h] at e
  cases e
  exact ⟨_, List.getElem?_eq_getElem hl, r'⟩
theorem RepAll.append : ∀ {vs ws : List V} {ds es : List D}, RepAll K mg G n vs ds → RepAll K mg G n ws es → RepAll K mg G n (vs ++ ws) (ds ++ es)
  | _, _, _, _, .nil, h => h
  | _, _, _, _, .cons a b, h => .cons a (RepAll.append b h)
theorem RepAll.take : ∀ (i : Nat) {vs : List V} {ds : List D}, RepAll K mg G n vs ds → RepAll K mg G n (vs.take i) (ds.take i)
  | 0, _, _, _ => by simpa using RepAll.nil
  | i + 1, _, _, .nil => .nil
  | i + 1, _, _, .cons a b => .cons a (RepAll.take i b)
theorem RepAll.drop : ∀ (i : Nat) {vs : List V} {ds : List D}, RepAll K mg G n vs ds → RepAll K mg G n (vs.drop i) (ds.drop i)
  | 0, _, _, h => h
  | i + 1, _, _, .nil => .nil
  | i + 1, _, _, .cons a b => RepAll.drop i b
theorem RepAll.set {v : V} {d : D} (r : Rep K mg G n v d) : ∀ (i : Nat) {vs : List V} {ds : List D}, RepAll K mg G n vs ds → RepAll K mg G n (vs.set i v) (ds.set i d)
  | _, _, _, .nil => .nil
  | 0, _, _, .cons a b => .cons r b
  | i + 1, _, _, .cons a b => .cons a (RepAll.set r i b)
theorem RepAll.one {v : V} {d : D} (r : Rep K mg G n v d) : RepAll K mg G n [v] [d] := .cons r .nil
theorem RepAll.reverse : ∀ {vs : List V} {ds : List D}, RepAll K mg G n vs ds → RepAll K mg G n vs.reverse ds.reverse
  | _, _, .nil => .nil
  | _, _, .cons a b => by
    rw [List.reverse_cons, List.reverse_cons]
    exact (RepAll.reverse b).append (.one a)
theorem RepAll.ints : ∀ (l : List Int), RepAll K mg G n (l.map V.int) (l.map D.int)
  | [] => .nil
  | i :: l => .cons (.int i) (RepAll.ints l)
theorem RepAll.ints_inv : ∀ {vs : List V} {l : List Int}, RepAll K mg G n vs (l.map D.int) → vs = l.map V.int
  | _, [], .nil => rfl
  | _, i :: l, .cons a b => by
    cases a
    rw [RepAll.ints_inv b]
    rfl
end

/-! ### the state as data -/
/-- a slot: data; a list, a dict of the def's own (nobody else holds it) -/
inductive SV where
  | p (d : D)
  | ol (l : List D)
  | od (l : List (Key × D))
  | ot (l : List (NK × D))
structure DS where
  sl : List (Option SV)
  n : Nat
abbrev Exc := Str × Str × D
/-- the entry of a def -/
structure Ct where
  T : TT0
  G0 : Hp
  H0 : Hp
  n0 : Nat
  E : XK
  ED : Exc → Nat → Prop
def Owns (K : PySem.W.Frag) (mg : MG) (c : Ct) (G H : Hp) (n : Nat) (a : Addr) : SV → Prop
  | .p _ => False
  | .ol l => G a = none ∧ (c.G0 a = none → c.H0 a = none) ∧ ∃ xs, H a = some (.lst xs) ∧ RepAll K mg G n xs l
  | .od l => G a = none ∧ (c.G0 a = none → c.H0 a = none) ∧ ∃ kvs, H a = some (.dK kvs) ∧ RepK K mg G n kvs l
  | .ot l => G a = none ∧ (c.G0 a = none → c.H0 a = none) ∧ ∃ kvs, H a = some (DnO a kvs) ∧ RepT K mg G n kvs l
def SlotOk (K : PySem.W.Frag) (mg : MG) (c : Ct) (G H : Hp) (n : Nat) (v : Option (Option V)) : Option (Option SV) → Prop
  | some (some (.p d)) => ∃ x, v = some (some x) ∧ Rep K mg G n x d
  | some (some (.ol l)) => ∃ a, v = some (some (.ref a)) ∧ Owns K mg c G H n a (.ol l)
  | some (some (.od l)) => ∃ a, v = some (some (.ref a)) ∧ Owns K mg c G H n a (.od l)
  | some (some (.ot l)) => ∃ a, v = some (some (.ref a)) ∧ Owns K mg c G H n a (.ot l)
  | _ => True
def isOwn : Option (Option SV) → Prop
  | some (some (.ol _)) => True
  | some (some (.od _)) => True
  | some (some (.ot _)) => True
  | _ => False
structure Rp (c : Ct) (K : PySem.W.Frag) (mg : MG) (σ : List (Option V)) (G H : Hp) (S : DS) : Prop where
  sub : Sub G H
  nle : S.n ≤ c.n0
  le : Le c.T (c.n0 - S.n) c.G0 G
  hid : ∀ b o, c.H0 b = some o → c.G0 b = none → H b = some o ∧ G b = none
  new : ∀ b o, G b = some o → c.G0 b = none → c.H0 b = none
  tabs : LamX.Tabs c.T G
  len : σ.length = S.sl.length
  slots : ∀ i : Nat, SlotOk K mg c G H S.n σ[i]? S.sl[i]?
  apart : ∀ (i j : Nat) (a : Addr), i ≠ j → isOwn S.sl[i]? → isOwn S.sl[j]? → σ[i]? = some (some (.ref a)) → σ[j]? = some (some (.ref a)) → False
section
variable {c : Ct} {K : PySem.W.Frag} {mg : MG} {σ : List (Option V)} {G H G' H' : Hp} {S : DS} {k : Nat}
/-- what was tracked at the entry is tracked -/
theorem Rp.old (R : Rp c K mg σ G H S) {b : Addr} (n : H b = none) (g : c.G0 b = none) : c.H0 b = none := by
  cases e : c.H0 b with
  | none => rfl
  | some o =>
    have z := (R.hid b o e g).1
    rw [n] at z
    cases z
theorem Owns.up {k n n' : Nat} {a : Addr} {v : SV} (g : Gw c.T k G H G' H') (hn : n' + k ≤ n) (h : Owns K mg c G H n a v) : Owns K mg c G' H' n' a v := by
  cases v with
  | p d => exact h
  | ol l =>
    obtain ⟨h1, h2, xs, h3, h4⟩ := h
    exact ⟨g.apart h3 h1, h2, xs, g.hid _ _ h3 h1, h4.up g.le hn⟩
  | od l =>
    obtain ⟨h1, h2, xs, h3, h4⟩ := h
    exact ⟨g.apart h3 h1, h2, xs, g.hid _ _ h3 h1, h4.up g.le hn⟩
  | ot l =>
    obtain ⟨h1, h2, xs, h3, h4⟩ := h
    exact ⟨g.apart h3 h1, h2, xs, g.hid _ _ h3 h1, h4.up g.le hn⟩
theorem SlotOk.up {k n n' : Nat} {v : Option (Option V)} : ∀ {u : Option (Option SV)}, Gw c.T k G H G' H' → n' + k ≤ n → SlotOk K mg c G H n v u → SlotOk K mg c G' H' n' v u
  | some (some (.p d)), g, hn, ⟨x, e, r⟩ => ⟨x, e, r.up g.le hn⟩
  | some (some (.ol l)), g, hn, ⟨a, e, r⟩ => ⟨a, e, r.up g hn⟩
  | some (some (.od l)), g, hn, ⟨a, e, r⟩ => ⟨a, e, r.up g hn⟩
  | some (some (.ot l)), g, hn, ⟨a, e, r⟩ => ⟨a, e, r.up g hn⟩
  | some none, _, _, _ => True.intro
  | none, _, _, _ => True.intro
/-- the heap has grown -/
theorem Rp.gw (R : Rp c K mg σ G H S) (g : Gw c.T k G H G' H') (hk : k ≤ S.n) : Rp c K mg σ G' H' { S with n := S.n - k } := by
  refine ⟨g.sub, Nat.le_trans (Nat.sub_le _ _) R.nle, ?_, fun b o h1 h2 => ?_, fun b o h1 h2 => ?_, g.le.tabs R.tabs, R.len, fun i => (R.slots i).up g (by show S.n - k + k ≤ S.n; omega), R.apart⟩
  · have z := R.le.trans g.le
    have e : c.n0 - (S.n - k) = c.n0 - S.n + k := by
      have := R.nle
      omega
    show Le c.T (c.n0 - (S.n - k)) c.G0 G'
    rw [e]
    exact z
  · obtain ⟨h3, h4⟩ := R.hid b o h1 h2
    exact ⟨g.hid b o h3 h4, g.apart h3 h4⟩
  · cases e : G b with
    | some u => exact R.new b u e h2
    | none => exact R.old (g.new b o h1 e) h2
theorem Rp.gw0 (R : Rp c K mg σ G H S) (g : Gw c.T 0 G H G' H') : Rp c K mg σ G' H' S := R.gw g (Nat.zero_le _)
theorem Rp.alloc (R : Rp c K mg σ G H S) {p : Addr} {o : HO} (np : H p = none) : Rp c K mg σ (upd G p o) (upd H p o) S := R.gw0 (.alloc R.sub np)
theorem Rp.gnone (R : Rp c K mg σ G H S) {p : Addr} (np : H p = none) : G p = none := by
  cases e : G p with
  | none => rfl
  | some u =>
    rw [R.sub p u e] at np
    cases np
/-- a slot's data set -/
theorem Rp.set (R : Rp c K mg σ G H S) {i : Nat} {v : V} {d : D} (r : Rep K mg G S.n v d) : Rp c K mg (σ.set i (some v)) G H { S with sl := S.sl.set i (some (.p d)) } := by
  by_cases hi : i < S.sl.length
  case neg =>
    rw [List.set_eq_of_length_le (by rw [R.len]; omega)]
    have e : S.sl.set i (some (SV.p d)) = S.sl := List.set_eq_of_length_le (by omega)
    rw [e]
    exact R
  refine ⟨R.sub, R.nle, R.le, R.hid, R.new, R.tabs, by simp [R.len], fun j => ?_, fun j l a hjl h1 h2 h3 h4 => ?_⟩
  · by_cases hj : i = j
    · subst hj
      rw [List.getElem?_set_self (by rw [R.len]; exact hi), List.getElem?_set_self hi]
      exact ⟨v, rfl, r⟩
    · rw [List.getElem?_set_ne hj, List.getElem?_set_ne hj]
      exact R.slots j
  · have nj : i ≠ j := fun e => by
      subst e
      rw [List.getElem?_set_self hi] at h1
      exact h1
    have nl : i ≠ l := fun e => by
      subst e
      rw [List.getElem?_set_self hi] at h2
      exact h2
    rw [List.getElem?_set_ne nj] at h1 h3
    rw [List.getElem?_set_ne nl] at h2 h4
    exact R.apart j l a hjl h1 h2 h3 h4
/-- a slot forgotten -/
theorem Rp.drop (R : Rp c K mg σ G H S) (i : Nat) (w : Option V) : Rp c K mg (σ.set i w) G H { S with sl := S.sl.set i none } := by
  refine ⟨R.sub, R.nle, R.le, R.hid, R.new, R.tabs, by simp [R.len], fun j => ?_, fun j l a hjl h1 h2 h3 h4 => ?_⟩
  · by_cases hj : i = j
    · subst hj
      by_cases hi : i < S.sl.length
      · show SlotOk K mg c G H S.n _ (S.sl.set i none)[i]?
        rw [List.getElem?_set_self hi]
        exact True.intro
      · show SlotOk K mg c G H S.n _ (S.sl.set i none)[i]?
        rw [show (S.sl.set i none)[i]? = none from List.getElem?_eq_none (by simpa using hi)]
        exact True.intro
    · rw [List.getElem?_set_ne hj, List.getElem?_set_ne hj]
      exact R.slots j
  · have nn : ∀ q, isOwn (S.sl.set i none)[q]? → i ≠ q := fun q h e => by
      subst e
      by_cases hi : i < S.sl.length
      · rw [List.getElem?_set_self hi] at h
        exact h
      · rw [List.getElem?_eq_none (by simpa using hi)] at h
        exact h
    have nj := nn j h1
    have nl := nn l h2
    rw [List.getElem?_set_ne nj] at h1 h3
    rw [List.getElem?_set_ne nl] at h2 h4
    exact R.apart j l a hjl h1 h2 h3 h4
/-- a new object apart -/
theorem Rp.hide (R : Rp c K mg σ G H S) {p : Addr} {o : HO} (np : H p = none) (po : Pl o) : Rp c K mg σ G (upd H p o) S := by
  refine ⟨⟨fun b w e => ?_, fun b w e n => ?_⟩, R.nle, R.le, fun b w h1 h2 => ?_, R.new, R.tabs, R.len, fun j => ?_, R.apart⟩
  · rw [upd_ne (ne_of_none (R.sub b w e) np)]
    exact R.sub b w e
  · by_cases hb : b = p
    · subst hb
      rw [upd_same] at e
      cases e
      exact po
    · rw [upd_ne hb] at e
      exact R.sub.hd b w e n
  · obtain ⟨h3, h4⟩ := R.hid b w h1 h2
    exact ⟨by rw [upd_ne (ne_of_none h3 np)]; exact h3, h4⟩
  · have sj := R.slots j
    cases hq : S.sl[j]? with
    | none => exact True.intro
    | some w =>
      cases w with
      | none => exact True.intro
      | some w =>
        rw [hq] at sj
        cases w with
        | p d => exact sj
        | ol l =>
          obtain ⟨a', e', h1, h2, xs, h3, h4⟩ := sj
          exact ⟨a', e', h1, h2, xs, by rw [upd_ne (ne_of_none h3 np)]; exact h3, h4⟩
        | od l =>
          obtain ⟨a', e', h1, h2, xs, h3, h4⟩ := sj
          exact ⟨a', e', h1, h2, xs, by rw [upd_ne (ne_of_none h3 np)]; exact h3, h4⟩
        | ot l =>
          obtain ⟨a', e', h1, h2, xs, h3, h4⟩ := sj
          exact ⟨a', e', h1, h2, xs, by rw [upd_ne (ne_of_none h3 np)]; exact h3, h4⟩
/-- an object apart comes into a slot -/
theorem Rp.take (R : Rp c K mg σ G H S) {i : Nat} {p : Addr} {u : SV} (lo : ∀ j : Nat, isOwn S.sl[j]? → σ[j]? ≠ some (some (V.ref p))) (ho : Owns K mg c G H S.n p u) (hu : ∀ d, u ≠ .p d) : Rp c K mg (σ.set i (some (.ref p))) G H { S with sl := S.sl.set i (some u) } := by
  by_cases hi : i < S.sl.length
  case neg =>
    rw [List.set_eq_of_length_le (by rw [R.len]; omega)]
    have e : S.sl.set i (some u) = S.sl := List.set_eq_of_length_le (by omega)
    rw [e]
    exact R
  refine ⟨R.sub, R.nle, R.le, R.hid, R.new, R.tabs, by simp [R.len], fun j => ?_, fun j l a hjl h1 h2 h3 h4 => ?_⟩
  · by_cases hj : i = j
    · subst hj
      rw [List.getElem?_set_self (by rw [R.len]; exact hi), List.getElem?_set_self hi]
      cases u with
      | p d => exact absurd rfl (hu d)
      | ol l => exact ⟨p, rfl, ho⟩
      | od l => exact ⟨p, rfl, ho⟩
      | ot l => exact ⟨p, rfl, ho⟩
    · rw [List.getElem?_set_ne hj, List.getElem?_set_ne hj]
      exact R.slots j
  · by_cases hj : i = j
    · subst hj
      rw [List.getElem?_set_self (by rw [R.len]; exact hi)] at h3
      cases h3
      rw [List.getElem?_set_ne hjl] at h2 h4
      exact lo l h2 h4
    · rw [List.getElem?_set_ne hj] at h1 h3
      by_cases hl : i = l
      · subst hl
        rw [List.getElem?_set_self (by rw [R.len]; exact hi)] at h4
        cases h4
        exact lo j h1 h3
      · rw [List.getElem?_set_ne hl] at h2 h4
        exact R.apart j l a hjl h1 h2 h3 h4
theorem Owns.pl {p : Addr} {o : HO} {u : SV} {n : Nat} (ho : ∀ H2 : Hp, H2 p = some o → Owns K mg c G H2 n p u) (hu : ∀ d, u ≠ .p d) : Pl o := by
  have z := ho (fun _ => some o) rfl
  cases u with
  | p d => exact absurd rfl (hu d)
  | ol l =>
    obtain ⟨_, _, xs, e, _⟩ := z
    cases e
    exact pl_lst
  | od l =>
    obtain ⟨_, _, xs, e, _⟩ := z
    cases e
    exact pl_dK
  | ot l =>
    obtain ⟨_, _, xs, e, _⟩ := z
    have e' : o = DnO p xs := Option.some.inj e
    rw [e']
    exact pl_dN
/-- an object of one's own written -/
theorem Rp.put (R : Rp c K mg σ G H S) {i : Nat} {a : Addr} {o : HO} {u u' : SV} (hs : S.sl[i]? = some (some u)) (hu : ∀ d, u ≠ .p d) (hu' : ∀ d, u' ≠ .p d) (hσ : σ[i]? = some (some (.ref a)))
    (ho : ∀ H' : Hp, H' a = some o → Owns K mg c G H' S.n a u') : Rp c K mg σ G (upd H a o) { S with sl := S.sl.set i (some u') } := by
  have hi : i < S.sl.length := (List.getElem?_eq_some_iff.mp hs).1
  have own : ∃ w, G a = none ∧ (c.G0 a = none → c.H0 a = none) ∧ H a = some w := by
    have z := R.slots i
    rw [hs] at z
    cases u with
    | p d => exact absurd rfl (hu d)
    | ol l =>
      obtain ⟨a', e', h1, h2, xs, h3, h4⟩ := z
      rw [hσ] at e'
      cases e'
      exact ⟨_, h1, h2, h3⟩
    | od l =>
      obtain ⟨a', e', h1, h2, xs, h3, h4⟩ := z
      rw [hσ] at e'
      cases e'
      exact ⟨_, h1, h2, h3⟩
    | ot l =>
      obtain ⟨a', e', h1, h2, xs, h3, h4⟩ := z
      rw [hσ] at e'
      cases e'
      exact ⟨_, h1, h2, h3⟩
  obtain ⟨w, g1, g2, g3⟩ := own
  have isO : isOwn S.sl[i]? := by
    rw [hs]
    cases u with
    | p d => exact absurd rfl (hu d)
    | ol l => exact True.intro
    | od l => exact True.intro
    | ot l => exact True.intro
  have ne : ∀ {j a'}, i ≠ j → isOwn S.sl[j]? → σ[j]? = some (some (V.ref a')) → a' ≠ a := fun {j a'} hj h e z => by
    subst z
    exact R.apart i j _ hj isO h hσ e
  refine ⟨⟨fun b w e => ?_, fun b w e n => ?_⟩, R.nle, R.le, fun b w h1 h2 => ?_, R.new, R.tabs, by simp [R.len], fun j => ?_, fun j l b hjl h1 h2 h3 h4 => ?_⟩
  · rw [upd_ne (ne_of_none e g1)]
    exact R.sub b w e
  · by_cases hb : b = a
    · subst hb
      rw [upd_same] at e
      cases e
      exact Owns.pl ho hu'
    · rw [upd_ne hb] at e
      exact R.sub.hd b w e n
  · obtain ⟨h3, h4⟩ := R.hid b w h1 h2
    exact ⟨by rw [upd_ne (fun z => by subst z; have z2 := g2 h2; rw [h1] at z2; cases z2)]; exact h3, h4⟩
  · by_cases hj : i = j
    · subst hj
      rw [List.getElem?_set_self hi]
      have z := ho (upd H a o) upd_same
      cases u' with
      | p d => exact absurd rfl (hu' d)
      | ol l => exact ⟨a, hσ, z⟩
      | od l => exact ⟨a, hσ, z⟩
      | ot l => exact ⟨a, hσ, z⟩
    · rw [List.getElem?_set_ne hj]
      have sj := R.slots j
      cases hq : S.sl[j]? with
      | none => exact True.intro
      | some w =>
        cases w with
        | none => exact True.intro
        | some w =>
          rw [hq] at sj
          cases w with
          | p d => exact sj
          | ol l =>
            obtain ⟨a', e', h1, h2, xs, h3, h4⟩ := sj
            exact ⟨a', e', h1, h2, xs, by rw [upd_ne (ne hj (by rw [hq]; exact True.intro) e')]; exact h3, h4⟩
          | od l =>
            obtain ⟨a', e', h1, h2, xs, h3, h4⟩ := sj
            exact ⟨a', e', h1, h2, xs, by rw [upd_ne (ne hj (by rw [hq]; exact True.intro) e')]; exact h3, h4⟩
          | ot l =>
            obtain ⟨a', e', h1, h2, xs, h3, h4⟩ := sj
            exact ⟨a', e', h1, h2, xs, by rw [upd_ne (ne hj (by rw [hq]; exact True.intro) e')]; exact h3, h4⟩
  · have key : ∀ {q}, isOwn (S.sl.set i (some u'))[q]? → isOwn S.sl[q]? := fun {q} h => by
      by_cases hq : i = q
      · rw [← hq]
        exact isO
      · rw [List.getElem?_set_ne hq] at h
        exact h
    exact R.apart j l b hjl (key h1) (key h2) h3 h4
def frozen : SV → D
  | .p d => d
  | .ol l => .lst l
  | .od l => .dct l
  | .ot l => .dn l
def froz (S : DS) (i : Nat) (d : D) : DS := { S with sl := S.sl.set i (some (.p d)) }
/-- a slot's own object is owned no more: data from now on -/
theorem Rp.freeze (R : Rp c K mg σ G H S) {i : Nat} {u : SV} (hs : S.sl[i]? = some (some u)) :
    ∃ G' v, Le c.T 0 G G' ∧ σ[i]? = some (some v) ∧ Rep K mg G' S.n v (frozen u) ∧ Rp c K mg σ G' H (froz S i (frozen u)) ∧ ∀ b o, H b = some o → G b = none → (∀ i : Nat, isOwn S.sl[i]? → σ[i]? ≠ some (some (V.ref b))) → G' b = none := by
  have hi : i < S.sl.length := (List.getElem?_eq_some_iff.mp hs).1
  have sl := R.slots i
  rw [hs] at sl
  have main : ∀ (a : Addr) (o : HO), G a = none → (c.G0 a = none → c.H0 a = none) → H a = some o → σ[i]? = some (some (V.ref a)) → isOwn S.sl[i]? → (∀ G' : Hp, Same G G' → G' a = some o → Rep K mg G' S.n (V.ref a) (frozen u)) →
      ∃ G' v, Le c.T 0 G G' ∧ σ[i]? = some (some v) ∧ Rep K mg G' S.n v (frozen u) ∧ Rp c K mg σ G' H (froz S i (frozen u)) ∧ ∀ b o, H b = some o → G b = none → (∀ i : Nat, isOwn S.sl[i]? → σ[i]? ≠ some (some (V.ref b))) → G' b = none := by
    intro a o g1 g2 g3 hσ isO hr
    have sm : Same G (upd G a o) := fun b w e => by
      rw [upd_ne (ne_of_none e g1)]
      exact e
    have r := hr (upd G a o) sm upd_same
    refine ⟨upd G a o, .ref a, .same sm, hσ, r, ⟨⟨fun b w e => ?_, fun b w e n => ?_⟩, R.nle, ?_, fun b w h1 h2 => ?_, fun b w h1 h2 => ?_, (Le.same (T := c.T) sm).tabs R.tabs, by simp [froz, R.len], fun j => ?_, fun j l b hjl h1 h2 h3 h4 => ?_⟩, fun b w h n l => ?_⟩
    · by_cases hb : b = a
      · subst hb
        rw [upd_same] at e
        cases e
        exact g3
      · rw [upd_ne hb] at e
        exact R.sub b w e
    · by_cases hb : b = a
      · subst hb
        rw [upd_same] at n
        cases n
      · rw [upd_ne hb] at n
        exact R.sub.hd b w e n
    · have z := R.le.trans (Le.same (T := c.T) sm)
      exact z.mono (by show c.n0 - S.n + 0 ≤ c.n0 - S.n; omega)
    · obtain ⟨h3, h4⟩ := R.hid b w h1 h2
      refine ⟨h3, ?_⟩
      rw [upd_ne (fun z => by subst z; have z2 := g2 h2; rw [h1] at z2; cases z2)]
      exact h4
    · by_cases hb : b = a
      · rw [hb] at h2 ⊢
        exact g2 h2
      · rw [upd_ne hb] at h1
        exact R.new b w h1 h2
    · show SlotOk K mg c (upd G a o) H S.n σ[j]? (S.sl.set i (some (.p (frozen u))))[j]?
      by_cases hj : i = j
      · subst hj
        rw [List.getElem?_set_self hi]
        exact ⟨.ref a, hσ, r⟩
      · rw [List.getElem?_set_ne hj]
        have sj := R.slots j
        cases hq : S.sl[j]? with
        | none => exact True.intro
        | some w =>
          cases w with
          | none => exact True.intro
          | some w =>
            rw [hq] at sj
            cases w with
            | p d =>
              obtain ⟨x, e, rr⟩ := sj
              exact ⟨x, e, rr.same sm⟩
            | ol l =>
              obtain ⟨a', e', h1, h2, xs, h3, h4⟩ := sj
              have ne : a' ≠ a := fun z => by
                subst z
                exact R.apart i j _ hj isO (by rw [hq]; exact True.intro) hσ e'
              exact ⟨a', e', by rw [upd_ne ne]; exact h1, h2, xs, h3, h4.same sm⟩
            | od l =>
              obtain ⟨a', e', h1, h2, xs, h3, h4⟩ := sj
              have ne : a' ≠ a := fun z => by
                subst z
                exact R.apart i j _ hj isO (by rw [hq]; exact True.intro) hσ e'
              exact ⟨a', e', by rw [upd_ne ne]; exact h1, h2, xs, h3, h4.same sm⟩
            | ot l =>
              obtain ⟨a', e', h1, h2, xs, h3, h4⟩ := sj
              have ne : a' ≠ a := fun z => by
                subst z
                exact R.apart i j _ hj isO (by rw [hq]; exact True.intro) hσ e'
              exact ⟨a', e', by rw [upd_ne ne]; exact h1, h2, xs, h3, h4.same sm⟩
    · have key : ∀ {q}, isOwn (S.sl.set i (some (SV.p (frozen u))))[q]? → isOwn S.sl[q]? := fun {q} h => by
        by_cases hq : i = q
        · rw [← hq]
          exact isO
        · rw [List.getElem?_set_ne hq] at h
          exact h
      exact R.apart j l b hjl (key h1) (key h2) h3 h4
    · have ne : b ≠ a := fun z => by
        subst z
        exact l i isO hσ
      rw [upd_ne ne]
      exact n
  cases u with
  | p d =>
    obtain ⟨x, e, r⟩ := sl
    refine ⟨G, x, .refl _ _, e, r, ?_⟩
    have es : froz S i (frozen (.p d)) = S := by
      have e2 : S.sl.set i (some (SV.p d)) = S.sl := by
        apply List.ext_getElem?
        intro j
        by_cases hj : i = j
        · subst hj
          rw [List.getElem?_set_self hi, hs]
        · rw [List.getElem?_set_ne hj]
      show ({ S with sl := S.sl.set i (some (SV.p d)) } : DS) = S
      rw [e2]
    rw [es]
    exact ⟨R, fun _ _ _ n _ => n⟩
  | ol l =>
    obtain ⟨a, e, h1, h2, xs, h3, h4⟩ := sl
    exact main a _ h1 h2 h3 e (by rw [hs]; exact True.intro) fun G' sm e' => .lst (.inl (.inl e')) (h4.same sm)
  | od l =>
    obtain ⟨a, e, h1, h2, xs, h3, h4⟩ := sl
    exact main a _ h1 h2 h3 e (by rw [hs]; exact True.intro) fun G' sm e' => .dct (.inl e') (h4.same sm)
  | ot l =>
    obtain ⟨a, e, h1, h2, xs, h3, h4⟩ := sl
    exact main a _ h1 h2 h3 e (by rw [hs]; exact True.intro) fun G' sm e' => .dn (.inl e') (h4.same sm)
end
end DL
set_option maxHeartbeats 1000000
namespace DL
open PySem PySem.Spec PyProof.Rows L2
abbrev Sig := List (Option V)
/-! ### judgements -/
abbrev DE := DS → (D → DS → Prop) → Prop
abbrev DT := DS → (Bool → DS → Prop) → Prop
abbrev DA := DS → (List D → DS → Prop) → Prop
structure DEnds where
  nx : DS → Prop
  rt : D → DS → Prop
  bk : DS → Prop := fun _ => False
  ct : DS → Prop := fun _ => False
abbrev DSt := DEnds → DS → Prop
abbrev DG := D → DS → (DS → Prop) → Prop
/-- behind an evaluation from (G, S) -/
def Loose (σ : Sig) (S : DS) (b : Addr) : Prop := ∀ i : Nat, isOwn S.sl[i]? → σ[i]? ≠ some (some (V.ref b))
structure Aft (c : Ct) (K : PySem.W.Frag) (mg : MG) (σ : Sig) (G H : Hp) (S : DS) (H' : Hp) (G' : Hp) (S' : DS) : Prop where
  le : Le c.T (S.n - S'.n) G G'
  nle : S'.n ≤ S.n
  rp : Rp c K mg σ G' H' S'
  hid : ∀ b o, H b = some o → G b = none → Loose σ S b → H' b = some o ∧ G' b = none ∧ Loose σ S' b
def WE (c : Ct) (K : PySem.W.Frag) (mg : MG) (σ : Sig) (G H : Hp) (S : DS) (Qd : D → DS → Prop) : VK := fun v H' => ∃ G' S' d, Aft c K mg σ G H S H' G' S' ∧ Rep K mg G' S'.n v d ∧ Qd d S'
def WT (c : Ct) (K : PySem.W.Frag) (mg : MG) (σ : Sig) (G H : Hp) (S : DS) (Qd : Bool → DS → Prop) : Bool → Hp → Prop := fun b H' => ∃ G' S', Aft c K mg σ G H S H' G' S' ∧ Qd b S'
def WA (c : Ct) (K : PySem.W.Frag) (mg : MG) (σ : Sig) (G H : Hp) (S : DS) (Qd : List D → DS → Prop) : List V → Hp → Prop := fun vs H' => ∃ G' S' ds, Aft c K mg σ G H S H' G' S' ∧ RepAll K mg G' S'.n vs ds ∧ Qd ds S'
def WN (c : Ct) (K : PySem.W.Frag) (mg : MG) (G : Hp) (n : Nat) (Qd : DS → Prop) : Sig → Hp → Prop := fun σ' H' => ∃ G' S', Rp c K mg σ' G' H' S' ∧ Le c.T (n - S'.n) G G' ∧ S'.n ≤ n ∧ Qd S'
def WR (c : Ct) (K : PySem.W.Frag) (mg : MG) (Qd : D → DS → Prop) : VK := fun v H' => ∃ σ' G' S' d, Rp c K mg σ' G' H' S' ∧ Rep K mg G' S'.n v d ∧ Qd d S'
def SimE (c : Ct) (K : PySem.W.Frag) (mg : MG) (te : TE) (de : DE) : Prop := ∀ σ G H S Qd Q, Rp c K mg σ G H S → (∀ v H', WE c K mg σ G H S Qd v H' → Q v H') → de S Qd → te σ H Q
def SimT (c : Ct) (K : PySem.W.Frag) (mg : MG) (te : TT) (de : DT) : Prop := ∀ σ G H S Qd Q, Rp c K mg σ G H S → (∀ v H', WT c K mg σ G H S Qd v H' → Q v H') → de S Qd → te σ H Q
def SimA (c : Ct) (K : PySem.W.Frag) (mg : MG) (te : TA) (de : DA) : Prop := ∀ σ G H S Qd Q, Rp c K mg σ G H S → (∀ v H', WA c K mg σ G H S Qd v H' → Q v H') → de S Qd → te σ H Q
def SimS (c : Ct) (K : PySem.W.Frag) (mg : MG) (t : TS) (ds : DSt) : Prop := ∀ σ G H S (B : DEnds) (E : Ends), Rp c K mg σ G H S →
  (∀ σ' H', WN c K mg G S.n B.nx σ' H' → E.nx σ' H') → (∀ v H', WR c K mg B.rt v H' → E.rt v H') → (∀ σ' H', WN c K mg G S.n B.bk σ' H' → E.bk σ' H') → (∀ σ' H', WN c K mg G S.n B.ct σ' H' → E.ct σ' H') → ds B S → t E σ H
def SimG (c : Ct) (K : PySem.W.Frag) (mg : MG) (t : TG) (g : DG) : Prop := ∀ σ G H S v d Qd (Q : Sig → Hp → Prop), Rp c K mg σ G H S → Rep K mg G S.n v d → (∀ σ' H', (∃ G' S', Rp c K mg σ' G' H' S' ∧ Le c.T (S.n - S'.n) G G' ∧ S'.n ≤ S.n ∧ Qd S') → Q σ' H') → g d S Qd → t v σ H Q
def PDE (c : Ct) (X : Cx) (e : Expr) (de : DE) : Prop := ∃ te, PE X e te ∧ SimE c X.K X.mg te de
def PDT (c : Ct) (X : Cx) (e : Expr) (de : DT) : Prop := ∃ te, PT X e te ∧ SimT c X.K X.mg te de
def PDW (c : Ct) (X : Cx) (e : Expr) (de : DT) : Prop := ∃ te, PW X e te ∧ SimT c X.K X.mg te de
def PDA (c : Ct) (X : Cx) (es : List Expr) (de : DA) : Prop := ∃ te, PA X es te ∧ SimA c X.K X.mg te de
def PDS (c : Ct) (X : Cx) (st : Stmt) (ds : DSt) : Prop := ∃ t, PS X st t ∧ SimS c X.K X.mg t ds
def PDSs (c : Ct) (X : Cx) (st : List Stmt) (ds : DSt) : Prop := ∃ t, PSs X st t ∧ SimS c X.K X.mg t ds
def PDG (c : Ct) (X : Cx) (tg : Expr) (g : DG) : Prop := ∃ t, PG X tg t ∧ SimG c X.K X.mg t g
section
variable {c : Ct} {K : PySem.W.Frag} {mg : MG} {σ : Sig} {G H H' G' G1 H1 : Hp} {S S1 S' : DS}
theorem Aft.refl (R : Rp c K mg σ G H S) : Aft c K mg σ G H S H G S := ⟨by rw [Nat.sub_self]; exact .refl _ _, Nat.le_refl _, R, fun _ _ h n l => ⟨h, n, l⟩⟩
theorem Aft.trans (a : Aft c K mg σ G H S H1 G1 S1) (b : Aft c K mg σ G1 H1 S1 H' G' S') : Aft c K mg σ G H S H' G' S' :=
  ⟨by
    have z := a.le.trans b.le
    have h1 := a.nle
    have h2 := b.nle
    have e : S.n - S1.n + (S1.n - S'.n) = S.n - S'.n := by omega
    rw [e] at z
    exact z, Nat.le_trans b.nle a.nle, b.rp, fun q o h n l => by
    obtain ⟨h1, n1, l1⟩ := a.hid q o h n l
    exact b.hid q o h1 n1 l1⟩
theorem Aft.rep (a : Aft c K mg σ G H S H1 G1 S1) {v : V} {d : D} (r : Rep K mg G S.n v d) : Rep K mg G1 S1.n v d := r.up a.le (by have := a.nle; omega)
theorem Aft.repAll (a : Aft c K mg σ G H S H1 G1 S1) {v : List V} {d : List D} (r : RepAll K mg G S.n v d) : RepAll K mg G1 S1.n v d := r.up a.le (by have := a.nle; omega)
theorem Aft.gw {k : Nat} (R : Rp c K mg σ G H S) (g : Gw c.T k G H G' H') (hk : k ≤ S.n) : Aft c K mg σ G H S H' G' { S with n := S.n - k } :=
  ⟨by
    have e : S.n - (S.n - k) = k := by omega
    show Le c.T (S.n - (S.n - k)) G G'
    rw [e]
    exact g.le, Nat.sub_le _ _, R.gw g hk, fun q o h n l => ⟨g.hid q o h n, g.apart h n, l⟩⟩
theorem le_trans' {T : TT0} {n n1 n2 : Nat} {G G1 G2 : Hp} (a : Le T (n - n1) G G1) (h1 : n1 ≤ n) (b : Le T (n1 - n2) G1 G2) (h2 : n2 ≤ n1) : Le T (n - n2) G G2 := by
  have z := a.trans b
  have e : n - n1 + (n1 - n2) = n - n2 := by omega
  rw [e] at z
  exact z
theorem WN.of {n n1 : Nat} {Qd : DS → Prop} (a : Le c.T (n - n1) G G1) (h1 : n1 ≤ n) {σ' : Sig} (h : WN c K mg G1 n1 Qd σ' H') : WN c K mg G n Qd σ' H' := by
  obtain ⟨G', S', R, l, hn, q⟩ := h
  exact ⟨G', S', R, le_trans' a h1 l hn, Nat.le_trans hn h1, q⟩
theorem Aft.gw0 (R : Rp c K mg σ G H S) (g : Gw c.T 0 G H G' H') : Aft c K mg σ G H S H' G' S := Aft.gw (k := 0) R g (Nat.zero_le _)
end
/-! ### names, constants -/
def dVar (i : Nat) : DE := fun S Q => match S.sl[i]? with
  | some (some (.p d)) => Q d S
  | some (some (.ol l)) => Q (.lst l) (froz S i (.lst l))
  | some (some (.od l)) => Q (.dct l) (froz S i (.dct l))
  | some (some (.ot l)) => Q (.dn l) (froz S i (.dn l))
  | _ => False
def dC (d : D) : DE := fun S Q => Q d S
section
variable {c : Ct} {X : Cx}
theorem simVar {K : PySem.W.Frag} {mg : MG} (i : Nat) : SimE c K mg (tVar i) (dVar i) := by
  intro σ G H S Qd Q R hQ h
  unfold dVar at h
  cases hs : S.sl[i]? with
  | none => rw [hs] at h; exact h.elim
  | some w =>
    cases w with
    | none => rw [hs] at h; exact h.elim
    | some w =>
      rw [hs] at h
      obtain ⟨G', v, g, e, r, R', hg⟩ := R.freeze hs
      have a : Aft c K mg σ G H S H G' (froz S i (frozen w)) := by
       refine ⟨by show Le c.T (S.n - S.n) G G'; rw [Nat.sub_self]; exact g, Nat.le_refl _, R', fun b o h n l => ?_⟩
       have lo : Loose σ (froz S i (frozen w)) b := fun j hj => l j (by
         by_cases e2 : i = j
         · subst e2
           have q : isOwn (S.sl.set i (some (SV.p (frozen w))))[i]? := hj
           rw [List.getElem?_set_self (List.getElem?_eq_some_iff.mp hs).1] at q
           exact q.elim
         · have q : isOwn (S.sl.set i (some (SV.p (frozen w))))[j]? := hj
           rw [List.getElem?_set_ne e2] at q
           exact q)
       exact ⟨h, hg b o h n l, lo⟩
      cases w with
      | p d =>
        have es : froz S i d = S := by
          have e2 : S.sl.set i (some (SV.p d)) = S.sl := by
            apply List.ext_getElem?
            intro j
            by_cases hj : i = j
            · subst hj
              rw [List.getElem?_set_self (List.getElem?_eq_some_iff.mp hs).1, hs]
            · rw [List.getElem?_set_ne hj]
          show ({ S with sl := S.sl.set i (some (SV.p d)) } : DS) = S
          rw [e2]
        refine ⟨v, e, hQ v H ⟨G', _, _, a, r, ?_⟩⟩
        show Qd d (froz S i d)
        rw [es]
        exact h
      | ol l => exact ⟨v, e, hQ v H ⟨G', _, _, a, r, h⟩⟩
      | od l => exact ⟨v, e, hQ v H ⟨G', _, _, a, r, h⟩⟩
      | ot l => exact ⟨v, e, hQ v H ⟨G', _, _, a, r, h⟩⟩
theorem simC {K : PySem.W.Frag} {mg : MG} {v : V} {d : D} (r : ∀ G n, Rep K mg G n v d) : SimE c K mg (tC v) (dC d) := fun σ G H S Qd Q R hQ h => hQ v H ⟨G, S, d, .refl R, r _ _, h⟩
theorem pdv (i : Nat) {x : Str} {pos : Pos} (hN : X.N[i]? = some x := by rfl) (hv : Vis X.env.scope x := by first | exact Or.inl rfl | exact Or.inr (Or.inl rfl) | exact Or.inr (Or.inr rfl)) (hd : (x == ("__debug__" : Str)) = false := by decide)
    (hcd : (x == ("__classdict__" : Str)) = false := by decide) : PDE c X (.Name x pos) (dVar i) := ⟨_, pe_var hN hv hd hcd, simVar i⟩
theorem pd_int {i : Int} {j : Nat} {pos : Pos} : PDE c X (.Constant (.int i) j pos) (dC (.int i)) := ⟨_, pe_int, simC fun _ _ => .int i⟩
theorem pd_bl {b : Bool} {j : Nat} {pos : Pos} : PDE c X (.Constant (.bool b) j pos) (dC (.bl b)) := ⟨_, pe_bl, simC fun _ _ => .bl b⟩
theorem pd_non {j : Nat} {pos : Pos} : PDE c X (.Constant .none j pos) (dC .non) := ⟨_, pe_non, simC fun _ _ => .non⟩
theorem pd_str {x : Str} {j : Nat} {pos : Pos} : PDE c X (.Constant (.str x) j pos) (dC (.str x)) := ⟨_, pe_str, simC fun _ _ => .str x⟩
/-- a module's constant, a def as a value -/
theorem pd_glob {x : Str} {v : V} {u : Value} {d : D} {pos : Pos} (hg : Gl X x) (hm : X.mg x = some u) (r : RelV v u) (rd : ∀ G n, Rep X.K X.mg G n v d) (hd : (x == ("__debug__" : Str)) = false := by decide) : PDE c X (.Name x pos) (dC d) :=
  ⟨_, pe_glob hg hm r hd, simC rd⟩
theorem pd_fn {x : Str} {pos : Pos} (hg : Gl X x) (hm : ∃ f, X.mg x = some (.ref f)) (hd : (x == ("__debug__" : Str)) = false := by decide) : PDE c X (.Name x pos) (dC (.fn x)) := by
  obtain ⟨f, hm⟩ := hm
  exact ⟨_, pe_glob hg hm (v := .ref f) rfl hd, simC fun _ _ => .fn hm⟩
theorem pd_kint {x : Str} {i : Int} {pos : Pos} (hm : ∃ t, X.mg x = some (.int i t)) (hg : Gl X x) (hd : (x == ("__debug__" : Str)) = false := by decide) : PDE c X (.Name x pos) (dC (.int i)) := by
  obtain ⟨t, hm⟩ := hm
  exact ⟨_, pe_glob hg hm (v := .int i) ⟨t, rfl⟩ hd, simC fun _ _ => .int i⟩
theorem pd_kstr {x z : Str} {pos : Pos} (hm : ∃ t, X.mg x = some (.str z t)) (hg : Gl X x) (hd : (x == ("__debug__" : Str)) = false := by decide) : PDE c X (.Name x pos) (dC (.str z)) := by
  obtain ⟨t, hm⟩ := hm
  exact ⟨_, pe_glob hg hm (v := .str z) ⟨t, rfl⟩ hd, simC fun _ _ => .str z⟩
theorem pd_ktup {x : Str} {ns : List Int} {pos : Pos} (hm : ∃ a, X.mg x = some (.ref a) ∧ ∀ H, SqT X.K H a (ns.map V.int)) (hg : Gl X x) (hd : (x == ("__debug__" : Str)) = false := by decide) : PDE c X (.Name x pos) (dC (.tup (ns.map .int))) := by
  obtain ⟨a, hm, hs⟩ := hm
  exact ⟨_, pe_glob hg hm (v := .ref a) rfl hd, simC fun G n => .tup (hs G) (RepAll.ints ns)⟩
end
/-! ### operators -/
def dOp (g : D → D → Option D) (da db : DE) : DE := fun S Q => da S fun x S1 => db S1 fun y S2 => ∃ z, g x y = some z ∧ Q z S2
def Sim2 (T : TT0) (K : PySem.W.Frag) (mg : MG) (r : R2) (g : D → D → Option D) : Prop := ∀ G H n x y dx dy z (Q : VK), Sub G H → Rep K mg G n x dx → Rep K mg G n y dy → g dx dy = some z →
  (∀ v G' H', Gw T 0 G H G' H' → Rep K mg G' n v z → Q v H') → r x y H Q
def OpD (c : Ct) (X : Cx) (f : Value → Value → Sem Value) (g : D → D → Option D) : Prop := ∃ r, OpR X f r ∧ Sim2 c.T X.K X.mg r g
section
variable {c : Ct} {X : Cx} {a b e : Expr} {da db dc : DE} {pos : Pos}
theorem simOp {T : TT0} {K : PySem.W.Frag} {mg : MG} {r : R2} {g : D → D → Option D} {ta tb : TE} (hT : T = c.T) (hr : Sim2 T K mg r g) (ha : SimE c K mg ta da) (hb : SimE c K mg tb db) : SimE c K mg (tOp r ta tb) (dOp g da db) := by
  subst hT
  intro σ G H S Qd Q R hQ h
  refine ha σ G H S _ _ R (fun x H1 ⟨G1, S1, dx, A1, r1, h1⟩ => ?_) h
  refine hb σ G1 H1 S1 _ _ A1.rp (fun y H2 ⟨G2, S2, dy, A2, r2, h2⟩ => ?_) h1
  obtain ⟨z, e, h2⟩ := h2
  refine hr G2 H2 S2.n x y dx dy z _ A2.rp.sub (A2.rep r1) r2 e fun v G3 H3 g3 r3 => ?_
  exact hQ v H3 ⟨G3, S2, z, (A1.trans A2).trans (Aft.gw0 A2.rp g3), r3, h2⟩
theorem pd_op {op : Operator} {g : D → D → Option D} (ho : OpD c X (binaryOp op) g) (ha : PDE c X a da) (hb : PDE c X b db) : PDE c X (.BinOp a op b pos) (dOp g da db) := by
  obtain ⟨r, h1, h2⟩ := ho
  obtain ⟨ta, a1, a2⟩ := ha
  obtain ⟨tb, b1, b2⟩ := hb
  exact ⟨_, pe_op h1 a1 b1, simOp rfl h2 a2 b2⟩
theorem pd_cmp {op : CmpOp} {g : D → D → Option D} (ho : OpD c X (compareOp op) g) (ha : PDE c X a da) (hb : PDE c X b db) (hm : behindInMarks op b = false) : PDE c X (.Compare a [op] [b] pos) (dOp g da db) := by
  obtain ⟨r, h1, h2⟩ := ho
  obtain ⟨ta, a1, a2⟩ := ha
  obtain ⟨tb, b1, b2⟩ := hb
  exact ⟨_, pe_cmpR h1 a1 b1 hm, simOp rfl h2 a2 b2⟩
/-- an expression whose value is a bool, as a test -/
def dB (da : DE) : DT := fun S Q => da S fun x S1 => ∃ k, x = .bl k ∧ Q k S1
theorem simB {K : PySem.W.Frag} {mg : MG} {ta : TE} (ha : SimE c K mg ta da) : SimT c K mg (tB ta) (dB da) := by
  intro σ G H S Qd Q R hQ h
  refine ha σ G H S _ _ R (fun x H1 ⟨G1, S1, dx, A1, r1, h1⟩ => ?_) h
  obtain ⟨k, ek, h1⟩ := h1
  subst ek
  cases r1
  exact ⟨k, rfl, hQ k H1 ⟨G1, S1, A1, h1⟩⟩
theorem pdt_cmp {op : CmpOp} {g : D → D → Option D} (ho : OpD c X (compareOp op) g) (ha : PDE c X a da) (hb : PDE c X b db) (hm : behindInMarks op b = false) : PDT c X (.Compare a [op] [b] pos) (dB (dOp g da db)) := by
  obtain ⟨r, h1, h2⟩ := ho
  obtain ⟨ta, a1, a2⟩ := ha
  obtain ⟨tb, b1, b2⟩ := hb
  exact ⟨_, pt_cmpR h1 a1 b1 hm, simB (simOp rfl h2 a2 b2)⟩
theorem pdt_val (ha : PDE c X e da) (he : ∀ whole, isTrue e X.env whole = (do let v ← whole; standAt e.pos; holding [v] (truthy v)) := by intro _; rfl) : PDT c X e (dB da) := by
  obtain ⟨ta, a1, a2⟩ := ha
  exact ⟨_, pt_val a1 he, simB a2⟩
/-- a op b op' c -/
def dChain (g g' : D → D → Option D) (da db dc : DE) : DE := fun S Q => da S fun x S1 => db S1 fun y S2 => ∃ k, g x y = some (.bl k) ∧ (if k = true then dc S2 fun w S3 => ∃ z, g' y w = some z ∧ Q z S3 else Q (.bl false) S2)
theorem simChain {K : PySem.W.Frag} {mg : MG} {r r' : R2} {g g' : D → D → Option D} {ta tb tc : TE} (hr : Sim2 c.T K mg r g) (hr' : Sim2 c.T K mg r' g') (ha : SimE c K mg ta da) (hb : SimE c K mg tb db) (hc : SimE c K mg tc dc) : SimE c K mg (tChain r r' ta tb tc) (dChain g g' da db dc) := by
  intro σ G H S Qd Q R hQ h
  refine ha σ G H S _ _ R (fun x H1 ⟨G1, S1, dx, A1, r1, h1⟩ => ?_) h
  refine hb σ G1 H1 S1 _ _ A1.rp (fun y H2 ⟨G2, S2, dy, A2, r2, h2⟩ => ?_) h1
  obtain ⟨k, e, h2⟩ := h2
  refine hr G2 H2 S2.n x y dx dy _ _ A2.rp.sub (A2.rep r1) r2 e fun v G3 H3 g3 r3 => ?_
  cases r3
  have A3 := Aft.gw0 A2.rp g3
  refine ⟨k, rfl, ?_⟩
  cases k with
  | false =>
    rw [if_neg Bool.false_ne_true] at h2 ⊢
    exact hQ _ H3 ⟨G3, S2, _, (A1.trans A2).trans A3, .bl false, h2⟩
  | true =>
    rw [if_pos rfl] at h2 ⊢
    refine hc σ G3 H3 S2 _ _ A3.rp (fun w H4 ⟨G4, S4, dw, A4, r4, h4⟩ => ?_) h2
    obtain ⟨z, e4, h4⟩ := h4
    refine hr' G4 H4 S4.n y w dy dw z _ A4.rp.sub (A4.rep (A3.rep r2)) r4 e4 fun v G5 H5 g5 r5 => ?_
    exact hQ v H5 ⟨G5, S4, z, (((A1.trans A2).trans A3).trans A4).trans (Aft.gw0 A4.rp g5), r5, h4⟩
theorem pd_chain {cE : Expr} {op op' : CmpOp} {g g' : D → D → Option D} (ho : OpD c X (compareOp op) g) (ho' : OpD c X (compareOp op') g') (ha : PDE c X a da) (hb : PDE c X b db) (hc : PDE c X cE dc)
    (hm : lastMarks [op, op'] [b, cE] = false := by with_unfolding_all rfl) : PDE c X (.Compare a [op, op'] [b, cE] pos) (dChain g g' da db dc) := by
  obtain ⟨r, h1, h2⟩ := ho
  obtain ⟨r', h1', h2'⟩ := ho'
  obtain ⟨ta, a1, a2⟩ := ha
  obtain ⟨tb, b1, b2⟩ := hb
  obtain ⟨tc, c1, c2⟩ := hc
  exact ⟨_, pe_chain h1 h1' a1 b1 c1 hm, simChain h2 h2' a2 b2 c2⟩
theorem pdt_chain {cE : Expr} {op op' : CmpOp} {g g' : D → D → Option D} (ho : OpD c X (compareOp op) g) (ho' : OpD c X (compareOp op') g') (ha : PDE c X a da) (hb : PDE c X b db) (hc : PDE c X cE dc)
    (hm : lastMarks [op, op'] [b, cE] = false := by with_unfolding_all rfl) : PDT c X (.Compare a [op, op'] [b, cE] pos) (dB (dChain g g' da db dc)) := by
  obtain ⟨r, h1, h2⟩ := ho
  obtain ⟨r', h1', h2'⟩ := ho'
  obtain ⟨ta, a1, a2⟩ := ha
  obtain ⟨tb, b1, b2⟩ := hb
  obtain ⟨tc, c1, c2⟩ := hc
  exact ⟨_, pt_chain h1 h1' a1 b1 c1 hm, simB (simChain h2 h2' a2 b2 c2)⟩
/-! ### and, or, not, if-else -/
variable {rest : List Expr} {dt du : DT}
def dAnd (t u : DT) : DT := fun S Q => t S fun k S1 => if k = true then u S1 Q else Q false S1
def dOr (t u : DT) : DT := fun S Q => t S fun k S1 => if k = true then Q true S1 else u S1 Q
def dNot (t : DT) : DT := fun S Q => t S fun k S1 => Q (!k) S1
theorem pdw_pt (h : PDW c X e dt) : PDT c X e dt := let ⟨t, h1, h2⟩ := h; ⟨t, h1.pt, h2⟩
theorem pdw_and1 (h : PDT c X a dt) : PDW c X (.BoolOp .And [a] pos) dt := let ⟨_, h1, h2⟩ := h; ⟨_, pw_and1 h1, h2⟩
theorem pdw_or1 (h : PDT c X a dt) : PDW c X (.BoolOp .Or [a] pos) dt := let ⟨_, h1, h2⟩ := h; ⟨_, pw_or1 h1, h2⟩
theorem pdw_and (ha : PDT c X a dt) (hb : PDW c X (.BoolOp .And (b :: rest) pos) du) : PDW c X (.BoolOp .And (a :: b :: rest) pos) (dAnd dt du) := by
  obtain ⟨ta, a1, a2⟩ := ha
  obtain ⟨tb, b1, b2⟩ := hb
  refine ⟨_, pw_and a1 b1, fun σ G H S Qd Q R hQ h => ?_⟩
  refine a2 σ G H S _ _ R (fun k H1 ⟨G1, S1, A1, h1⟩ => ?_) h
  cases k with
  | true => exact b2 σ G1 H1 S1 _ _ A1.rp (fun k2 H2 ⟨G2, S2, A2, h2⟩ => hQ k2 H2 ⟨G2, S2, A1.trans A2, h2⟩) h1
  | false => exact hQ false H1 ⟨G1, S1, A1, h1⟩
theorem pdw_or (ha : PDT c X a dt) (hb : PDW c X (.BoolOp .Or (b :: rest) pos) du) : PDW c X (.BoolOp .Or (a :: b :: rest) pos) (dOr dt du) := by
  obtain ⟨ta, a1, a2⟩ := ha
  obtain ⟨tb, b1, b2⟩ := hb
  refine ⟨_, pw_or a1 b1, fun σ G H S Qd Q R hQ h => ?_⟩
  refine a2 σ G H S _ _ R (fun k H1 ⟨G1, S1, A1, h1⟩ => ?_) h
  cases k with
  | false => exact b2 σ G1 H1 S1 _ _ A1.rp (fun k2 H2 ⟨G2, S2, A2, h2⟩ => hQ k2 H2 ⟨G2, S2, A1.trans A2, h2⟩) h1
  | true => exact hQ true H1 ⟨G1, S1, A1, h1⟩
theorem pdt_not (ha : PDT c X a dt) : PDT c X (.UnaryOp .Not a pos) (dNot dt) := by
  obtain ⟨ta, a1, a2⟩ := ha
  refine ⟨_, pt_not a1, fun σ G H S Qd Q R hQ h => ?_⟩
  exact a2 σ G H S _ _ R (fun k H1 ⟨G1, S1, A1, h1⟩ => hQ (!k) H1 ⟨G1, S1, A1, h1⟩) h
def dAndV (da db : DE) : DE := fun S Q => da S fun x S1 => ∃ k, x = .bl k ∧ if k = true then db S1 Q else Q (.bl false) S1
def dOrV (da db : DE) : DE := fun S Q => da S fun x S1 => ∃ k, x = .bl k ∧ if k = true then Q (.bl true) S1 else db S1 Q
def dNotV (da : DE) : DE := fun S Q => da S fun x S1 => ∃ k, x = .bl k ∧ Q (.bl (!k)) S1
theorem pd_one {op : BoolOp} (h : PDE c X a da) : PDE c X (.BoolOp op [a] pos) da := let ⟨_, h1, h2⟩ := h; ⟨_, pe_one h1, h2⟩
theorem pd_and (ha : PDE c X a da) (hb : PDE c X (.BoolOp .And (b :: rest) pos) db) : PDE c X (.BoolOp .And (a :: b :: rest) pos) (dAndV da db) := by
  obtain ⟨ta, a1, a2⟩ := ha
  obtain ⟨tb, b1, b2⟩ := hb
  refine ⟨_, pe_and a1 b1, fun σ G H S Qd Q R hQ h => ?_⟩
  refine a2 σ G H S _ _ R (fun x H1 ⟨G1, S1, dx, A1, r1, h1⟩ => ?_) h
  obtain ⟨k, ek, h1⟩ := h1
  subst ek
  cases r1
  refine ⟨k, rfl, ?_⟩
  cases k with
  | true => exact b2 σ G1 H1 S1 _ _ A1.rp (fun k2 H2 ⟨G2, S2, d2, A2, r2, h2⟩ => hQ k2 H2 ⟨G2, S2, d2, A1.trans A2, r2, h2⟩) h1
  | false => exact hQ _ H1 ⟨G1, S1, _, A1, .bl false, h1⟩
theorem pd_or (ha : PDE c X a da) (hb : PDE c X (.BoolOp .Or (b :: rest) pos) db) : PDE c X (.BoolOp .Or (a :: b :: rest) pos) (dOrV da db) := by
  obtain ⟨ta, a1, a2⟩ := ha
  obtain ⟨tb, b1, b2⟩ := hb
  refine ⟨_, pe_or a1 b1, fun σ G H S Qd Q R hQ h => ?_⟩
  refine a2 σ G H S _ _ R (fun x H1 ⟨G1, S1, dx, A1, r1, h1⟩ => ?_) h
  obtain ⟨k, ek, h1⟩ := h1
  subst ek
  cases r1
  refine ⟨k, rfl, ?_⟩
  cases k with
  | false => exact b2 σ G1 H1 S1 _ _ A1.rp (fun k2 H2 ⟨G2, S2, d2, A2, r2, h2⟩ => hQ k2 H2 ⟨G2, S2, d2, A1.trans A2, r2, h2⟩) h1
  | true => exact hQ _ H1 ⟨G1, S1, _, A1, .bl true, h1⟩
theorem pd_not (ha : PDE c X a da) : PDE c X (.UnaryOp .Not a pos) (dNotV da) := by
  obtain ⟨ta, a1, a2⟩ := ha
  refine ⟨_, pe_not a1, fun σ G H S Qd Q R hQ h => ?_⟩
  refine a2 σ G H S _ _ R (fun x H1 ⟨G1, S1, dx, A1, r1, h1⟩ => ?_) h
  obtain ⟨k, ek, h1⟩ := h1
  subst ek
  cases r1
  exact ⟨k, rfl, hQ _ H1 ⟨G1, S1, _, A1, .bl _, h1⟩⟩
def dIf (t : DT) (da db : DE) : DE := fun S Q => t S fun k S1 => if k = true then da S1 Q else db S1 Q
theorem pd_if {cE : Expr} (hc : PDT c X cE dt) (ha : PDE c X a da) (hb : PDE c X b db) : PDE c X (.IfExp cE a b pos) (dIf dt da db) := by
  obtain ⟨tc, c1, c2⟩ := hc
  obtain ⟨ta, a1, a2⟩ := ha
  obtain ⟨tb, b1, b2⟩ := hb
  refine ⟨_, pe_ifExp c1 a1 b1, fun σ G H S Qd Q R hQ h => ?_⟩
  refine c2 σ G H S _ _ R (fun k H1 ⟨G1, S1, A1, h1⟩ => ?_) h
  cases k with
  | true => exact a2 σ G1 H1 S1 _ _ A1.rp (fun k2 H2 ⟨G2, S2, d2, A2, r2, h2⟩ => hQ k2 H2 ⟨G2, S2, d2, A1.trans A2, r2, h2⟩) h1
  | false => exact b2 σ G1 H1 S1 _ _ A1.rp (fun k2 H2 ⟨G2, S2, d2, A2, r2, h2⟩ => hQ k2 H2 ⟨G2, S2, d2, A1.trans A2, r2, h2⟩) h1
/-! ### argument lists, displays, built-in calls -/
variable {es : List Expr} {ds : DA}
def dNil : DA := fun S Q => Q [] S
def dCons (da : DE) (dr : DA) : DA := fun S Q => da S fun x S1 => dr S1 fun xs S2 => Q (x :: xs) S2
/-- *a -/
def dStar (da : DE) (dr : DA) : DA := fun S Q => da S fun x S1 => ∃ l, (x = .tup l ∨ x = .lst l) ∧ dr S1 fun xs S2 => Q (l ++ xs) S2
theorem pda_nil : PDA c X [] dNil := ⟨_, pa_nil, fun σ G H S Qd Q R hQ h => hQ [] H ⟨G, S, [], .refl R, .nil, h⟩⟩
theorem pda_cons (ha : PDE c X a da) (hr : PDA c X es ds) (hs : starEach (a :: es) X.env = (false, eval a X.env) :: starEach es X.env := by rfl) : PDA c X (a :: es) (dCons da ds) := by
  obtain ⟨ta, a1, a2⟩ := ha
  obtain ⟨tb, b1, b2⟩ := hr
  refine ⟨_, pa_cons a1 b1 hs, fun σ G H S Qd Q R hQ h => ?_⟩
  refine a2 σ G H S _ _ R (fun x H1 ⟨G1, S1, dx, A1, r1, h1⟩ => ?_) h
  refine b2 σ G1 H1 S1 _ _ A1.rp (fun xs H2 ⟨G2, S2, dxs, A2, r2, h2⟩ => ?_) h1
  exact hQ _ H2 ⟨G2, S2, dx :: dxs, A1.trans A2, .cons (A2.rep r1) r2, h2⟩
def dTup (t : DA) : DE := fun S Q => t S fun xs S1 => xs.length ≤ 16777216 ∧ Q (.tup xs) S1
def dLst (t : DA) : DE := fun S Q => t S fun xs S1 => xs.length ≤ 16777216 ∧ Q (.lst xs) S1
theorem pd_tup {k : Nat} (h : PDA c X es ds) : PDE c X (.Tuple es k pos) (dTup ds) := by
  obtain ⟨ta, a1, a2⟩ := h
  refine ⟨_, pe_tup a1, fun σ G H S Qd Q R hQ h => ?_⟩
  refine a2 σ G H S _ _ R (fun xs H1 ⟨G1, S1, dx, A1, r1, h1⟩ => ?_) h
  obtain ⟨hz, h1⟩ := h1
  refine ⟨by rw [r1.length, sizeLine_eq]; exact hz, fun p np => ?_⟩
  have A2 := Aft.gw0 A1.rp (.alloc (o := .tup xs) A1.rp.sub np)
  exact hQ _ _ ⟨_, S1, _, A1.trans A2, .tup (SqT.of upd_same) (A2.repAll r1), h1⟩
theorem pd_lst (h : PDA c X es ds) : PDE c X (.List es pos) (dLst ds) := by
  obtain ⟨ta, a1, a2⟩ := h
  refine ⟨_, pe_lst a1, fun σ G H S Qd Q R hQ h => ?_⟩
  refine a2 σ G H S _ _ R (fun xs H1 ⟨G1, S1, dx, A1, r1, h1⟩ => ?_) h
  obtain ⟨hz, h1⟩ := h1
  refine ⟨by rw [r1.length, sizeLine_eq]; exact hz, fun p np => ?_⟩
  have A2 := Aft.gw0 A1.rp (.alloc (o := .lst xs) A1.rp.sub np)
  exact hQ _ _ ⟨_, S1, _, A1.trans A2, .lst (.inl (.inl upd_same)) (A2.repAll r1), h1⟩
/-- a built-in function of data -/
def dFn (g : List D → Option D) (t : DA) : DE := fun S Q => t S fun xs S1 => ∃ z, g xs = some z ∧ Q z S1
def SimC (T : TT0) (K : PySem.W.Frag) (mg : MG) (r : List V → Hp → VK → Prop) (g : List D → Option D) : Prop := ∀ G H n vs ds z (Q : VK), Sub G H → RepAll K mg G n vs ds → g ds = some z →
  (∀ v G' H', Gw T 0 G H G' H' → Rep K mg G' n v z → Q v H') → r vs H Q
def CallD (c : Ct) (X : Cx) (f : Value) (g : List D → Option D) : Prop := ∃ r, CallR X f r ∧ SimC c.T X.K X.mg r g
theorem simFn {K : PySem.W.Frag} {mg : MG} {r : List V → Hp → VK → Prop} {g : List D → Option D} {ta : TA} (hr : SimC c.T K mg r g) (ha : SimA c K mg ta ds) : SimE c K mg (tCB r ta) (dFn g ds) := by
  intro σ G H S Qd Q R hQ h
  refine ha σ G H S _ _ R (fun xs H1 ⟨G1, S1, dx, A1, r1, h1⟩ => ?_) h
  obtain ⟨z, e, h1⟩ := h1
  refine hr G1 H1 S1.n xs dx z _ A1.rp.sub r1 e fun v G3 H3 g3 r3 => ?_
  exact hQ v H3 ⟨G3, S1, z, A1.trans (Aft.gw0 A1.rp g3), r3, h1⟩
theorem pd_callB {id : String} {g : List D → Option D} {x : Str} {p : Pos} (hc : CallD c X (.builtin id) g) (hg : Gl X x) (hm : X.mg x = none) (hv : bootBuiltins x = some (.builtin id)) (ha : PDA c X (a :: es) ds) (hn : x ≠ "__name__" := by decide) (hdb : (x == ("__debug__" : Str)) = false := by decide)
    (he : starEach (a :: es) X.env = (false, eval a X.env) :: starEach es X.env := by rfl) (hpl : (backTo pos (starEach es X.env)).any (·.1) = false := by rfl) : PDE c X (.Call (.Name x p) (a :: es) [] pos) (dFn g ds) := by
  obtain ⟨r, h1, h2⟩ := hc
  obtain ⟨ta, a1, a2⟩ := ha
  exact ⟨_, pe_callB h1 hg hm hv a1 hn hdb he hpl, simFn h2 a2⟩
theorem pd_callTy {T : String} {g : List D → Option D} {x : Str} {p : Pos} (hc : CallD c X (.type T) g) (hg : Gl X x) (hm : X.mg x = none) (hv : bootBuiltins x = some (.type T)) (ha : PDA c X (a :: es) ds) (hn : x ≠ "__name__" := by decide) (hdb : (x == ("__debug__" : Str)) = false := by decide)
    (he : starEach (a :: es) X.env = (false, eval a X.env) :: starEach es X.env := by rfl) (hpl : (backTo pos (starEach es X.env)).any (·.1) = false := by rfl) : PDE c X (.Call (.Name x p) (a :: es) [] pos) (dFn g ds) := by
  obtain ⟨r, h1, h2⟩ := hc
  obtain ⟨ta, a1, a2⟩ := ha
  exact ⟨_, pe_callTy h1 hg hm hv a1 hn hdb he hpl, simFn h2 a2⟩
end
end DL
set_option maxHeartbeats 1000000
namespace DL
open PySem PySem.Spec PyProof.Rows L2
/-! ### what a def does to data -/
abbrev MT := List D → Nat → (D → Nat → Prop) → (Exc → Nat → Prop) → Prop
def spD (T : TT0) (K : PySem.W.Frag) (mg : MG) (ar : Nat) (m : MT) : Sp := fun vs H Q E => vs.length = ar ∧ ∃ (G : Hp) (ds : List D) (n : Nat) (Qd : D → Nat → Prop) (ED : Exc → Nat → Prop),
  Sub G H ∧ LamX.Tabs T G ∧ RepAll K mg G n vs ds ∧ m ds n Qd ED ∧
  (∀ v d k G' H', k ≤ n → Gw T k G H G' H' → Rep K mg G' (n - k) v d → Qd d (n - k) → Q v H') ∧
  (∀ x f d k v C dd G' H', k ≤ n → Gw T k G H G' H' → mg x = some (.ref C) → H' dd = some (.xd [(f, v)]) → Rep K mg G' (n - k) v d → ED (x, f, d) (n - k) → E (.ref C) (some dd) H')
/-- a def of the text that keeps m -/
structure CalD (P : Program) (w : World) (K : PySem.W.Frag) (mg : MG) (base : Heap) (T : TT0) (CX : CXT) (k : Nat) (x : Str) (st : Stmt) (ps : List Str) (m : MT) : Prop where
  ex : ∃ f fd, Fun K x x st f fd ∧ FnOk P w K mg base CX k f fd ps (spD T K mg ps.length m) ∧ mg x = some (.ref f)
  ar : ∀ ds n Q E, m ds n Q E → ds.length = ps.length
theorem CalD.at_ {P : Program} {w : World} {K : PySem.W.Frag} {mg : MG} {base : Heap} {T : TT0} {CX : CXT} {k : Nat} {x : Str} {st : Stmt} {ps : List Str} {m : MT} (h : CalD P w K mg base T CX k x st ps m) : ∃ f, mg x = some (.ref f) := by
  obtain ⟨f, fd, a, b, d⟩ := h.ex
  exact ⟨f, d⟩
theorem CalD.mono {P : Program} {w : World} {K : PySem.W.Frag} {mg : MG} {base : Heap} {T : TT0} {CX : CXT} {j k : Nat} {x : Str} {st : Stmt} {ps : List Str} {m : MT} (h : CalD P w K mg base T CX j x st ps m) (hk : j ≤ k) : CalD P w K mg base T CX k x st ps m := by
  obtain ⟨f, fd, a, b, d⟩ := h.ex
  exact ⟨⟨f, fd, a, b.mono hk, d⟩, h.ar⟩
/-- the state at a def's entry -/
abbrev ent (N : List Str) (ds : List D) (n : Nat) : DS := ⟨ds.map (fun d => some (.p d)) ++ List.replicate (N.length - ds.length) none, n⟩
section
variable {P : Program} {w : World} {K : PySem.W.Frag} {mg : MG} {base : Heap} {T : TT0}
theorem rp_start {N : List Str} {vs : List V} {ds : List D} {n : Nat} {G H : Hp} {E : XK} {ED : Exc → Nat → Prop} (s : Sub G H) (t : LamX.Tabs T G) (r : RepAll K mg G n vs ds) : Rp ⟨T, G, H, n, E, ED⟩ K mg (start N vs) G H (ent N ds n) := by
  refine ⟨s, Nat.le_refl _, by show Le T (n - n) G G; rw [Nat.sub_self]; exact .refl _ _, fun b o h1 h2 => ⟨h1, h2⟩, fun b o h1 h2 => ?_, t, ?_, fun i => ?_, fun i j a _ h1 _ _ _ => ?_⟩
  · rw [show (⟨T, G, H, n, E, ED⟩ : Ct).G0 = G from rfl] at h2
    rw [h2] at h1
    cases h1
  · simp [L2.start, ent, r.length]
  · show SlotOk K mg _ G H n (vs.map some ++ List.replicate (N.length - vs.length) none)[i]? (ds.map (fun d => some (SV.p d)) ++ List.replicate (N.length - ds.length) none)[i]?
    by_cases hi : i < ds.length
    · have hv : i < vs.length := by
        rw [r.length]
        exact hi
      rw [List.getElem?_append_left (by simpa using hv), List.getElem?_append_left (by simpa using hi), List.getElem?_map, List.getElem?_map, List.getElem?_eq_getElem hi]
      obtain ⟨v, e1, e2⟩ := r.get (List.getElem?_eq_getElem hi)
      rw [e1]
      exact ⟨v, rfl, e2⟩
    · rw [show (ds.map (fun d => some (SV.p d)) ++ List.replicate (N.length - ds.length) none)[i]? = (List.replicate (N.length - ds.length) none)[i - ds.length]? by
        rw [List.getElem?_append_right (by simpa using hi)]
        simp]
      by_cases hz : i - ds.length < N.length - ds.length
      · rw [List.getElem?_replicate, if_pos hz]
        exact True.intro
      · rw [List.getElem?_replicate, if_neg hz]
        exact True.intro
  · have h1' : isOwn (ds.map (fun d => some (SV.p d)) ++ List.replicate (N.length - ds.length) none)[i]? := h1
    by_cases hi : i < ds.length
    · rw [List.getElem?_append_left (by simpa using hi), List.getElem?_map, List.getElem?_eq_getElem hi] at h1'
      exact h1'
    · rw [List.getElem?_append_right (by simpa using hi), List.getElem?_replicate] at h1'
      split at h1' <;> exact h1'
/-- from a body's term to the def's promise -/
theorem simDef {N ps : List Str} {t : TS} {dsb : DSt} {m : MT} {vs : List V} {H : Hp} {Q : VK} {E : XK} {G : Hp} {ds : List D} {n : Nat} {Qd : D → Nat → Prop} {ED : Exc → Nat → Prop}
    (s : Sub G H) (tb : LamX.Tabs T G) (r : RepAll K mg G n vs ds)
    (hq : ∀ v d k G' H', k ≤ n → Gw T k G H G' H' → Rep K mg G' (n - k) v d → Qd d (n - k) → Q v H')
    (ht : SimS ⟨T, G, H, n, E, ED⟩ K mg t dsb) (h : dsb { nx := fun S => Qd .non S.n, rt := fun d S => Qd d S.n } (ent N ds n)) : t { nx := fun _ H' => Q .non H', rt := Q } (start N vs) H := by
  have fin : ∀ {σ' : Sig} {G' H' : Hp} {S' : DS} {v : V} {d : D}, Rp ⟨T, G, H, n, E, ED⟩ K mg σ' G' H' S' → Rep K mg G' S'.n v d → Qd d S'.n → Q v H' := fun {σ' G' H' S' v d} R r q => by
    have hn : S'.n ≤ n := R.nle
    have e : n - (n - S'.n) = S'.n := by omega
    refine hq v d (n - S'.n) G' H' (Nat.sub_le _ _) ⟨R.sub, R.le, fun b o h1 h2 => (R.hid b o h1 h2).1, R.new⟩ (by rw [e]; exact r) (by rw [e]; exact q)
  exact ht (start N vs) G H (ent N ds n) _ _ (rp_start s tb r) (fun σ' H' ⟨G', S', R, _, _, q⟩ => fin R .non q) (fun v H' ⟨σ', G', S', d, R, r, q⟩ => fin R r q) (fun σ' H' ⟨G', S', R, _, _, q⟩ => q.elim) (fun σ' H' ⟨G', S', R, _, _, q⟩ => q.elim) h
/-- a def that lets nothing out -/
theorem okD {x : Str} {st : Stmt} {f : Addr} {fd : FuncData} {N ps : List Str} {k : Nat} {m : MT} (F : Fun K x x st f fd) (hm : mg x = some (.ref f)) (S : FnScope N ps (defScope st)) (har : ∀ ds n Q E, m ds n Q E → ds.length = ps.length)
    (hbody : ∀ (cdv : Value) (A : Around) (outer : List Env) (s : Shared) (G H : Hp) (n : Nat) (E : XK) (ED : Exc → Nat → Prop), Room k (A.deeper (envOfC x (defScope st) s.heap.objs.size f cdv)) →
      ∃ dsb, PDSs ⟨T, G, H, n, E, ED⟩ (cxOf CX0 P w K mg base N x (defScope st) f cdv A outer s H E).nox (defBody st) dsb ∧
        ∀ ds Qd, ds.length = ps.length → m ds n Qd ED → dsb { nx := fun S => Qd .non S.n, rt := fun d S => Qd d S.n } (ent N ds n)) : CalD P w K mg base T CX0 (k + 1) x st ps m := by
  refine ⟨⟨f, fd, F, F.ok S (fun vs H Q E h => h.1) (fun cdv A outer s H vs Q E hr h => ?_), hm⟩, har⟩
  obtain ⟨hl, G, ds, n, Qd, ED, h1, h2, h3, h4, h5, h6⟩ := h
  obtain ⟨dsb, ⟨t, b1, b2⟩, b3⟩ := hbody cdv A outer s G H n E ED hr
  exact ⟨t, b1, simDef (ps := ps) (m := m) h1 h2 h3 h5 b2 (b3 ds Qd (h3.length.symm.trans hl) h4)⟩
/-- how exceptions leave -/
structure Lnk (c : Ct) (K : PySem.W.Frag) (mg : MG) : Prop where
  out : ∀ x f d k v C dd G' H', k ≤ c.n0 → Gw c.T k c.G0 c.H0 G' H' → mg x = some (.ref C) → H' dd = some (.xd [(f, v)]) → Rep K mg G' (c.n0 - k) v d → c.ED (x, f, d) (c.n0 - k) → c.E (.ref C) (some dd) H'
/-- a def that may raise -/
theorem okDX {x : Str} {st : Stmt} {f : Addr} {fd : FuncData} {N ps : List Str} {k : Nat} {m : MT} (F : Fun K x x st f fd) (hm : mg x = some (.ref f)) (S : FnScope N ps (defScope st)) (har : ∀ ds n Q E, m ds n Q E → ds.length = ps.length)
    (hbody : ∀ (cdv : Value) (A : Around) (outer : List Env) (s : Shared) (G H : Hp) (n : Nat) (E : XK) (ED : Exc → Nat → Prop), Room k (A.deeper (envOfC x (defScope st) s.heap.objs.size f cdv)) → Lnk ⟨T, G, H, n, E, ED⟩ K mg →
      ∃ dsb, PDSs ⟨T, G, H, n, E, ED⟩ (cxOf (L2.CX P w) P w K mg base N x (defScope st) f cdv A outer s H E) (defBody st) dsb ∧
        ∀ ds Qd, ds.length = ps.length → m ds n Qd ED → dsb { nx := fun S => Qd .non S.n, rt := fun d S => Qd d S.n } (ent N ds n)) : CalD P w K mg base T (L2.CX P w) (k + 1) x st ps m := by
  refine ⟨⟨f, fd, F, F.okX S (fun vs H Q E h => h.1) (fun cdv A outer s H vs Q E hr h => ?_), hm⟩, har⟩
  obtain ⟨hl, G, ds, n, Qd, ED, h1, h2, h3, h4, h5, h6⟩ := h
  obtain ⟨dsb, ⟨t, b1, b2⟩, b3⟩ := hbody cdv A outer s G H n E ED hr ⟨h6⟩
  exact ⟨t, b1, simDef (ps := ps) (m := m) h1 h2 h3 h5 b2 (b3 ds Qd (h3.length.symm.trans hl) h4)⟩
end
/-! ### calls -/
/-- the wish for what a callee raises: nothing -/
abbrev ED0 : Exc → Nat → Prop := fun _ _ => False
def dCall (ED : Exc → Nat → Prop) (m : MT) (das : DA) : DE := fun S Q => das S fun ds S1 => m ds S1.n (fun d n' => n' ≤ S1.n → Q d { S1 with n := n' }) ED
section
variable {c : Ct} {X : Cx}
theorem simCall {K : PySem.W.Frag} {mg : MG} {ar : Nat} {m : MT} {t : TA} {das : DA} {E : XK} {ED : Exc → Nat → Prop} (ha : SimA c K mg t das) (hl : ∀ ds n Q E, m ds n Q E → ds.length = ar)
    (hE : ∀ σ G H S, Rp c K mg σ G H S → ∀ x f d k v C dd G' H', k ≤ S.n → Gw c.T k G H G' H' → mg x = some (.ref C) → H' dd = some (.xd [(f, v)]) → Rep K mg G' (S.n - k) v d → ED (x, f, d) (S.n - k) → E (.ref C) (some dd) H') :
    SimE c K mg (tCall (spD c.T K mg ar m) [] E t) (dCall ED m das) := by
  intro σ G H S Qd Q R hQ h
  refine ha σ G H S _ _ R (fun vs H1 ⟨G1, S1, ds, A1, r1, h1⟩ => ?_) h
  refine ⟨?_, G1, ds, S1.n, _, ED, A1.rp.sub, A1.rp.tabs, ?_, h1, fun v d k G' H' hk g r q => ?_, hE σ G1 H1 S1 A1.rp⟩
  · rw [List.append_nil, r1.length]
    exact hl _ _ _ _ h1
  · rw [List.append_nil]
    exact r1
  · exact hQ v H' ⟨G', { S1 with n := S1.n - k }, d, A1.trans (Aft.gw A1.rp g hk), r, q (Nat.sub_le _ _)⟩
theorem lnk_at {K : PySem.W.Frag} {mg : MG} (L : Lnk c K mg) : ∀ σ G H S, Rp c K mg σ G H S → ∀ x f d k v C dd G' H', k ≤ S.n → Gw c.T k G H G' H' → mg x = some (.ref C) → H' dd = some (.xd [(f, v)]) → Rep K mg G' (S.n - k) v d → c.ED (x, f, d) (S.n - k) → c.E (.ref C) (some dd) H' := by
  intro σ G H S R x f d k v C dd G' H' hk g hx hd hr hq
  have R' := R.gw g hk
  have hn := R.nle
  have e : c.n0 - (c.n0 - (S.n - k)) = S.n - k := by omega
  exact L.out x f d (c.n0 - (S.n - k)) v C dd G' H' (Nat.sub_le _ _) ⟨R'.sub, R'.le, fun b o h1 h2 => (R'.hid b o h1 h2).1, R'.new⟩ hx hd (by rw [e]; exact hr) (by rw [e]; exact hq)
/-- a call of a def that lets nothing out -/
theorem pd_call {k : Nat} {x : Str} {st : Stmt} {ps : List Str} {m : MT} {a : Expr} {es : List Expr} {das : DA} {p pos : Pos} (C : CalD X.prog X.w X.K X.mg X.base c.T CX0 k x st ps m) (hr : Room k X.A) (hg : Gl X x)
    (hb : ∀ (kV doc pm : Value) (an : Option Addr) (cdv ct : Value) (us : List Value), us.length = ps.length → bindArgs (PySem.W.fnOf x x (defArgs st) (defBody st) (defScope st) .none kV doc pm an cdv ct) ⟨us, []⟩ = pure (ps.zip us))
    (ha : PDA c X (a :: es) das) (hdb : (x == ("__debug__" : Str)) = false := by decide) (he : starEach (a :: es) X.env = (false, eval a X.env) :: starEach es X.env := by rfl) (hpl : (backTo pos (starEach es X.env)).any (·.1) = false := by rfl) :
    PDE c X (.Call (.Name x p) (a :: es) [] pos) (dCall ED0 m das) := by
  obtain ⟨f, fd, F, G, hm⟩ := C.ex
  obtain ⟨ta, a1, a2⟩ := ha
  exact ⟨_, pe_call G hr hg hm F.kp (F.binds hb) .nil (pass0 (X := X)) a1 hdb he hpl, simCall a2 C.ar fun _ _ _ _ _ _ _ _ _ _ _ _ _ _ _ _ _ _ _ z => z.elim⟩
/-- a call of a def that may raise, where what it raises leaves -/
theorem pd_callX {k : Nat} {x : Str} {st : Stmt} {ps : List Str} {m : MT} {a : Expr} {es : List Expr} {das : DA} {p pos : Pos} (C : CalD X.prog X.w X.K X.mg X.base c.T (L2.CX X.prog X.w) k x st ps m) (L : Lnk c X.K X.mg) (hx : Passes (L2.CX X.prog X.w) X c.E) (hr : Room k X.A) (hg : Gl X x)
    (hb : ∀ (kV doc pm : Value) (an : Option Addr) (cdv ct : Value) (us : List Value), us.length = ps.length → bindArgs (PySem.W.fnOf x x (defArgs st) (defBody st) (defScope st) .none kV doc pm an cdv ct) ⟨us, []⟩ = pure (ps.zip us))
    (ha : PDA c X (a :: es) das) (hdb : (x == ("__debug__" : Str)) = false := by decide) (he : starEach (a :: es) X.env = (false, eval a X.env) :: starEach es X.env := by rfl) (hpl : (backTo pos (starEach es X.env)).any (·.1) = false := by rfl) :
    PDE c X (.Call (.Name x p) (a :: es) [] pos) (dCall c.ED m das) := by
  obtain ⟨f, fd, F, G, hm⟩ := C.ex
  obtain ⟨ta, a1, a2⟩ := ha
  exact ⟨_, pe_call G hr hg hm F.kp (F.binds hb) .nil hx a1 hdb he hpl, simCall a2 C.ar (lnk_at L)⟩
end
/-! ### statements -/
section
variable {c : Ct} {X : Cx} {st : Stmt} {rest : List Stmt} {t u : DSt} {e : Expr} {de : DE} {dt : DT} {pos : Pos}
def dNext : DSt := fun B S => B.nx S
def dSeq (t u : DSt) : DSt := fun B S => t { B with nx := u B } S
theorem pdss_nil : PDSs c X [] dNext := ⟨_, pss_nil, fun σ G H S B E R h1 h2 h3 h4 h => h1 σ H ⟨G, S, R, by rw [Nat.sub_self]; exact .refl _ _, Nat.le_refl _, h⟩⟩
theorem pdss_one (h : PDS c X st t) : PDSs c X [st] t := by
  obtain ⟨a, b, d⟩ := h
  exact ⟨_, pss_one b, d⟩
theorem pdss_cons (h : PDS c X st t) (g : PDSs c X rest u) : PDSs c X (st :: rest) (dSeq t u) := by
  obtain ⟨a, a1, a2⟩ := h
  obtain ⟨b, b1, b2⟩ := g
  refine ⟨_, pss_cons a1 b1, fun σ G H S B E R h1 h2 h3 h4 h => ?_⟩
  exact a2 σ G H S { B with nx := u B } { E with nx := b E } R (fun σ' H' ⟨G', S', R', l, hn, q⟩ => b2 σ' G' H' S' B E R' (fun σ' H' z => h1 σ' H' (z.of l hn)) h2 (fun σ' H' z => h3 σ' H' (z.of l hn)) (fun σ' H' z => h4 σ' H' (z.of l hn)) q) h2 h3 h4 h
def dRet (de : DE) : DSt := fun B S => de S B.rt
theorem pds_ret (he : PDE c X e de) : PDS c X (.Return (some e) pos) (dRet de) := by
  obtain ⟨a, a1, a2⟩ := he
  exact ⟨_, ps_ret a1, fun σ G H S B E R h1 h2 h3 h4 h => a2 σ G H S _ _ R (fun v H' ⟨G', S', d, A, r, q⟩ => h2 v H' ⟨σ, G', S', d, A.rp, r, q⟩) h⟩
def dAsg (i : Nat) (de : DE) : DSt := fun B S => de S fun d S1 => B.nx { S1 with sl := S1.sl.set i (some (.p d)) }
theorem simAsg {K : PySem.W.Frag} {mg : MG} {te : TE} (i : Nat) (h : SimE c K mg te de) : SimS c K mg (tAsg te (gName i)) (dAsg i de) := by
  intro σ G H S B E R h1 h2 h3 h4 h'
  exact h σ G H S _ _ R (fun v H' ⟨G', S', d, A, r, q⟩ => h1 _ H' ⟨G', _, A.rp.set r, A.le, A.nle, q⟩) h'
theorem pds_set {i : Nat} {x : Str} {p : Pos} (hN : X.N.Nodup) (hi : X.N[i]? = some x) (hx : Loc X.env.scope x) (he : PDE c X e de) (hs : swapsWith e (some (.Name x p)) pos.line X.env = pure false := by rfl) (hf : X.fn x = true ∨ X.env.scope.names.lookup x = some .local := by first | exact .inl rfl | exact .inr rfl | assumption) :
    PDS c X (.Assign [.Name x p] e pos) (dAsg i de) := by
  obtain ⟨a, a1, a2⟩ := he
  exact ⟨_, ps_set hN hi hx a1 hs hf, simAsg i a2⟩
def dDrop (de : DE) : DSt := fun B S => de S fun _ S1 => B.nx S1
theorem pds_expr (he : PDE c X e de) (hs : swapsWith e none pos.line X.env = pure false := by rfl) : PDS c X (.Expr e pos) (dDrop de) := by
  obtain ⟨a, a1, a2⟩ := he
  exact ⟨_, ps_expr a1 hs, fun σ G H S B E R h1 h2 h3 h4 h => a2 σ G H S _ _ R (fun v H' ⟨G', S', d, A, r, q⟩ => h1 σ H' ⟨G', S', A.rp, A.le, A.nle, q⟩) h⟩
def dIfS (dt : DT) (t u : DSt) : DSt := fun B S => dt S fun k S1 => if k = true then t B S1 else u B S1
theorem pds_if {cE : Expr} {a b : List Stmt} (hc : PDT c X cE dt) (ha : PDSs c X a t) (hb : PDSs c X b u) : PDS c X (.If cE a b pos) (dIfS dt t u) := by
  obtain ⟨tc, c1, c2⟩ := hc
  obtain ⟨ta, a1, a2⟩ := ha
  obtain ⟨tb, b1, b2⟩ := hb
  refine ⟨_, ps_if c1 a1 b1, fun σ G H S B E R h1 h2 h3 h4 h => ?_⟩
  refine c2 σ G H S _ _ R (fun k H1 ⟨G1, S1, A1, q⟩ => ?_) h
  cases k with
  | true => exact a2 σ G1 H1 S1 B E A1.rp (fun σ' H' z => h1 σ' H' (z.of A1.le A1.nle)) h2 (fun σ' H' z => h3 σ' H' (z.of A1.le A1.nle)) (fun σ' H' z => h4 σ' H' (z.of A1.le A1.nle)) q
  | false => exact b2 σ G1 H1 S1 B E A1.rp (fun σ' H' z => h1 σ' H' (z.of A1.le A1.nle)) h2 (fun σ' H' z => h3 σ' H' (z.of A1.le A1.nle)) (fun σ' H' z => h4 σ' H' (z.of A1.le A1.nle)) q
/-- a, b = x, y (plain locals) -/
def dPar (i j : Nat) (das : DA) : DSt := fun B S => das S fun ds S1 => ∃ x y, ds = [x, y] ∧ B.nx { S1 with sl := (S1.sl.set i (some (.p x))).set j (some (.p y)) }
theorem pds_par {i j : Nat} {x y : Str} {a b : Expr} {das : DA} {px py pt : Pos} {kt k2 : Nat} {pt2 : Pos} (hc : X.calm = true) (hN : X.N.Nodup) (hi : X.N[i]? = some x) (hj : X.N[j]? = some y) (hij : i ≠ j)
    (hx : X.env.scope.names.lookup x = some .local) (hy : X.env.scope.names.lookup y = some .local) (ha : PDA c X [a, b] das)
    (hw : swappedStores [.Tuple [.Name x px, .Name y py] kt pt] (.Tuple [a, b] k2 pt2) X.env = pure (some [x, y]))
    (hs : swapsWithSole [.Tuple [.Name x px, .Name y py] kt pt] (.Tuple [a, b] k2 pt2) pos.line X.env = pure false := by rfl) :
    PDS c X (.Assign [.Tuple [.Name x px, .Name y py] kt pt] (.Tuple [a, b] k2 pt2) pos) (dPar i j das) := by
  obtain ⟨ta, a1, a2⟩ := ha
  refine ⟨_, ps_par hc hN hi hj hij hx hy a1 hw hs, fun σ G H S B E R h1 h2 h3 h4 h => ?_⟩
  refine a2 σ G H S _ _ R (fun vs H' ⟨G', S', ds, A, r, q⟩ => ?_) h
  obtain ⟨d1, d2, e, q⟩ := q
  subst e
  cases r with
  | cons r1 r =>
    cases r with
    | cons r2 r =>
      cases r
      exact ⟨_, _, rfl, h1 _ H' ⟨G', _, (A.rp.set r1).set (i := j) (d := d2) r2, A.le, A.nle, q⟩⟩
def dPar3 (i j l : Nat) (das : DA) : DSt := fun B S => das S fun ds S1 => ∃ x y z, ds = [x, y, z] ∧ B.nx { S1 with sl := ((S1.sl.set i (some (.p x))).set j (some (.p y))).set l (some (.p z)) }
theorem pds_par3 {i j l : Nat} {x y z : Str} {a b d : Expr} {das : DA} {px py pz pt : Pos} {kt k2 : Nat} {pt2 : Pos} (hc : X.calm = true) (hN : X.N.Nodup) (hi : X.N[i]? = some x) (hj : X.N[j]? = some y) (hl : X.N[l]? = some z) (hij : i ≠ j) (hil : i ≠ l) (hjl : j ≠ l)
    (hx : X.env.scope.names.lookup x = some .local) (hy : X.env.scope.names.lookup y = some .local) (hz : X.env.scope.names.lookup z = some .local) (ha : PDA c X [a, b, d] das)
    (hw : swappedStores [.Tuple [.Name x px, .Name y py, .Name z pz] kt pt] (.Tuple [a, b, d] k2 pt2) X.env = pure (some [x, y, z]))
    (hs : swapsWithSole [.Tuple [.Name x px, .Name y py, .Name z pz] kt pt] (.Tuple [a, b, d] k2 pt2) pos.line X.env = pure false := by rfl) :
    PDS c X (.Assign [.Tuple [.Name x px, .Name y py, .Name z pz] kt pt] (.Tuple [a, b, d] k2 pt2) pos) (dPar3 i j l das) := by
  obtain ⟨ta, a1, a2⟩ := ha
  refine ⟨_, ps_par3 hc hN hi hj hl hij hil hjl hx hy hz a1 hw hs, fun σ G H S B E R h1 h2 h3 h4 h => ?_⟩
  refine a2 σ G H S _ _ R (fun vs H' ⟨G', S', ds, A, r, q⟩ => ?_) h
  obtain ⟨d1, d2, d3, e, q⟩ := q
  subst e
  cases r with
  | cons r1 r =>
    cases r with
    | cons r2 r =>
      cases r with
      | cons r3 r =>
        cases r
        exact ⟨_, _, _, rfl, h1 _ H' ⟨G', _, ((A.rp.set r1).set (i := j) (d := d2) r2).set (i := l) (d := d3) r3, A.le, A.nle, q⟩⟩
/-! ### targets -/
def dgName (i : Nat) : DG := fun d S Q => Q { S with sl := S.sl.set i (some (.p d)) }
theorem simgName {K : PySem.W.Frag} {mg : MG} (i : Nat) : SimG c K mg (gName i) (dgName i) := fun σ G H S v d Qd Q R r hQ h => hQ _ H ⟨G, _, R.set r, by show Le c.T (S.n - S.n) G G; rw [Nat.sub_self]; exact .refl _ _, Nat.le_refl _, h⟩
theorem pdg_name {i : Nat} {x : Str} (hN : X.N.Nodup) (hi : X.N[i]? = some x) (hx : Loc X.env.scope x) (hf : X.fn x = true ∨ X.env.scope.names.lookup x = some .local := by first | exact .inl rfl | exact .inr rfl | assumption) : PDG c X (.Name x pos) (dgName i) :=
  ⟨_, pg_name hN hi hx hf, simgName i⟩
abbrev DGs := List D → DS → (DS → Prop) → Prop
def SimGs (c : Ct) (K : PySem.W.Frag) (mg : MG) (t : TGs) (g : DGs) : Prop := ∀ σ G H S vs ds Qd (Q : Sig → Hp → Prop), Rp c K mg σ G H S → RepAll K mg G S.n vs ds → (∀ σ' H', (∃ G' S', Rp c K mg σ' G' H' S' ∧ Le c.T (S.n - S'.n) G G' ∧ S'.n ≤ S.n ∧ Qd S') → Q σ' H') → g ds S Qd → t vs σ H Q
def PDGs (c : Ct) (X : Cx) (ts : List Expr) (g : DGs) : Prop := ∃ t, PGs X ts t ∧ SimGs c X.K X.mg t g
def dgNil : DGs := fun ds S Q => ds = [] ∧ Q S
def dgCons (g : DG) (gs : DGs) : DGs := fun ds S Q => ∃ d r, ds = d :: r ∧ g d S fun S1 => gs r S1 Q
theorem pdgs_nil : PDGs c X [] dgNil := ⟨_, pgs_nil, fun σ G H S vs ds Qd Q R r hQ h => by
  obtain ⟨e, h⟩ := h
  subst e
  cases r
  exact ⟨rfl, hQ σ H ⟨G, S, R, by rw [Nat.sub_self]; exact .refl _ _, Nat.le_refl _, h⟩⟩⟩
theorem pdgs_cons {es : List Expr} {g : DG} {gs : DGs} (h1 : PDG c X e g) (h2 : PDGs c X es gs) (hs : (assignEach (e :: es) X.env).map (·.2) = assign e X.env :: (assignEach es X.env).map (·.2) := by rfl) : PDGs c X (e :: es) (dgCons g gs) := by
  obtain ⟨a, a1, a2⟩ := h1
  obtain ⟨b, b1, b2⟩ := h2
  refine ⟨_, pgs_cons a1 b1 hs, fun σ G H S vs ds Qd Q R r hQ h => ?_⟩
  obtain ⟨d, dr, e1, h⟩ := h
  subst e1
  cases r with
  | cons r1 r =>
    refine ⟨_, _, rfl, a2 σ G H S _ d _ _ R r1 (fun σ1 H1 ⟨G1, S1, R1, l1, n1, q⟩ => ?_) h⟩
    refine b2 σ1 G1 H1 S1 _ dr _ _ R1 (r.up l1 (by omega)) (fun σ2 H2 ⟨G2, S2, R2, l2, n2, q2⟩ => ?_) q
    refine hQ σ2 H2 ⟨G2, S2, R2, ?_, Nat.le_trans n2 n1, q2⟩
    have z := l1.trans l2
    have e3 : S.n - S1.n + (S1.n - S2.n) = S.n - S2.n := by omega
    rw [e3] at z
    exact z
def dgTup (n : Nat) (gs : DGs) : DG := fun d S Q => ∃ l, d = .tup l ∧ l.length = n ∧ gs l S Q
theorem pdg_tup {es : List Expr} {k : Nat} {gs : DGs} {n : Nat} (hc : X.calm = true) (h : PDGs c X es gs) (hn : (assignEach es X.env).length = n := by rfl) (hst : (assignEach es X.env).findIdx? (·.1) = none := by rfl) : PDG c X (.Tuple es k pos) (dgTup n gs) := by
  obtain ⟨a, a1, a2⟩ := h
  refine ⟨_, pg_tup hc a1 hn hst, fun σ G H S v d Qd Q R r hQ h => ?_⟩
  obtain ⟨l, e1, hl, h⟩ := h
  subst e1
  cases r with
  | @tup p xs ds hs hr =>
    have hs' : SqT X.K H p xs := by
      rcases hs with (z | ⟨o, z⟩) | z
      · exact .inl (.inl (R.sub _ _ z))
      · exact .inl (.inr ⟨o, R.sub _ _ z⟩)
      · exact .inr z
    exact ⟨p, xs, rfl, hs', hr.length.trans hl, a2 σ G H S xs l Qd Q R hr hQ h⟩
def dAsgG (de : DE) (g : DG) : DSt := fun B S => de S fun d S1 => g d S1 B.nx
theorem pds_asg {tg : Expr} {g : DG} (he : PDE c X e de) (hg : PDG c X tg g) (hs : swapsWithSole [tg] e pos.line X.env = pure false := by rfl) (hw : swappedStores [tg] e X.env = pure none := by rfl)
    (h1 : (assignEach [tg] X.env).map (·.2) = [assign tg X.env] := by rfl) : PDS c X (.Assign [tg] e pos) (dAsgG de g) := by
  obtain ⟨a, a1, a2⟩ := he
  obtain ⟨b, b1, b2⟩ := hg
  refine ⟨_, ps_asg a1 b1 hs hw h1, fun σ G H S B E R h1 h2 h3 h4 h => ?_⟩
  refine a2 σ G H S _ _ R (fun v H' ⟨G', S', d, A, r, q⟩ => ?_) h
  exact b2 σ G' H' S' v d _ _ A.rp r (fun σ2 H2 ⟨G2, S2, R2, l2, n2, q2⟩ => h1 σ2 H2 ⟨G2, S2, R2, le_trans' A.le A.nle l2 n2, Nat.le_trans n2 A.nle, q2⟩) q
end
end DL
set_option maxHeartbeats 1000000
namespace DL
open PySem PySem.Spec PyProof.Rows L2
/-! ### data as the library's data -/
mutual
def D.py : D → PyData
  | .non => .none
  | .bl b => .bool b
  | .int i => .int i
  | .str s => .str s
  | .lst l => .list (D.pys l)
  | .tup l => .tuple (D.pys l)
  | .dct _ => .none
  | .fn _ => .none
  | .ty _ => .none
  | .dice => .none
  | .dn _ => .none
def D.pys : List D → List PyData
  | [] => []
  | d :: ds => D.py d :: D.pys ds
end
mutual
/-- none, bools, ints, texts, lists and tuples of them -/
def D.plain : D → Bool
  | .dct _ => false
  | .fn _ => false
  | .ty _ => false
  | .dice => false
  | .dn _ => false
  | .lst l => D.plains l
  | .tup l => D.plains l
  | _ => true
def D.plains : List D → Bool
  | [] => true
  | d :: ds => D.plain d && D.plains ds
end
def D.ok (d : D) : Bool := d.plain && SeqAt.shaped d.py
theorem pys_map : ∀ l : List D, D.pys l = l.map D.py
  | [] => rfl
  | d :: l => by rw [D.pys, pys_map l]; rfl
theorem plains_all : ∀ l : List D, D.plains l = l.all D.plain
  | [] => rfl
  | d :: l => by rw [D.plains, plains_all l]; rfl
section
variable {K : PySem.W.Frag} {mg : MG} {G H : Hp} {n : Nat}
theorem rd_sub {a : Addr} {u : HO} (s : Sub G H) (h : Rd G a u) : Rd H a u := by
  rcases h with h | ⟨o, h⟩
  · exact .inl (s _ _ h)
  · exact .inr ⟨o, s _ _ h⟩
theorem sqL_sub {a : Addr} {xs : List V} (s : Sub G H) (h : SqL K G a xs) : SqL K H a xs := h.elim (fun h => .inl (rd_sub s h)) .inr
theorem sqT_sub {a : Addr} {xs : List V} (s : Sub G H) (h : SqT K G a xs) : SqT K H a xs := by
  rcases h with h | h
  · exact .inl (rd_sub s h)
  · exact .inr h
mutual
theorem Rep.dp (s : Sub G H) : ∀ {d : D} {v : V}, Rep K mg G n v d → d.plain = true → Dp K H v d.py
  | .non, _, .non, _ => .non
  | .bl _, _, .bl b, _ => .bl b
  | .int _, _, .int i, _ => .int i
  | .str _, _, .str x, _ => .str x
  | .lst l, _, .lst h a, p => .lst (sqL_sub s h) (RepAll.dp s a p)
  | .tup l, _, .tup h a, p => .tup (sqT_sub s h) (RepAll.dp s a p)
  | .dct _, _, _, p => nomatch p
  | .fn _, _, _, p => nomatch p
  | .ty _, _, _, p => nomatch p
  | .dice, _, _, p => nomatch p
  | .dn _, _, _, p => nomatch p
theorem RepAll.dp (s : Sub G H) : ∀ {ds : List D} {vs : List V}, RepAll K mg G n vs ds → D.plains ds = true → DpAll K H vs (D.pys ds)
  | [], _, .nil, _ => .nil
  | d :: ds, _, .cons a b, p => by
    have p' : (D.plain d && D.plains ds) = true := p
    rw [Bool.and_eq_true] at p'
    exact .cons (Rep.dp s a p'.1) (RepAll.dp s b p'.2)
end
end
/-! ### one of two readings -/
theorem OpR.or {X : Cx} {f : Value → Value → Sem Value} {r r' : R2} (h : OpR X f r) (h' : OpR X f r') : OpR X f fun x y H Q => r x y H Q ∨ r' x y H Q := by
  intro pins s σ H x y v u Q I rx ry q
  rcases q with q | q
  · exact h pins s σ H x y v u Q I rx ry q
  · exact h' pins s σ H x y v u Q I rx ry q
theorem CallR.or {X : Cx} {f : Value} {r r' : List V → Hp → VK → Prop} (h : CallR X f r) (h' : CallR X f r') : CallR X f fun xs H Q => r xs H Q ∨ r' xs H Q := by
  intro pins s σ H xs us Q I rx q
  rcases q with q | q
  · exact h pins s σ H xs us Q I rx q
  · exact h' pins s σ H xs us Q I rx q
section
variable {c : Ct} {X : Cx}
theorem OpD.or {f : Value → Value → Sem Value} {g g' : D → D → Option D} {G : D → D → Option D} (h : OpD c X f g) (h' : OpD c X f g') (e : ∀ x y z, G x y = some z → g x y = some z ∨ g' x y = some z) : OpD c X f G := by
  obtain ⟨r, a, b⟩ := h
  obtain ⟨r', a', b'⟩ := h'
  refine ⟨_, OpR.or a a', fun G H n x y dx dy z Q s rx ry q hq => ?_⟩
  rcases e dx dy z q with q | q
  · exact .inl (b G H n x y dx dy z Q s rx ry q hq)
  · exact .inr (b' G H n x y dx dy z Q s rx ry q hq)
theorem CallD.or {f : Value} {g g' G : List D → Option D} (h : CallD c X f g) (h' : CallD c X f g') (e : ∀ x z, G x = some z → g x = some z ∨ g' x = some z) : CallD c X f G := by
  obtain ⟨r, a, b⟩ := h
  obtain ⟨r', a', b'⟩ := h'
  refine ⟨_, CallR.or a a', fun G H n x dx z Q s rx q hq => ?_⟩
  rcases e dx z q with q | q
  · exact .inl (b G H n x dx z Q s rx q hq)
  · exact .inr (b' G H n x dx z Q s rx q hq)
/-! ### ints -/
def g2I (p : Int → Int → Bool) (f : Int → Int → D) : D → D → Option D
  | .int i, .int j => if p i j = true then some (f i j) else none
  | _, _ => none
theorem g2I_some {p : Int → Int → Bool} {f : Int → Int → D} {x y z : D} (h : g2I p f x y = some z) : ∃ i j, x = .int i ∧ y = .int j ∧ p i j = true ∧ z = f i j := by
  unfold g2I at h
  split at h
  · split at h
    · exact ⟨_, _, rfl, rfl, by assumption, (Option.some.inj h).symm⟩
    · cases h
  · cases h
theorem opd_I {f : Value → Value → Sem Value} {C : Int → Int → Prop} {g : Int → Int → V} {p : Int → Int → Bool} {gd : Int → Int → D} (ho : OpR X f (rI C g)) (hp : ∀ i j, p i j = true → C i j) (hg : ∀ i j G n, Rep X.K X.mg G n (g i j) (gd i j)) : OpD c X f (g2I p gd) := by
  refine ⟨_, ho, fun G H n x y dx dy z Q s rx ry q hq => ?_⟩
  obtain ⟨i, j, e1, e2, e3, e4⟩ := g2I_some q
  subst e1 e2 e4
  cases rx
  cases ry
  exact ⟨i, j, rfl, rfl, hp i j e3, hq _ G H (.refl s) (hg i j G n)⟩
theorem opd_I0 {f : Value → Value → Sem Value} {g : Int → Int → V} {gd : Int → Int → D} (ho : OpR X f (rI0 g)) (hg : ∀ i j G n, Rep X.K X.mg G n (g i j) (gd i j)) : OpD c X f (g2I (fun _ _ => true) gd) := by
  refine ⟨_, ho, fun G H n x y dx dy z Q s rx ry q hq => ?_⟩
  obtain ⟨i, j, e1, e2, e3, e4⟩ := g2I_some q
  subst e1 e2 e4
  cases rx
  cases ry
  exact ⟨i, j, rfl, rfl, hq _ G H (.refl s) (hg i j G n)⟩
def bMul (i j : Int) : Bool := (decide (-(2 ^ 64) < i) && decide (i < 2 ^ 64)) || (decide (-(2 ^ 64) < j) && decide (j < 2 ^ 64))
def bDiv (_ j : Int) : Bool := decide (0 < j) && decide (j < 1073741824)
def bPow (i j : Int) : Bool := decide (0 ≤ j) && decide (j ≤ 1000000) && decide (i.natAbs < 2 ^ 64)
def bTrue (_ _ : Int) : Bool := true
theorem od_sub : OpD c X (binaryOp .Sub) (g2I bTrue fun i j => .int (i - j)) := opd_I0 op_sub fun i j _ _ => .int _
theorem od_div : OpD c X (binaryOp .FloorDiv) (g2I bDiv fun i j => .int (i / j)) := opd_I op_fdiv (fun i j h => by
  unfold bDiv at h
  simp only [Bool.and_eq_true, decide_eq_true_eq] at h
  exact h) fun i j _ _ => .int _
theorem od_mod : OpD c X (binaryOp .Mod) (g2I (fun _ j => decide (0 < j)) fun i j => .int (i % j)) := opd_I op_mod (fun i j h => of_decide_eq_true h) fun i j _ _ => .int _
theorem od_pow : OpD c X (binaryOp .Pow) (g2I bPow fun i j => .int (i ^ j.toNat)) := opd_I op_pow (fun i j h => by
  unfold bPow at h
  simp only [Bool.and_eq_true, decide_eq_true_eq] at h
  exact ⟨h.1.1, h.1.2, h.2⟩) fun i j _ _ => .int _
theorem od_shl : OpD c X (binaryOp .LShift) (g2I bPow fun i j => .int (i * 2 ^ j.toNat)) := opd_I op_shl (fun i j h => by
  unfold bPow at h
  simp only [Bool.and_eq_true, decide_eq_true_eq] at h
  exact ⟨h.1.1, h.1.2, h.2⟩) fun i j _ _ => .int _
theorem od_shr : OpD c X (binaryOp .RShift) (g2I (fun _ j => decide (0 ≤ j)) fun i j => .int (i / 2 ^ j.toNat)) := opd_I op_shr (fun i j h => of_decide_eq_true h) fun i j _ _ => .int _
theorem od_lt : OpD c X (compareOp .Lt) (g2I bTrue fun i j => .bl (decide (i < j))) := opd_I0 op_lt fun i j _ _ => .bl _
theorem od_le : OpD c X (compareOp .LtE) (g2I bTrue fun i j => .bl (decide (i ≤ j))) := opd_I0 op_le fun i j _ _ => .bl _
theorem od_gt : OpD c X (compareOp .Gt) (g2I bTrue fun i j => .bl (decide (j < i))) := opd_I0 op_gt fun i j _ _ => .bl _
theorem od_ge : OpD c X (compareOp .GtE) (g2I bTrue fun i j => .bl (decide (j ≤ i))) := opd_I0 op_ge fun i j _ _ => .bl _
/-! ### + -/
theorem rd_lst {K : PySem.W.Frag} {H : Hp} {a : Addr} {xs : List V} (h : Rd H a (.lst xs)) : SqL K H a xs := .inl h
def rCatR (K : PySem.W.Frag) : R2 := fun x y H Q => ∃ l b xs zs, x = .ref l ∧ y = .ref b ∧ SqL K H l xs ∧ SqL K H b zs ∧ xs.length + zs.length ≤ sizeLine ∧ ∀ p, H p = none → Q (.ref p) (upd H p (.lst (xs ++ zs)))
theorem op_catR : OpR X (binaryOp .Add) (rCatR X.K) := by
  intro pins s σ H x y v u Q I rx ry h
  obtain ⟨l, b, xs, zs, rfl, rfl, hH, hB, hz, q⟩ := h
  cases rx
  cases ry
  obtain ⟨its, r, ⟨⟨cls, dd, data, sl⟩, n, ho, hc, hd, he⟩, z⟩ := I.list hH
  obtain ⟨its2, r2, ⟨⟨cls2, dd2, data2, sl2⟩, n2, ho2, hc2, hd2, he2⟩, z2⟩ := I.list hB
  simp only at hc hd he hc2 hd2 he2
  subst hc hd he hc2 hd2 he2
  have l1 := r.length
  have l2 := r2.length
  refine concat_meets ⟨_, ho, rfl⟩ ⟨_, ho2, rfl⟩ noFill_list_add seq_list_add PySem.F.slot_list_add PySem.F.entry_list_add (PySem.F.args_list_add_2 _ _) (list_addW l b its.toArray its2.toArray n n2 none none sl sl2 (by rw [List.size_toArray, List.size_toArray]; omega)) ⟨ho, ho2, ?_⟩
  have ea : its.toArray ++ its2.toArray = (its ++ its2).toArray := by simp
  rw [ea]
  exact ⟨.ref _, _, I.lnew (t' := s.toks) (r.append r2) (by rw [List.length_append]; omega), rfl, q _ I.fresh⟩
def gAddS : D → D → Option D
  | .str a, .str b => if a.length + b.length ≤ 16777216 then some (.str (a ++ b)) else none
  | _, _ => none
def gAddL : D → D → Option D
  | .lst a, .lst b => if a.length + b.length ≤ 16777216 then some (.lst (a ++ b)) else none
  | _, _ => none
def gAddT : D → D → Option D
  | .tup a, .tup b => if a.length + b.length ≤ 16777216 then some (.tup (a ++ b)) else none
  | _, _ => none
def gAdd : D → D → Option D
  | .int i, .int j => some (.int (i + j))
  | .str a, .str b => if a.length + b.length ≤ 16777216 then some (.str (a ++ b)) else none
  | .lst a, .lst b => if a.length + b.length ≤ 16777216 then some (.lst (a ++ b)) else none
  | .tup a, .tup b => if a.length + b.length ≤ 16777216 then some (.tup (a ++ b)) else none
  | _, _ => none
theorem od_addS : OpD c X (binaryOp .Add) gAddS := ⟨_, op_add_str, fun G H n x y dx dy z Q s rx ry q hq => by
  unfold gAddS at q
  split at q
  · split at q
    · cases rx
      cases ry
      cases q
      exact ⟨_, _, rfl, rfl, by rw [sizeLine_eq]; assumption, hq _ G H (.refl s) (.str _)⟩
    · cases q
  · cases q⟩
theorem od_addL : OpD c X (binaryOp .Add) gAddL := ⟨_, op_catR, fun G H n x y dx dy z Q s rx ry q hq => by
  unfold gAddL at q
  split at q
  · split at q
    · rename_i hl
      cases rx with
      | @lst p1 xs ds1 h1 a1 =>
        cases ry with
        | @lst p2 ys ds2 h2 a2 =>
          cases q
          refine ⟨_, _, _, _, rfl, rfl, sqL_sub s h1, sqL_sub s h2, by rw [a1.length, a2.length, sizeLine_eq]; exact hl, fun p np => ?_⟩
          have g : Gw c.T 0 G H _ _ := .alloc (o := .lst (xs ++ ys)) s np
          exact hq _ _ _ g (.lst (.inl (.inl upd_same)) ((a1.append a2).up g.le (Nat.le_refl _)))
    · cases q
  · cases q⟩
theorem od_addT : OpD c X (binaryOp .Add) gAddT := ⟨_, op_catA, fun G H n x y dx dy z Q s rx ry q hq => by
  unfold gAddT at q
  split at q
  · split at q
    · rename_i hl
      cases rx with
      | @tup p1 xs ds1 h1 a1 =>
        cases ry with
        | @tup p2 ys ds2 h2 a2 =>
          cases q
          refine ⟨_, _, _, _, rfl, rfl, sqT_sub s h1, sqT_sub s h2, by rw [a1.length, a2.length, sizeLine_eq]; exact hl, fun e => ?_, fun e1 e2 => ?_, fun e1 e2 p np => ?_⟩
          · subst e
            cases a1
            exact hq _ G H (.refl s) (.tup h2 a2)
          · subst e2
            cases a2
            exact hq _ G H (.refl s) (by rw [List.append_nil]; exact .tup h1 a1)
          · have g : Gw c.T 0 G H _ _ := .alloc (o := .tup (xs ++ ys)) s np
            exact hq _ _ _ g (.tup (SqT.of upd_same) ((a1.append a2).up g.le (Nat.le_refl _)))
    · cases q
  · cases q⟩
theorem od_add : OpD c X (binaryOp .Add) gAdd := by
  refine OpD.or (opd_I0 (gd := fun i j => .int (i + j)) op_add fun i j _ _ => .int _) (OpD.or od_addS (OpD.or (G := fun x y => (gAddL x y).or (gAddT x y)) od_addL od_addT fun x y z h => ?_) (G := fun x y => (gAddS x y).or ((gAddL x y).or (gAddT x y))) fun x y z h => ?_) fun x y z h => ?_
  · cases e : gAddL x y with
    | none => rw [e] at h; exact .inr h
    | some w => rw [e] at h; exact .inl h
  · cases e : gAddS x y with
    | none => rw [e] at h; exact .inr h
    | some w => rw [e] at h; exact .inl h
  · unfold gAdd at h
    split at h
    · exact .inl h
    · exact .inr (by simpa [gAddS, gAddL, gAddT] using h)
    · exact .inr (by simpa [gAddS, gAddL, gAddT] using h)
    · exact .inr (by simpa [gAddS, gAddL, gAddT] using h)
    · cases h
/-! ### * -/
theorem repAll_flat {K : PySem.W.Frag} {mg : MG} {G : Hp} {n : Nat} {vs : List V} {ds : List D} (r : RepAll K mg G n vs ds) : ∀ k : Nat, RepAll K mg G n (List.replicate k vs).flatten (List.replicate k ds).flatten
  | 0 => .nil
  | k + 1 => by
    rw [List.replicate_succ, List.flatten_cons, List.replicate_succ, List.flatten_cons]
    exact r.append (repAll_flat r k)
def dRep (t : DA) (db : DE) : DE := fun S Q => t S fun xs S1 => xs.length ≤ 16777216 ∧ db S1 fun y S2 => ∃ k, y = .int k ∧ -(2 ^ 63) ≤ k ∧ k < 2 ^ 63 ∧ xs.length * k.toNat ≤ 16777216 ∧ Q (.lst (List.replicate k.toNat xs).flatten) S2
/-- [..] * b -/
theorem pd_rep {es : List Expr} {b : Expr} {das : DA} {db : DE} {p1 pos : Pos} (ha : PDA c X es das) (hb : PDE c X b db) : PDE c X (.BinOp (.List es p1) .Mult b pos) (dRep das db) := by
  obtain ⟨ta, a1, a2⟩ := ha
  obtain ⟨tb, b1, b2⟩ := hb
  refine ⟨_, pe_op op_rep (pe_lst a1) b1, fun σ G H S Qd Q R hQ h => ?_⟩
  refine a2 σ G H S _ _ R (fun vs H1 ⟨G1, S1, ds, A1, r1, h1⟩ => ?_) h
  obtain ⟨hz, h1⟩ := h1
  refine ⟨by rw [r1.length, sizeLine_eq]; exact hz, fun p np => ?_⟩
  have A2 := Aft.gw0 A1.rp (.alloc (o := .lst vs) A1.rp.sub np)
  refine b2 σ _ _ S1 _ _ A2.rp (fun v H3 ⟨G3, S3, dy, A3, r3, h3⟩ => ?_) h1
  obtain ⟨k, ek, k1, k2, k3, h3⟩ := h3
  subst ek
  cases r3
  have hp : G3 p = some (.lst vs) := A3.le.keep p _ upd_same firm_lst
  refine ⟨p, k, vs, rfl, rfl, A3.rp.sub _ _ hp, k1, k2, by rw [r1.length, sizeLine_eq]; exact k3, fun q nq => ?_⟩
  have g : Gw c.T 0 G3 H3 _ _ := .alloc (o := .lst (List.replicate k.toNat vs).flatten) A3.rp.sub nq
  have A4 := Aft.gw0 A3.rp g
  exact hQ _ _ ⟨_, S3, _, ((A1.trans A2).trans A3).trans A4, .lst (.inl (.inl upd_same)) (repAll_flat (A4.repAll (A3.repAll (A2.repAll r1))) k.toNat), h3⟩
/-- a * b of ints -/
def gMul : D → D → Option D := g2I bMul fun i j => .int (i * j)
theorem od_mul : OpD c X (binaryOp .Mult) gMul := opd_I op_mul (fun i j h => by
  unfold bMul at h
  simp only [Bool.or_eq_true, Bool.and_eq_true, decide_eq_true_eq] at h
  exact h) fun i j _ _ => .int _
/-- a tuple * an int, 2 to 1000 -/
def gMulT : D → D → Option D
  | .tup a, .int k => if a ≠ [] ∧ 2 ≤ k ∧ k ≤ 1000 ∧ a.length ≤ 1000 then some (.tup (List.replicate k.toNat a).flatten) else none
  | _, _ => none
theorem od_mulT : OpD c X (binaryOp .Mult) gMulT := ⟨_, op_repT, fun G H n x y dx dy z Q s rx ry q hq => by
  unfold gMulT at q
  split at q
  · split at q
    · rename_i hl
      obtain ⟨h1, h2, h3, h4⟩ := hl
      cases rx with
      | @tup p1 xs ds1 t1 a1 =>
        cases ry
        cases q
        refine ⟨_, _, xs, rfl, rfl, sqT_sub s t1, fun e => ?_, h2, h3, by rw [a1.length]; exact h4, fun p np => ?_⟩
        · subst e
          cases a1
          exact h1 rfl
        · have g : Gw c.T 0 G H _ _ := .alloc (o := .tup (List.replicate (Int.toNat ‹Int›) xs).flatten) s np
          exact hq _ _ _ g (.tup (SqT.of upd_same) ((repAll_flat a1 _).up g.le (Nat.le_refl _)))
    · cases q
  · cases q⟩
/-! ### ==, != -/
def deq (x y : D) : Bool := PyData.eqv x.py y.py
def gEq : D → D → Option D
  | .str a, .str b => some (.bl (decide (a = b)))
  | x, y => if x.ok = true ∧ y.ok = true then some (.bl (deq x y)) else none
def gNe : D → D → Option D
  | .str a, .str b => some (.bl (!decide (a = b)))
  | x, y => if x.ok = true ∧ y.ok = true then some (.bl (!deq x y)) else none
theorem ok_plain {d : D} (h : d.ok = true) : d.plain = true ∧ SeqAt.shaped d.py = true := by
  unfold D.ok at h
  rw [Bool.and_eq_true] at h
  exact h
theorem od_eq (hu : X.A.units + 64 < cLine) : OpD c X (compareOp .Eq) gEq := ⟨_, OpR.or op_eq (op_eqD hu), fun G H n x y dx dy z Q s rx ry q hq => by
  unfold gEq at q
  split at q
  · cases rx
    cases ry
    cases q
    refine .inl ⟨rfl, ?_⟩
    have e : ∀ a b : Str, decide (V.str a = V.str b) = decide (a = b) := fun a b => by
      rw [Bool.eq_iff_iff]
      simp
    rw [e]
    exact hq _ G H (.refl s) (.bl _)
  · split at q
    · rename_i hl
      obtain ⟨h1, h2⟩ := hl
      cases q
      obtain ⟨p1, s1⟩ := ok_plain h1
      obtain ⟨p2, s2⟩ := ok_plain h2
      exact .inr ⟨_, _, rx.dp s p1, ry.dp s p2, s1, s2, hq _ G H (.refl s) (.bl _)⟩
    · cases q⟩
theorem od_ne (hu : X.A.units + 64 < cLine) : OpD c X (compareOp .NotEq) gNe := ⟨_, OpR.or op_ne (op_neD hu), fun G H n x y dx dy z Q s rx ry q hq => by
  unfold gNe at q
  split at q
  · cases rx
    cases ry
    cases q
    refine .inl ⟨rfl, ?_⟩
    have e : ∀ a b : Str, decide (V.str a = V.str b) = decide (a = b) := fun a b => by
      rw [Bool.eq_iff_iff]
      simp
    rw [e]
    exact hq _ G H (.refl s) (.bl _)
  · split at q
    · rename_i hl
      obtain ⟨h1, h2⟩ := hl
      cases q
      obtain ⟨p1, s1⟩ := ok_plain h1
      obtain ⟨p2, s2⟩ := ok_plain h2
      exact .inr ⟨_, _, rx.dp s p1, ry.dp s p2, s1, s2, hq _ G H (.refl s) (.bl _)⟩
    · cases q⟩
/-! ### is None, is True -/
def D.isNon : D → Bool
  | .non => true
  | _ => false
theorem Rep.non_iff {K : PySem.W.Frag} {mg : MG} {G : Hp} {n : Nat} {v : V} {d : D} (r : Rep K mg G n v d) : decide (v = .non) = d.isNon := by
  cases r <;> rfl
def gIsN : D → D → Option D
  | x, .non => some (.bl x.isNon)
  | _, _ => none
def gNotN : D → D → Option D
  | x, .non => some (.bl (!x.isNon))
  | _, _ => none
theorem od_isN : OpD c X (compareOp .Is) gIsN := ⟨_, op_isN, fun G H n x y dx dy z Q s rx ry q hq => by
  unfold gIsN at q
  split at q
  · cases ry
    cases q
    refine ⟨rfl, ?_⟩
    rw [rx.non_iff]
    exact hq _ G H (.refl s) (.bl _)
  · cases q⟩
theorem od_notN : OpD c X (compareOp .IsNot) gNotN := ⟨_, op_notN, fun G H n x y dx dy z Q s rx ry q hq => by
  unfold gNotN at q
  split at q
  · cases ry
    cases q
    refine ⟨rfl, ?_⟩
    rw [rx.non_iff]
    exact hq _ G H (.refl s) (.bl _)
  · cases q⟩
def gNotB : D → D → Option D
  | .bl a, .bl b => some (.bl (!decide (a = b)))
  | _, _ => none
theorem od_notB : OpD c X (compareOp .IsNot) gNotB := ⟨_, op_notBl, fun G H n x y dx dy z Q s rx ry q hq => by
  unfold gNotB at q
  split at q
  · cases rx
    cases ry
    cases q
    exact ⟨_, _, rfl, rfl, hq _ G H (.refl s) (.bl _)⟩
  · cases q⟩
end
end DL
set_option maxHeartbeats 1000000
namespace DL
open PySem PySem.Spec PyProof.Rows L2
/-! ### ints of a list -/
def intsOf : List D → Option (List Int)
  | [] => some []
  | .int i :: r => (intsOf r).map (i :: ·)
  | _ :: _ => none
theorem intsOf_map : ∀ l : List Int, intsOf (l.map D.int) = some l
  | [] => rfl
  | i :: l => by
    show (intsOf (l.map D.int)).map (i :: ·) = some (i :: l)
    rw [intsOf_map l]
    rfl
theorem intsOf_eq : ∀ {l : List D} {ns : List Int}, intsOf l = some ns → l = ns.map D.int
  | [], ns, h => by
    have e : ([] : List Int) = ns := Option.some.inj h
    rw [← e]
    rfl
  | .int i :: r, ns, h => by
    have h' : (intsOf r).map (i :: ·) = some ns := h
    cases e : intsOf r with
    | none =>
      rw [e] at h'
      cases h'
    | some ms =>
      rw [e] at h'
      have e2 : i :: ms = ns := Option.some.inj h'
      rw [intsOf_eq e, ← e2]
      rfl
  | .non :: _, _, h => nomatch h
  | .bl _ :: _, _, h => nomatch h
  | .str _ :: _, _, h => nomatch h
  | .lst _ :: _, _, h => nomatch h
  | .tup _ :: _, _, h => nomatch h
  | .dct _ :: _, _, h => nomatch h
  | .fn _ :: _, _, h => nomatch h
  | .ty _ :: _, _, h => nomatch h
  | .dice :: _, _, h => nomatch h
def itemsOf : D → Option (List D)
  | .lst l => some l
  | .tup l => some l
  | _ => none
section
variable {c : Ct} {X : Cx}
/-! ### in -/
def gInI (neg : Bool) : D → D → Option D
  | .int i, y => match (itemsOf y).bind intsOf with
    | some ns => some (.bl (if neg then !decide (i ∈ ns) else decide (i ∈ ns)))
    | none => none
  | _, _ => none
theorem inV_ints (i : Int) : ∀ ns : List Int, inV (.int i) (ns.map V.int) = decide (i ∈ ns)
  | [] => rfl
  | n :: ns => by
    have ih := inV_ints i ns
    unfold inV at ih ⊢
    rw [List.map_cons, List.any_cons, ih, Bool.eq_iff_iff]
    show ((n == i) || decide (i ∈ ns)) = true ↔ decide (i ∈ n :: ns) = true
    simp only [Bool.or_eq_true, beq_iff_eq, decide_eq_true_eq, List.mem_cons]
    constructor
    · rintro (h | h)
      · exact .inl h.symm
      · exact .inr h
    · rintro (h | h)
      · exact .inl h.symm
      · exact .inr h
theorem flat_ints : ∀ ns : List Int, (ns.map V.int).all flatV = true
  | [] => rfl
  | n :: ns => by
    rw [List.map_cons, List.all_cons, flat_ints ns]
    rfl
theorem simIn {T : TT0} {K : PySem.W.Frag} {mg : MG} (neg : Bool) : Sim2 T K mg (L2.rIn K neg) (gInI neg) := by
  intro G H n x y dx dy z Q s rx ry q hq
  unfold gInI at q
  split at q
  · cases rx
    split at q
    · rename_i i ns e
      cases q
      have fin : ∀ {xs : List V} {l : List D}, RepAll K mg G n xs l → intsOf l = some ns → xs = ns.map V.int := fun a e => by
        rw [intsOf_eq e] at a
        exact a.ints_inv
      cases ry with
      | lst h a =>
        have ex := fin a e
        subst ex
        refine ⟨_, _, rfl, .inl (sqL_sub s h), rfl, flat_ints ns, ?_⟩
        rw [inV_ints]
        exact hq _ G H (.refl s) (.bl _)
      | tup h a =>
        have ex := fin a e
        subst ex
        refine ⟨_, _, rfl, .inr (sqT_sub s h), rfl, flat_ints ns, ?_⟩
        rw [inV_ints]
        exact hq _ G H (.refl s) (.bl _)
      | _ => cases e
    · cases q
  · cases q
theorem od_inI : OpD c X (compareOp .In) (gInI false) := ⟨_, op_in_seq, simIn false⟩
theorem od_notInI : OpD c X (compareOp .NotIn) (gInI true) := ⟨_, op_notIn_seq, simIn true⟩
def gInD (neg : Bool) : D → D → Option D
  | x, .lst l => if x.ok = true ∧ (D.lst l).ok = true then some (.bl (if neg then !(l.any fun z => deq z x) else l.any fun z => deq z x)) else none
  | _, _ => none
theorem any_py (x : PyData) : ∀ l : List D, ((D.pys l).any fun z => PyData.eqv z x) = l.any fun z => PyData.eqv z.py x
  | [] => rfl
  | d :: l => by rw [D.pys, List.any_cons, List.any_cons, any_py x l]
theorem od_inD (hu : X.A.units + 65 < cLine) : OpD c X (compareOp .In) (gInD false) := ⟨_, op_inD hu, fun G H n x y dx dy z Q s rx ry q hq => by
  unfold gInD at q
  split at q
  · split at q
    · rename_i hl
      obtain ⟨h1, h2⟩ := hl
      cases q
      obtain ⟨p1, s1⟩ := ok_plain h1
      obtain ⟨p2, s2⟩ := ok_plain h2
      refine ⟨_, _, rx.dp s p1, ry.dp s p2, s1, s2, ?_⟩
      rw [any_py]
      exact hq _ G H (.refl s) (.bl _)
    · cases q
  · cases q⟩
theorem od_notInD (hu : X.A.units + 65 < cLine) : OpD c X (compareOp .NotIn) (gInD true) := ⟨_, op_notInD hu, fun G H n x y dx dy z Q s rx ry q hq => by
  unfold gInD at q
  split at q
  · split at q
    · rename_i hl
      obtain ⟨h1, h2⟩ := hl
      cases q
      obtain ⟨p1, s1⟩ := ok_plain h1
      obtain ⟨p2, s2⟩ := ok_plain h2
      refine ⟨_, _, rx.dp s p1, ry.dp s p2, s1, s2, ?_⟩
      rw [any_py]
      exact hq _ G H (.refl s) (.bl _)
    · cases q
  · cases q⟩
/-- one sign in a text -/
def gInS (neg : Bool) : D → D → Option D
  | .str ⟨⟨[k]⟩⟩, .str z => some (.bl (if neg then !decide (k ∈ z.cps.toList) else decide (k ∈ z.cps.toList)))
  | _, _ => none
theorem od_inS : OpD c X (compareOp .In) (gInS false) := ⟨_, op_in_sign, fun G H n x y dx dy z Q s rx ry q hq => by
  unfold gInS at q
  split at q
  · cases rx
    cases ry
    cases q
    exact ⟨_, _, rfl, rfl, hq _ G H (.refl s) (.bl _)⟩
  · cases q⟩
theorem od_notInS : OpD c X (compareOp .NotIn) (gInS true) := ⟨_, op_notIn_sign, fun G H n x y dx dy z Q s rx ry q hq => by
  unfold gInS at q
  split at q
  · cases rx
    cases ry
    cases q
    exact ⟨_, _, rfl, rfl, hq _ G H (.refl s) (.bl _)⟩
  · cases q⟩
/-! ### -a -/
def dNeg (da : DE) : DE := fun S Q => da S fun x S1 => ∃ i, x = .int i ∧ Q (.int (-i)) S1
theorem pd_neg {a : Expr} {da : DE} {pos : Pos} (ha : PDE c X a da) : PDE c X (.UnaryOp .USub a pos) (dNeg da) := by
  obtain ⟨ta, a1, a2⟩ := ha
  refine ⟨_, pe_un un_neg a1, fun σ G H S Qd Q R hQ h => ?_⟩
  refine a2 σ G H S _ _ R (fun x H1 ⟨G1, S1, dx, A1, r1, h1⟩ => ?_) h
  obtain ⟨i, e, h1⟩ := h1
  subst e
  cases r1
  exact ⟨i, rfl, hQ _ H1 ⟨G1, S1, _, A1, .int _, h1⟩⟩
/-! ### subscripts -/
def gIx : D → D → Option D
  | .lst l, .int i => atI l i
  | .tup l, .int i => atI l i
  | .str z, .int i => if z.length ≤ 16777216 then (atI z.cps.toList i).map fun k => .str ⟨#[k]⟩ else none
  | _, _ => none
theorem atI_rep {K : PySem.W.Frag} {mg : MG} {G : Hp} {n : Nat} {xs : List V} {ds : List D} {i : Int} {d : D} (r : RepAll K mg G n xs ds) (h : atI ds i = some d) : ∃ v, atI xs i = some v ∧ Rep K mg G n v d := by
  unfold atI at h ⊢
  rw [r.length]
  cases e : ixN ds.length i with
  | none =>
    rw [e] at h
    cases h
  | some j =>
    rw [e] at h
    exact r.get h
theorem pd_ix {a b : Expr} {da db : DE} {pos : Pos} (ha : PDE c X a da) (hb : PDE c X b db) (hs : PlainIx b := by intro _ _; rfl) : PDE c X (.Subscript a b pos) (dOp gIx da db) := by
  obtain ⟨ta, a1, a2⟩ := ha
  obtain ⟨tb, b1, b2⟩ := hb
  refine ⟨_, pe_ix ix_seq a1 b1 hs, simOp rfl (fun G H n x y dx dy z Q s rx ry q hq => ?_) a2 b2⟩
  unfold gIx at q
  split at q
  · cases rx with
    | lst h a =>
      cases ry
      obtain ⟨v, e, r⟩ := atI_rep a q
      exact .inl ⟨_, _, _, v, rfl, rfl, sqL_sub s h, e, hq v G H (.refl s) r⟩
  · cases rx with
    | tup h a =>
      cases ry
      obtain ⟨v, e, r⟩ := atI_rep a q
      exact .inr (.inl ⟨_, _, _, v, rfl, rfl, sqT_sub s h, e, hq v G H (.refl s) r⟩)
  · split at q
    · rename_i hz
      cases rx
      cases ry
      rename_i z' i'
      cases e : atI z'.cps.toList i' with
      | none =>
        rw [e] at q
        cases q
      | some k =>
        rw [e] at q
        have e2 : D.str ⟨#[k]⟩ = z := Option.some.inj q
        subst e2
        exact .inr (.inr ⟨_, _, k, rfl, rfl, by rw [sizeLine_eq]; exact hz, e, hq _ G H (.refl s) (.str _)⟩)
    · cases q
  · cases q
/-! ### slices -/
abbrev DO := DS → (Option Int → DS → Prop) → Prop
def SimO (c : Ct) (K : PySem.W.Frag) (mg : MG) (t : TO) (d : DO) : Prop := ∀ σ G H S (Qd : Option Int → DS → Prop) (Q : Option Int → Hp → Prop), Rp c K mg σ G H S → (∀ o H', (∃ G' S', Aft c K mg σ G H S H' G' S' ∧ Qd o S') → Q o H') → d S Qd → t σ H Q
def PDO (c : Ct) (X : Cx) (e : Option Expr) (d : DO) : Prop := ∃ t, PO X e t ∧ SimO c X.K X.mg t d
def dNoPart : DO := fun S Q => Q none S
def dPart (de : DE) : DO := fun S Q => de S fun x S1 => ∃ i, x = .int i ∧ Q (some i) S1
theorem pdo_none : PDO c X none dNoPart := ⟨_, po_none, fun σ G H S Qd Q R hQ h => hQ none H ⟨G, S, .refl R, h⟩⟩
theorem pdo_some {e : Expr} {de : DE} (h : PDE c X e de) : PDO c X (some e) (dPart de) := by
  obtain ⟨ta, a1, a2⟩ := h
  refine ⟨_, po_some a1, fun σ G H S Qd Q R hQ h => ?_⟩
  refine a2 σ G H S _ _ R (fun x H1 ⟨G1, S1, dx, A1, r1, h1⟩ => ?_) h
  obtain ⟨i, e, h1⟩ := h1
  subst e
  cases r1
  exact ⟨i, rfl, hQ _ H1 ⟨G1, S1, A1, h1⟩⟩
def cutD {α : Type} (xs : List α) (lo hi : Option Int) : List α := (xs.drop (HT.sIx xs.length 0 lo)).take (HT.sIx xs.length xs.length hi - HT.sIx xs.length 0 lo)
theorem RepAll.cut {K : PySem.W.Frag} {mg : MG} {G : Hp} {n : Nat} {xs : List V} {ds : List D} (r : RepAll K mg G n xs ds) (lo hi : Option Int) : RepAll K mg G n (cutV xs lo hi) (cutD ds lo hi) := by
  unfold cutV cutD
  rw [r.length]
  exact (r.drop _).take _
def gSl : D → Option Int → Option Int → Option D
  | .lst l, lo, hi => some (.lst (cutD l lo hi))
  | .tup l, lo, hi => some (.tup (cutD l lo hi))
  | .str z, lo, hi => if z.length ≤ 16777216 then some (.str (cutS z lo hi)) else none
  | _, _, _ => none
def dSl (da : DE) (dl dh : DO) : DE := fun S Q => da S fun x S1 => dl S1 fun lo S2 => dh S2 fun hi S3 => ∃ z, gSl x lo hi = some z ∧ Q z S3
theorem cut_whole {xs : List V} {lo hi : Option Int} (h : HT.sIx xs.length 0 lo = 0 ∧ HT.sIx xs.length xs.length hi = xs.length) : cutV xs lo hi = xs := by
  unfold cutV
  rw [h.1, h.2, List.drop_zero, Nat.sub_zero, List.take_length]
theorem pd_slice {a : Expr} {lo hi : Option Expr} {da : DE} {dl dh : DO} {p2 pos : Pos} (ha : PDE c X a da) (hl : PDO c X lo dl) (hh : PDO c X hi dh) : PDE c X (.Subscript a (.Slice lo hi none p2) pos) (dSl da dl dh) := by
  obtain ⟨ta, a1, a2⟩ := ha
  obtain ⟨tl, l1, l2⟩ := hl
  obtain ⟨th, h1, h2⟩ := hh
  refine ⟨_, pe_slice (SlR.or sl_list (SlR.or sl_tupA sl_str)) a1 l1 h1, fun σ G H S Qd Q R hQ h => ?_⟩
  refine a2 σ G H S _ _ R (fun x H1 ⟨G1, S1, dx, A1, r1, q1⟩ => ?_) h
  refine l2 σ G1 H1 S1 _ _ A1.rp (fun lo H2 ⟨G2, S2, A2, q2⟩ => ?_) q1
  refine h2 σ G2 H2 S2 _ _ A2.rp (fun hi H3 ⟨G3, S3, A3, q3⟩ => ?_) q2
  obtain ⟨z, e, q3⟩ := q3
  have r3 := A3.rep (A2.rep r1)
  have A := (A1.trans A2).trans A3
  have s := A3.rp.sub
  unfold gSl at e
  split at e
  · cases e
    cases r3 with
    | @lst p xs ds hs hr =>
      refine .inl ⟨_, _, rfl, sqL_sub s hs, fun q nq => ?_⟩
      have A4 := Aft.gw0 A3.rp (.alloc (o := .lst (cutV xs lo hi)) s nq)
      exact hQ _ _ ⟨_, S3, _, A.trans A4, .lst (.inl (.inl upd_same)) (A4.repAll (hr.cut lo hi)), q3⟩
  · cases e
    cases r3 with
    | @tup p xs ds hs hr =>
      refine .inr (.inl ⟨_, _, rfl, sqT_sub s hs, fun hw => ?_, fun hw q nq => ?_⟩)
      · have hc := hr.cut lo hi
        rw [cut_whole hw] at hc
        exact hQ _ _ ⟨G3, S3, _, A, .tup hs hc, q3⟩
      · have A4 := Aft.gw0 A3.rp (.alloc (o := .tup (cutV xs lo hi)) s nq)
        exact hQ _ _ ⟨_, S3, _, A.trans A4, .tup (SqT.of upd_same) (A4.repAll (hr.cut lo hi)), q3⟩
  · split at e
    · rename_i hz
      cases e
      cases r3
      exact .inr (.inr ⟨_, rfl, by rw [sizeLine_eq]; exact hz, hQ _ _ ⟨G3, S3, _, A, .str _, q3⟩⟩)
    · cases e
  · cases e
/-! ### built-in functions -/
theorem rep1 {K : PySem.W.Frag} {mg : MG} {G : Hp} {n : Nat} {vs : List V} {d : D} (r : RepAll K mg G n vs [d]) : ∃ v, vs = [v] ∧ Rep K mg G n v d := by
  cases r with
  | cons a b =>
    cases b
    exact ⟨_, rfl, a⟩
theorem rep2 {K : PySem.W.Frag} {mg : MG} {G : Hp} {n : Nat} {vs : List V} {d e : D} (r : RepAll K mg G n vs [d, e]) : ∃ v w, vs = [v, w] ∧ Rep K mg G n v d ∧ Rep K mg G n w e := by
  cases r with
  | cons a b =>
    obtain ⟨w, ew, rw'⟩ := rep1 b
    subst ew
    exact ⟨_, _, rfl, a, rw'⟩
def gLen : List D → Option D
  | [.lst l] => some (.int l.length)
  | [.tup l] => some (.int l.length)
  | [.str z] => if z.length ≤ 16777216 then some (.int z.length) else none
  | _ => none
theorem cd_len : CallD c X (.builtin "len") gLen := ⟨_, CallR.or call_len_seq call_len_str, fun G H n vs ds z Q s r q hq => by
  unfold gLen at q
  split at q
  · cases q
    obtain ⟨v, e, rv⟩ := rep1 r
    subst e
    cases rv with
    | lst h a =>
      refine .inl ⟨_, _, rfl, .inl (sqL_sub s h), ?_⟩
      rw [a.length]
      exact hq _ G H (.refl s) (.int _)
  · cases q
    obtain ⟨v, e, rv⟩ := rep1 r
    subst e
    cases rv with
    | tup h a =>
      refine .inl ⟨_, _, rfl, .inr (sqT_sub s h), ?_⟩
      rw [a.length]
      exact hq _ G H (.refl s) (.int _)
  · split at q
    · rename_i hz
      cases q
      obtain ⟨v, e, rv⟩ := rep1 r
      subst e
      cases rv
      exact .inr ⟨_, rfl, by rw [sizeLine_eq]; exact hz, hq _ G H (.refl s) (.int _)⟩
    · cases q
  · cases q⟩
def blsOf : List D → Option (List Bool)
  | [] => some []
  | .bl i :: r => (blsOf r).map (i :: ·)
  | _ :: _ => none
theorem blsOf_map : ∀ l : List Bool, blsOf (l.map D.bl) = some l
  | [] => rfl
  | i :: l => by
    show (blsOf (l.map D.bl)).map (i :: ·) = some (i :: l)
    rw [blsOf_map l]
    rfl
theorem blsOf_rep {K : PySem.W.Frag} {mg : MG} {G : Hp} {n : Nat} : ∀ {vs : List V} {l : List D} {bs : List Bool}, RepAll K mg G n vs l → blsOf l = some bs → vs = bs.map V.bl
  | _, [], bs, .nil, h => by
    have e : ([] : List Bool) = bs := Option.some.inj h
    rw [← e]
    rfl
  | _, d :: l, bs, .cons a b, h => by
    cases a with
    | bl i =>
      have h' : (blsOf l).map (i :: ·) = some bs := h
      cases e : blsOf l with
      | none =>
        rw [e] at h'
        cases h'
      | some ms =>
        rw [e] at h'
        have e2 : i :: ms = bs := Option.some.inj h'
        rw [blsOf_rep b e, ← e2]
        rfl
    | _ => cases h
def gAll : List D → Option D
  | [.lst l] => (blsOf l).map fun bs => .bl (bs.all id)
  | _ => none
theorem cd_all (hc : X.calm = true) : CallD c X (.builtin "all") gAll := ⟨_, cr_all hc, fun G H n vs ds z Q s r q hq => by
  unfold gAll at q
  split at q
  · rename_i l
    obtain ⟨v, e, rv⟩ := rep1 r
    subst e
    cases rv with
    | @lst p xs _ h a =>
      cases e : blsOf l with
      | none =>
        rw [e] at q
        cases q
      | some bs =>
        rw [e] at q
        have e2 : D.bl (bs.all id) = z := Option.some.inj q
        subst e2
        have ex := blsOf_rep a e
        subst ex
        exact ⟨_, bs, rfl, sqL_sub s h, hq _ G H (.refl s) (.bl _)⟩
  · cases q⟩
def gInt : List D → Option D
  | [.int i] => some (.int i)
  | [.bl k] => some (.int (if k then 1 else 0))
  | _ => none
theorem cd_int : CallD c X (.type "int") gInt := ⟨_, call_int1, fun G H n vs ds z Q s r q hq => by
  unfold gInt at q
  split at q
  · cases q
    obtain ⟨v, e, rv⟩ := rep1 r
    subst e
    cases rv
    exact .inl ⟨_, rfl, hq _ G H (.refl s) (.int _)⟩
  · cases q
    obtain ⟨v, e, rv⟩ := rep1 r
    subst e
    cases rv
    exact .inr ⟨_, rfl, hq _ G H (.refl s) (.int _)⟩
  · cases q⟩
def gAbs : List D → Option D
  | [.int i] => some (.int (if i < 0 then -i else i))
  | _ => none
theorem cd_abs : CallD c X (.builtin "abs") gAbs := ⟨_, call_abs, fun G H n vs ds z Q s r q hq => by
  unfold gAbs at q
  split at q
  · cases q
    obtain ⟨v, e, rv⟩ := rep1 r
    subst e
    cases rv
    exact ⟨_, rfl, hq _ G H (.refl s) (.int _)⟩
  · cases q⟩
def gMax2 : List D → Option D
  | [.int i, .int j] => some (.int (if j > i then j else i))
  | _ => none
theorem cd_max2 (hc : X.calm = true) : CallD c X (.builtin "max") gMax2 := ⟨_, call_max2 hc, fun G H n vs ds z Q s r q hq => by
  unfold gMax2 at q
  split at q
  · cases q
    obtain ⟨v, w, e, rv, rw'⟩ := rep2 r
    subst e
    cases rv
    cases rw'
    exact ⟨_, _, rfl, hq _ G H (.refl s) (.int _)⟩
  · cases q⟩
def gMin2 : List D → Option D
  | [.int i, .int j] => some (.int (if j < i then j else i))
  | _ => none
theorem cd_min2 (hc : X.calm = true) : CallD c X (.builtin "min") gMin2 := ⟨_, call_min2 hc, fun G H n vs ds z Q s r q hq => by
  unfold gMin2 at q
  split at q
  · cases q
    obtain ⟨v, w, e, rv, rw'⟩ := rep2 r
    subst e
    cases rv
    cases rw'
    exact ⟨_, _, rfl, hq _ G H (.refl s) (.int _)⟩
  · cases q⟩
def gTupleF : List D → Option D
  | [.lst l] => some (.tup l)
  | [.tup l] => some (.tup l)
  | _ => none
theorem cd_tuple : CallD c X (.type "tuple") gTupleF := ⟨_, call_tuple_of, fun G H n vs ds z Q s r q hq => by
  unfold gTupleF at q
  split at q
  · cases q
    obtain ⟨v, e, rv⟩ := rep1 r
    subst e
    cases rv with
    | @lst p xs l h a =>
      refine ⟨_, _, rfl, .inl ⟨sqL_sub s h, fun q nq => ?_⟩⟩
      have g : Gw c.T 0 G H _ _ := .alloc (o := .tup xs) s nq
      exact hq _ _ _ g (.tup (SqT.of upd_same) (a.up g.le (Nat.le_refl _)))
  · cases q
    obtain ⟨v, e, rv⟩ := rep1 r
    subst e
    cases rv with
    | @tup p xs l h a => exact ⟨_, _, rfl, .inr ⟨sqT_sub s h, hq _ G H (.refl s) (.tup h a)⟩⟩
  · cases q⟩
def gListF : List D → Option D
  | [.lst l] => some (.lst l)
  | [.tup l] => some (.lst l)
  | _ => none
theorem cd_list : CallD c X (.type "list") gListF := ⟨_, call_list_of, fun G H n vs ds z Q s r q hq => by
  unfold gListF at q
  split at q
  · cases q
    obtain ⟨v, e, rv⟩ := rep1 r
    subst e
    cases rv with
    | @lst p xs l h a =>
      refine ⟨_, _, rfl, .inl (sqL_sub s h), fun q nq => ?_⟩
      have g : Gw c.T 0 G H _ _ := .alloc (o := .lst xs) s nq
      exact hq _ _ _ g (.lst (.inl (.inl upd_same)) (a.up g.le (Nat.le_refl _)))
  · cases q
    obtain ⟨v, e, rv⟩ := rep1 r
    subst e
    cases rv with
    | @tup p xs l h a =>
      refine ⟨_, _, rfl, .inr (sqT_sub s h), fun q nq => ?_⟩
      have g : Gw c.T 0 G H _ _ := .alloc (o := .lst xs) s nq
      exact hq _ _ _ g (.lst (.inl (.inl upd_same)) (a.up g.le (Nat.le_refl _)))
  · cases q⟩
def gSum : List D → Option D
  | [.lst l] => (intsOf l).map fun ns => .int ns.sum
  | _ => none
theorem intsOf_rep {K : PySem.W.Frag} {mg : MG} {G : Hp} {n : Nat} {vs : List V} {l : List D} {ns : List Int} (r : RepAll K mg G n vs l) (e : intsOf l = some ns) : vs = ns.map V.int := by
  rw [intsOf_eq e] at r
  exact r.ints_inv
theorem cd_sum (hc : X.calm = true) : CallD c X (.builtin "sum") gSum := ⟨_, cr_sum hc, fun G H n vs ds z Q s r q hq => by
  unfold gSum at q
  split at q
  · rename_i l
    obtain ⟨v, e, rv⟩ := rep1 r
    subst e
    cases rv with
    | @lst p xs _ h a =>
      cases e : intsOf l with
      | none =>
        rw [e] at q
        cases q
      | some ns =>
        rw [e] at q
        have e2 : D.int ns.sum = z := Option.some.inj q
        subst e2
        have ex := intsOf_rep a e
        subst ex
        exact ⟨_, ns, rfl, sqL_sub s h, hq _ G H (.refl s) (.int _)⟩
  · cases q⟩
/-! ### isinstance -/
def D.isTy : D → String → Option Bool
  | .non, t => some (decide (t = "NoneType"))
  | .bl _, t => some (decide (t = "bool") || decide (t = "int"))
  | .int _, t => some (decide (t = "int"))
  | .str _, t => some (decide (t = "str"))
  | .lst _, t => some (decide (t = "list"))
  | .tup _, t => some (decide (t = "tuple"))
  | .dct _, t => some (decide (t = "dict"))
  | _, _ => none
def gIsi : List D → Option D
  | [x, .ty t] => if t = "int" ∨ t = "bool" ∨ t = "tuple" ∨ t = "str" then (x.isTy t).map D.bl else none
  | _ => none
theorem rep_ty {K : PySem.W.Frag} {mg : MG} {G H : Hp} {n : Nat} {v : V} {d : D} (s : Sub G H) (r : Rep K mg G n v d) (t : String) (b : Bool) (ht : t = "int" ∨ t = "bool" ∨ t = "tuple" ∨ t = "str") (e : d.isTy t = some b) : ∃ ty, TyX K H v ty ∧ PySem.W.kitOne K ty (.type t) = some b := by
  cases r with
  | non =>
    refine ⟨_, .base .non, ?_⟩
    rcases ht with rfl | rfl | rfl | rfl <;> (cases e; exact kit_ty (by decide +kernel))
  | bl k =>
    refine ⟨_, .base (.bl k), ?_⟩
    rcases ht with rfl | rfl | rfl | rfl <;> (cases e; exact kit_ty (by decide +kernel))
  | int i =>
    refine ⟨_, .base (.int i), ?_⟩
    rcases ht with rfl | rfl | rfl | rfl <;> (cases e; exact kit_ty (by decide +kernel))
  | str x =>
    refine ⟨_, .base (.str x), ?_⟩
    rcases ht with rfl | rfl | rfl | rfl <;> (cases e; exact kit_ty (by decide +kernel))
  | lst h a =>
    refine ⟨.type "list", ?_, ?_⟩
    · rcases h with (h | ⟨o, h⟩) | ⟨o, its, m, h1, h2, h3, h4, h5⟩
      · exact .base (.lst (s _ _ h))
      · exact .base (.frz (s _ _ h))
      · exact .kList h1 h2
    · rcases ht with rfl | rfl | rfl | rfl <;> (cases e; exact kit_ty (by decide +kernel))
  | tup h a =>
    refine ⟨.type "tuple", ?_, ?_⟩
    · rcases h with (h | ⟨o, h⟩) | ⟨o, its, m, h1, h2, h3, h4, h5⟩
      · exact .base (.tup (s _ _ h))
      · exact .fTuple (s _ _ h)
      · exact .kTuple h1 h2
    · rcases ht with rfl | rfl | rfl | rfl <;> (cases e; exact kit_ty (by decide +kernel))
  | dct h a =>
    refine ⟨.type "dict", ?_, ?_⟩
    · rcases h with h | ⟨o, h⟩
      · exact .base (.dK (s _ _ h))
      · exact .fDict (s _ _ h)
    · rcases ht with rfl | rfl | rfl | rfl <;> (cases e; exact kit_ty (by decide +kernel))
  | fn h => cases e
  | ty x => cases e
  | dice h hb => cases e
  | dn h a => cases e
theorem cd_isi : CallD c X (.builtin "isinstance") gIsi := ⟨_, call_isi, fun G H n vs ds z Q s r q hq => by
  unfold gIsi at q
  split at q
  · split at q
    · rename_i x t ht
      obtain ⟨v, w, e, rv, rw'⟩ := rep2 r
      subst e
      cases rw'
      cases e : x.isTy t with
      | none =>
        rw [e] at q
        cases q
      | some b =>
        rw [e] at q
        have e2 : D.bl b = z := Option.some.inj q
        subst e2
        obtain ⟨ty, h1, h2⟩ := rep_ty s rv t b ht e
        exact ⟨_, _, _, _, b, rfl, .ty t, h1, h2, hq _ G H (.refl s) (.bl _)⟩
    · cases q
  · cases q⟩
/-- a built-in class as a value -/
theorem pd_ty {x : Str} {t : String} {pos : Pos} (hg : Gl X x) (hm : X.mg x = none) (hv : bootBuiltins x = some (.type t)) (hn : x ≠ "__name__" := by decide) (hd : (x == ("__debug__" : Str)) = false := by decide) : PDE c X (.Name x pos) (dC (.ty t)) :=
  ⟨_, pe_bltn hg hm hv (v := .ty t) rfl hn hd, simC fun _ _ => .ty t⟩
end
end DL
set_option maxHeartbeats 1000000
namespace DL
open PySem PySem.Spec PyProof.Rows L2
/-! ### what is walked -/
abbrev DI := DS → (List D → DS → Prop) → Prop
structure Yl (T : TT0) (K : PySem.W.Frag) (mg : MG) (J : It) (G0 : Hp) (n0 : Nat) (items : List D) : Prop where
  stop : ∀ i G H n, Sub G H → Le T (n0 - n) G0 G → n ≤ n0 → items.length = i → J.stop i H
  go : ∀ i G H n d, Sub G H → Le T (n0 - n) G0 G → n ≤ n0 → items[i]? = some d → J.go i H ∧ ∀ x H', J.yld i H x H' → ∃ G', Gw T 0 G H G' H' ∧ Rep K mg G' n x d
def SimI (c : Ct) (K : PySem.W.Frag) (mg : MG) (wi : TI) (di : DI) : Prop := ∀ σ G H S (Qd : List D → DS → Prop) (R : It → Hp → Prop), Rp c K mg σ G H S →
  (∀ J H', (∃ G' S' items, Aft c K mg σ G H S H' G' S' ∧ Yl c.T K mg J G' S'.n items ∧ Qd items S') → R J H') → di S Qd → wi σ H R
def PDI (c : Ct) (X : Cx) (tg e : Expr) (di : DI) : Prop := ∃ wi, PI X tg e wi ∧ SimI c X.K X.mg wi di
section
variable {c : Ct} {X : Cx} {T : TT0} {K : PySem.W.Frag} {mg : MG}
theorem yl_list {a : Addr} {xs : List V} {ds : List D} {G0 : Hp} {n0 : Nat} (h : SqL K G0 a xs) (r : RepAll K mg G0 n0 xs ds) : Yl T K mg (Itl K a) G0 n0 ds where
  stop := fun i G H n s l hn hi => ⟨xs, sqL_sub s (sqL_le l h), by rw [r.length]; exact Nat.le_of_eq hi⟩
  go := fun i G H n d s l hn hi => by
    obtain ⟨v, e, rv⟩ := r.get hi
    have hq : SqL K H a xs := sqL_sub s (sqL_le l h)
    refine ⟨⟨xs, v, hq, e⟩, fun x H' y => ?_⟩
    obtain ⟨eH, y⟩ := y
    subst eH
    have ex : v = x := Option.some.inj (e.symm.trans (y xs hq))
    subst ex
    exact ⟨G, .refl s, rv.up l (by omega)⟩
theorem yl_tup {a : Addr} {xs : List V} {ds : List D} {G0 : Hp} {n0 : Nat} (h : SqT K G0 a xs) (r : RepAll K mg G0 n0 xs ds) : Yl T K mg (Itt K a) G0 n0 ds where
  stop := fun i G H n s l hn hi => ⟨xs, sqT_sub s (sqT_le l h), by rw [r.length]; exact Nat.le_of_eq hi⟩
  go := fun i G H n d s l hn hi => by
    obtain ⟨v, e, rv⟩ := r.get hi
    have hq : SqT K H a xs := sqT_sub s (sqT_le l h)
    refine ⟨⟨xs, v, hq, e⟩, fun x H' y => ?_⟩
    obtain ⟨eH, y⟩ := y
    subst eH
    have ex : v = x := Option.some.inj (e.symm.trans (y xs hq))
    subst ex
    exact ⟨G, .refl s, rv.up l (by omega)⟩
/-- lo, lo + 1, .. -/
def rgD (lo : Int) (n : Nat) : List D := (List.range n).map fun i => .int (lo + (i : Nat))
theorem yl_range {lo : Int} {n : Nat} {G0 : Hp} {n0 : Nat} : Yl T K mg (Itr lo n) G0 n0 (rgD lo n) where
  stop := fun i G H m s l hn hi => by
    have e : (rgD lo n).length = n := by simp [rgD]
    rw [e] at hi
    exact Nat.le_of_eq hi
  go := fun i G H m d s l hn hi => by
    unfold rgD at hi
    rw [List.getElem?_map] at hi
    by_cases hlt : i < n
    · rw [List.getElem?_eq_getElem (by simpa using hlt)] at hi
      have e : D.int (lo + ((List.range n)[i]'(by simpa using hlt) : Nat)) = d := Option.some.inj hi
      rw [List.getElem_range] at e
      subst e
      refine ⟨hlt, fun x H' y => ?_⟩
      obtain ⟨eH, y⟩ := y
      subst eH y
      exact ⟨G, .refl s, .int _⟩
    · rw [List.getElem?_eq_none (by simpa using hlt)] at hi
      cases hi
def signsD (x : Str) : List D := x.cps.toList.map fun k => .str ⟨#[k]⟩
theorem yl_str {x : Str} {G0 : Hp} {n0 : Nat} : Yl T K mg (Its x) G0 n0 (signsD x) where
  stop := fun i G H m s l hn hi => by
    have e : (signsD x).length = x.cps.size := by simp [signsD]
    rw [e] at hi
    exact Nat.le_of_eq hi
  go := fun i G H m d s l hn hi => by
    unfold signsD at hi
    rw [List.getElem?_map, Array.getElem?_toList] at hi
    cases hk : x.cps[i]? with
    | none =>
      rw [hk] at hi
      cases hi
    | some k =>
      rw [hk] at hi
      have e : D.str ⟨#[k]⟩ = d := Option.some.inj hi
      subst e
      refine ⟨(Array.getElem?_eq_some_iff.mp hk).1, fun v H' y => ?_⟩
      obtain ⟨eH, k', e', ev⟩ := y
      rw [hk] at e'
      cases e'
      subst eH ev
      exact ⟨G, .refl s, .str _⟩
def enumD (ds : List D) : List D := ds.zipIdx.map fun p => .tup [.int (p.2 : Nat), p.1]
theorem enumD_get (ds : List D) (i : Nat) : (enumD ds)[i]? = ds[i]?.map fun d => .tup [.int (i : Nat), d] := by
  unfold enumD
  rw [List.getElem?_map, List.getElem?_zipIdx]
  cases ds[i]? with
  | none => rfl
  | some d => simp
theorem enumD_length (ds : List D) : (enumD ds).length = ds.length := by simp [enumD]
theorem yl_enum {a : Addr} {xs : List V} {ds : List D} {G0 : Hp} {n0 : Nat} (h : SqL K G0 a xs) (r : RepAll K mg G0 n0 xs ds) : Yl T K mg (Ite K a) G0 n0 (enumD ds) where
  stop := fun i G H n s l hn hi => ⟨xs, sqL_sub s (sqL_le l h), by rw [r.length, ← enumD_length]; exact Nat.le_of_eq hi⟩
  go := fun i G H n d s l hn hi => by
    rw [enumD_get] at hi
    cases hd : ds[i]? with
    | none =>
      rw [hd] at hi
      cases hi
    | some d0 =>
      rw [hd] at hi
      have e0 : D.tup [.int (i : Nat), d0] = d := Option.some.inj hi
      subst e0
      obtain ⟨v, e, rv⟩ := r.get hd
      have hq : SqL K H a xs := sqL_sub s (sqL_le l h)
      refine ⟨⟨xs, v, hq, e⟩, fun x H' y => ?_⟩
      obtain ⟨P, w, ex, np, eH, y⟩ := y
      have ew : v = w := Option.some.inj (e.symm.trans (y xs hq))
      subst ex eH ew
      have g : Gw T 0 G H _ _ := .alloc (o := .tup [.int (i : Nat), v]) s np
      exact ⟨_, g, .tup (SqT.of upd_same) (.cons (.int _) (.cons ((rv.up l (by omega)).up g.le (Nat.le_refl _)) .nil))⟩
def dSeqI (de : DE) : DI := fun S Q => de S fun x S1 => ∃ l, itemsOf x = some l ∧ Q l S1
/-- over a list -/
def dLstI (de : DE) : DI := fun S Q => de S fun x S1 => ∃ l, x = .lst l ∧ Q l S1
theorem pdi_list {tg e : Expr} {de : DE} (he : PDE c X e de) : PDI c X tg e (dLstI de) := by
  obtain ⟨ta, a1, a2⟩ := he
  refine ⟨_, pi_list a1, fun σ G H S Qd R Rr hR h => ?_⟩
  refine a2 σ G H S _ _ Rr (fun v H1 ⟨G1, S1, d, A, r, q⟩ => ?_) h
  obtain ⟨l, e, q⟩ := q
  subst e
  cases r with
  | lst h a => exact ⟨_, rfl, ⟨_, sqL_sub A.rp.sub h⟩, hR _ _ ⟨G1, S1, l, A, yl_list h a, q⟩⟩
/-- over a tuple -/
def dTupI (de : DE) : DI := fun S Q => de S fun x S1 => ∃ l, x = .tup l ∧ Q l S1
theorem pdi_tup {tg e : Expr} {de : DE} (he : PDE c X e de) : PDI c X tg e (dTupI de) := by
  obtain ⟨ta, a1, a2⟩ := he
  refine ⟨_, pi_tup a1, fun σ G H S Qd R Rr hR h => ?_⟩
  refine a2 σ G H S _ _ Rr (fun v H1 ⟨G1, S1, d, A, r, q⟩ => ?_) h
  obtain ⟨l, e, q⟩ := q
  subst e
  cases r with
  | tup h a => exact ⟨_, rfl, ⟨_, sqT_sub A.rp.sub h⟩, hR _ _ ⟨G1, S1, l, A, yl_tup h a, q⟩⟩
/-- over a text -/
def dStrI (de : DE) : DI := fun S Q => de S fun x S1 => ∃ z, x = .str z ∧ Q (signsD z) S1
theorem pdi_str {tg e : Expr} {de : DE} (he : PDE c X e de) : PDI c X tg e (dStrI de) := by
  obtain ⟨ta, a1, a2⟩ := he
  refine ⟨_, pi_str a1, fun σ G H S Qd R Rr hR h => ?_⟩
  refine a2 σ G H S _ _ Rr (fun v H1 ⟨G1, S1, d, A, r, q⟩ => ?_) h
  obtain ⟨z, e, q⟩ := q
  subst e
  cases r
  exact ⟨_, rfl, hR _ _ ⟨G1, S1, _, A, yl_str, q⟩⟩
def bSm (i : Int) : Prop := -(2 ^ 62) ≤ i ∧ i < 2 ^ 62
def dRg1 (da : DA) : DI := fun S Q => da S fun ds S1 => ∃ j, ds = [.int j] ∧ bSm j ∧ Q (rgD 0 j.toNat) S1
def dRg2 (da : DA) : DI := fun S Q => da S fun ds S1 => ∃ i j, ds = [.int i, .int j] ∧ bSm i ∧ bSm j ∧ Q (rgD i (j - i).toNat) S1
theorem pdi_range1 {tg a : Expr} {da : DA} {p pos : Pos} (hg : Gl X "range") (hm : X.mg "range" = none) (ha : PDA c X [a] da) (hs : starEach [a] X.env = [(false, eval a X.env)] := by rfl) : PDI c X tg (.Call (.Name "range" p) [a] [] pos) (dRg1 da) := by
  obtain ⟨ta, a1, a2⟩ := ha
  refine ⟨_, pi_range1 hg hm a1 hs, fun σ G H S Qd R Rr hR h => ?_⟩
  refine a2 σ G H S _ _ Rr (fun vs H1 ⟨G1, S1, ds, A, r, q⟩ => ?_) h
  obtain ⟨j, e, b, q⟩ := q
  subst e
  obtain ⟨v, ev, rv⟩ := rep1 r
  subst ev
  cases rv
  exact ⟨j, rfl, b.1, b.2, hR _ _ ⟨G1, S1, _, A, yl_range, q⟩⟩
theorem pdi_range2 {tg a b : Expr} {da : DA} {p pos : Pos} (hg : Gl X "range") (hm : X.mg "range" = none) (ha : PDA c X [a, b] da) (hs : starEach [a, b] X.env = [(false, eval a X.env), (false, eval b X.env)] := by rfl) (hs2 : starEach [b] X.env = [(false, eval b X.env)] := by rfl) :
    PDI c X tg (.Call (.Name "range" p) [a, b] [] pos) (dRg2 da) := by
  obtain ⟨ta, a1, a2⟩ := ha
  refine ⟨_, pi_range2 hg hm a1 hs hs2, fun σ G H S Qd R Rr hR h => ?_⟩
  refine a2 σ G H S _ _ Rr (fun vs H1 ⟨G1, S1, ds, A, r, q⟩ => ?_) h
  obtain ⟨i, j, e, b1, b2, q⟩ := q
  subst e
  obtain ⟨v, w, ev, rv, rw'⟩ := rep2 r
  subst ev
  cases rv
  cases rw'
  exact ⟨i, j, rfl, ⟨b1.1, b1.2, b2.1, b2.2⟩, hR _ _ ⟨G1, S1, _, A, yl_range, q⟩⟩
/-- enumerate of a list -/
def dEnumL (da : DA) : DI := fun S Q => da S fun ds S1 => ∃ l, ds = [.lst l] ∧ Q (enumD l) S1
theorem pdi_enumL {e : Expr} {da : DA} {p pos tpos : Pos} {elts : List Expr} {kk : Nat} (hg : Gl X "enumerate") (hm : X.mg "enumerate" = none) (ha : PDA c X [e] da) (hs : starEach [e] X.env = [(false, eval e X.env)] := by rfl) :
    PDI c X (.Tuple elts kk tpos) (.Call (.Name "enumerate" p) [e] [] pos) (dEnumL da) := by
  obtain ⟨ta, a1, a2⟩ := ha
  refine ⟨_, pi_enum hg hm a1 hs, fun σ G H S Qd R Rr hR h => ?_⟩
  refine a2 σ G H S _ _ Rr (fun vs H1 ⟨G1, S1, ds, A, r, q⟩ => ?_) h
  obtain ⟨l, e, q⟩ := q
  subst e
  obtain ⟨v, ev, rv⟩ := rep1 r
  subst ev
  cases rv with
  | lst h a => exact ⟨_, _, rfl, sqL_sub A.rp.sub h, hR _ _ ⟨G1, S1, _, A, yl_enum h a, q⟩⟩
/-! ### for -/
def dLoop (g : DG) (tb : DSt) : List D → DEnds → DS → Prop
  | [], B, S => B.nx S
  | d :: ds, B, S => g d S fun S1 => tb { nx := fun S2 => dLoop g tb ds B S2, rt := B.rt, bk := B.nx, ct := fun S2 => dLoop g tb ds B S2 } S1
def dFor (di : DI) (g : DG) (tb : DSt) : DSt := fun B S => di S fun items S1 => dLoop g tb items B S1
theorem pds_for {tg iter : Expr} {body : List Stmt} {di : DI} {g : DG} {tb : DSt} {pos : Pos} (hp : PassesOwn (model X.prog X.w) X.A X.env X.xe) (hc : X.calm = true) (hi : PDI c X tg iter di) (hg : PDG c X tg g) (hb : PDSs c X body tb)
    (hs : ∀ x, foldedSetIterable iter X.env x = pure x := by intro _; rfl) : PDS c X (.For tg iter body [] pos) (dFor di g tb) := by
  obtain ⟨wi, i1, i2⟩ := hi
  obtain ⟨tg', g1, g2⟩ := hg
  obtain ⟨t, b1, b2⟩ := hb
  refine ⟨_, ps_for hp hc i1 g1 b1 hs, fun σ G H S B E R h1 h2 h3 h4 h => ?_⟩
  refine i2 σ G H S _ _ R (fun J H1 ⟨G1, S1, items, A, Y, q⟩ => ?_) h
  refine ⟨fun i m σ' H' => m = items.length - i ∧ i ≤ items.length ∧ ∃ G' S', Rp c X.K X.mg σ' G' H' S' ∧ Le c.T (S1.n - S'.n) G1 G' ∧ S'.n ≤ S1.n ∧ dLoop g tb (items.drop i) B S',
    ⟨items.length, by omega, Nat.zero_le _, G1, S1, A.rp, by rw [Nat.sub_self]; exact .refl _ _, Nat.le_refl _, q⟩, fun i m σ' H' hW => ?_⟩
  obtain ⟨em, hi, G', S', R', l', n', q'⟩ := hW
  by_cases hlt : i < items.length
  · have hd : items[i]? = some items[i] := List.getElem?_eq_getElem hlt
    have ed : items.drop i = items[i] :: items.drop (i + 1) := List.drop_eq_getElem_cons hlt
    rw [ed] at q'
    obtain ⟨go, y⟩ := Y.go i G' H' S'.n _ R'.sub l' n' hd
    have wrap : ∀ {σ2 H2} {G2 : Hp} {S2 : DS}, Rp c X.K X.mg σ2 G2 H2 S2 → Le c.T (S'.n - S2.n) G' G2 → S2.n ≤ S'.n → dLoop g tb (items.drop (i + 1)) B S2 →
        ∃ G' S', Rp c X.K X.mg σ2 G' H2 S' ∧ Le c.T (S1.n - S'.n) G1 G' ∧ S'.n ≤ S1.n ∧ dLoop g tb (items.drop (i + 1)) B S' := fun {σ2 H2 G2 S2} R2 l2 n2 q2 =>
      ⟨G2, S2, R2, le_trans' l' n' l2 n2, Nat.le_trans n2 n', q2⟩
    refine .inr ⟨go, fun σ2 H2 => ∃ G' S', Rp c X.K X.mg σ2 G' H2 S' ∧ Le c.T (S1.n - S'.n) G1 G' ∧ S'.n ≤ S1.n ∧ dLoop g tb (items.drop (i + 1)) B S', fun σ2 H2 hN => ⟨items.length - (i + 1), by omega, rfl, hlt, hN⟩, fun x H2 hy => ?_⟩
    obtain ⟨G2, gw, rx⟩ := y x H2 hy
    have R2 := R'.gw0 gw
    have lx : Le c.T (S'.n - S'.n) G' G2 := by
      rw [Nat.sub_self]
      exact gw.le
    refine g2 σ' G2 H2 S' x _ _ _ R2 rx (fun σ3 H3 ⟨G3, S3, R3, l3, n3, q3⟩ => ?_) q'
    have l23 : Le c.T (S'.n - S3.n) G' G3 := le_trans' lx (Nat.le_refl _) l3 n3
    refine b2 σ3 G3 H3 S3 { nx := fun S2 => dLoop g tb (items.drop (i + 1)) B S2, rt := B.rt, bk := B.nx, ct := fun S2 => dLoop g tb (items.drop (i + 1)) B S2 } _ R3 (fun σ4 H4 ⟨G4, S4, R4, l4, n4, q4⟩ => ?_) (fun v H4 z => h2 v H4 z) (fun σ4 H4 ⟨G4, S4, R4, l4, n4, q4⟩ => ?_) (fun σ4 H4 ⟨G4, S4, R4, l4, n4, q4⟩ => ?_) q3
    · exact wrap R4 (le_trans' l23 n3 l4 n4) (Nat.le_trans n4 n3) q4
    · refine h1 σ4 H4 ⟨G4, S4, R4, ?_, ?_, q4⟩
      · exact le_trans' A.le A.nle (le_trans' l' n' (le_trans' l23 n3 l4 n4) (Nat.le_trans n4 n3)) (by omega)
      · have := A.nle
        omega
    · exact wrap R4 (le_trans' l23 n3 l4 n4) (Nat.le_trans n4 n3) q4
  · have e : i = items.length := by omega
    subst e
    refine .inl ⟨Y.stop _ G' H' S'.n R'.sub l' n' rfl, ?_⟩
    rw [List.drop_length] at q'
    exact h1 σ' H' ⟨G', S', R', le_trans' A.le A.nle l' n', Nat.le_trans n' A.nle, q'⟩
/-! ### comprehensions -/
def wipeD (sl : List (Option SV)) : List Nat → List (Option SV)
  | [] => sl
  | v :: vs => (wipeD sl vs).set v none
def setsD (sl : List (Option SV)) : List (Nat × D) → List (Option SV)
  | [] => sl
  | p :: r => setsD (sl.set p.1 (some (.p p.2))) r
def setsV (σ : Sig) : List (Nat × V) → Sig
  | [] => σ
  | p :: r => setsV (σ.set p.1 (some p.2)) r
def ownB : Option (Option SV) → Bool
  | some (some (.ol _)) => true
  | some (some (.od _)) => true
  | some (some (.ot _)) => true
  | _ => false
theorem ownB_iff {x : Option (Option SV)} : ownB x = true ↔ isOwn x := by
  unfold ownB isOwn
  split <;> simp
inductive RepS (K : PySem.W.Frag) (mg : MG) (G : Hp) (n : Nat) : List (Nat × V) → List (Nat × D) → Prop
  | nil : RepS K mg G n [] []
  | cons {i : Nat} {v : V} {d : D} {vs : List (Nat × V)} {ds : List (Nat × D)} : Rep K mg G n v d → RepS K mg G n vs ds → RepS K mg G n ((i, v) :: vs) ((i, d) :: ds)
/-- a target of a comprehension: what it stores -/
def SimGc (K : PySem.W.Frag) (mg : MG) (t : TG) (gd : D → Option (List (Nat × D))) (ws : List Nat) : Prop := ∀ σ G H n v d l (Q : Sig → Hp → Prop), Sub G H → Rep K mg G n v d → gd d = some l →
  (∀ p ∈ l, p.1 ∈ ws) ∧ ((∀ vs, RepS K mg G n vs l → Q (setsV σ vs) H) → t v σ H Q)
theorem simGc_name (i : Nat) : SimGc K mg (gName i) (fun d => some [(i, d)]) [i] := by
  intro σ G H n v d l Q s r e
  have e2 : [(i, d)] = l := Option.some.inj e
  subst e2
  exact ⟨fun p hp => by simpa using congrArg Prod.fst (List.mem_singleton.mp hp), fun h => h [(i, v)] (.cons r .nil)⟩
def gdPair (i j : Nat) : D → Option (List (Nat × D))
  | .tup [a, b] => some [(i, a), (j, b)]
  | _ => none
theorem simGc_pair (i j : Nat) : SimGc K mg (gTup K 2 (gCons (gName i) (gCons (gName j) gNil))) (gdPair i j) [i, j] := by
  intro σ G H n v d l Q s r e
  unfold gdPair at e
  split at e
  · cases e
    cases r with
    | @tup p xs ds h a =>
      obtain ⟨v1, v2, ex, r1, r2⟩ := rep2 a
      subst ex
      refine ⟨fun p hp => ?_, fun hq => ⟨_, _, rfl, sqT_sub s h, rfl, v1, [v2], rfl, v2, [], rfl, rfl, hq [(i, v1), (j, v2)] (.cons r1 (.cons r2 .nil))⟩⟩
      simp only [List.mem_cons, List.not_mem_nil, or_false] at hp
      rcases hp with rfl | rfl <;> simp
  · cases e
section
variable {c : Ct} {K : PySem.W.Frag} {mg : MG} {σ σ2 : Sig} {G H G2 H2 : Hp} {S : DS}
theorem Rp.wipe (R : Rp c K mg σ G H S) : ∀ vs : List Nat, Rp c K mg (L2.wipe σ vs) G H ⟨wipeD S.sl vs, S.n⟩
  | [] => R
  | v :: vs => (Rp.wipe R vs).drop v none
theorem Rp.setsV : ∀ {vs : List (Nat × V)} {l : List (Nat × D)} {σ : Sig} {sl : List (Option SV)} {n : Nat}, Rp c K mg σ G H ⟨sl, n⟩ → RepS K mg G n vs l → Rp c K mg (DL.setsV σ vs) G H ⟨setsD sl l, n⟩
  | _, _, _, _, _, R, .nil => R
  | _, _, σ, sl, n, R, .cons (i := i) (d := d) r rs => Rp.setsV (σ := σ.set i _) (sl := sl.set i (some (.p d))) (n := n) (Rp.set R r) rs
theorem wipe_at {σ : Sig} {vs : List Nat} {i : Nat} (h : i ∉ vs) : (L2.wipe σ vs)[i]? = σ[i]? := by
  induction vs with
  | nil => rfl
  | cons v vs ih =>
    rw [List.mem_cons, not_or] at h
    show ((L2.wipe σ vs).set v none)[i]? = _
    rw [List.getElem?_set_ne (Ne.symm h.1)]
    exact ih h.2
theorem wipeD_at {sl : List (Option SV)} {vs : List Nat} {i : Nat} (h : i ∉ vs) : (wipeD sl vs)[i]? = sl[i]? := by
  induction vs with
  | nil => rfl
  | cons v vs ih =>
    rw [List.mem_cons, not_or] at h
    show ((wipeD sl vs).set v none)[i]? = _
    rw [List.getElem?_set_ne (Ne.symm h.1)]
    exact ih h.2
theorem setsV_at : ∀ {l : List (Nat × V)} {σ : Sig} {i : Nat}, (∀ p ∈ l, p.1 ≠ i) → (setsV σ l)[i]? = σ[i]?
  | [], _, _, _ => rfl
  | p :: l, σ, i, h => by
    show (setsV (σ.set p.1 (some p.2)) l)[i]? = _
    rw [setsV_at fun q hq => h q (List.mem_cons_of_mem _ hq), List.getElem?_set_ne (h p List.mem_cons_self)]
theorem setsD_at : ∀ {l : List (Nat × D)} {σ : List (Option SV)} {i : Nat}, (∀ p ∈ l, p.1 ≠ i) → (setsD σ l)[i]? = σ[i]?
  | [], _, _, _ => rfl
  | p :: l, σ, i, h => by
    show (setsD (σ.set p.1 (some (.p p.2))) l)[i]? = _
    rw [setsD_at fun q hq => h q (List.mem_cons_of_mem _ hq), List.getElem?_set_ne (h p List.mem_cons_self)]
theorem repS_fst {n : Nat} : ∀ {vs : List (Nat × V)} {l : List (Nat × D)}, RepS K mg G n vs l → vs.map (·.1) = l.map (·.1)
  | _, _, .nil => rfl
  | _, _, .cons _ b => by rw [List.map_cons, List.map_cons, repS_fst b]
theorem wipe_set {σ : Sig} {i : Nat} {w : Option V} : ∀ {vs : List Nat}, i ∈ vs → L2.wipe (σ.set i w) vs = L2.wipe σ vs := fun {vs} h => by
  apply List.ext_getElem?
  intro j
  induction vs with
  | nil => cases h
  | cons v vs ih =>
    show ((L2.wipe (σ.set i w) vs).set v none)[j]? = ((L2.wipe σ vs).set v none)[j]?
    by_cases hv : v = j
    · subst hv
      have e : (L2.wipe (σ.set i w) vs).length = (L2.wipe σ vs).length := by rw [wipe_length, wipe_length, List.length_set]
      by_cases hl : v < (L2.wipe σ vs).length
      · rw [List.getElem?_set_self hl, List.getElem?_set_self (by rw [e]; exact hl)]
      · rw [List.getElem?_eq_none (by rw [List.length_set, e]; omega), List.getElem?_eq_none (by simpa using hl)]
    · rw [List.getElem?_set_ne hv, List.getElem?_set_ne hv]
      by_cases hi : i ∈ vs
      · exact ih hi
      · have e : i = v := by
          rcases List.mem_cons.mp h with z | z
          · exact z
          · exact absurd z hi
        subst e
        by_cases hj : j ∈ vs
        · -- both wiped at j
          have key : ∀ (τ ρ : Sig) (us : List Nat), τ.length = ρ.length → j ∈ us → (L2.wipe τ us)[j]? = (L2.wipe ρ us)[j]? := by
            intro τ ρ us hl
            induction us with
            | nil => intro z; cases z
            | cons u us ihu =>
              intro hm
              show ((L2.wipe τ us).set u none)[j]? = ((L2.wipe ρ us).set u none)[j]?
              by_cases hu : u = j
              · subst hu
                have e2 : (L2.wipe τ us).length = (L2.wipe ρ us).length := by rw [wipe_length, wipe_length, hl]
                by_cases hl2 : u < (L2.wipe ρ us).length
                · rw [List.getElem?_set_self hl2, List.getElem?_set_self (by rw [e2]; exact hl2)]
                · rw [List.getElem?_eq_none (by rw [List.length_set, e2]; omega), List.getElem?_eq_none (by simpa using hl2)]
              · rw [List.getElem?_set_ne hu, List.getElem?_set_ne hu]
                exact ihu ((List.mem_cons.mp hm).resolve_left (Ne.symm hu))
          exact key _ _ _ (List.length_set ..) hj
        · rw [wipe_at hj, wipe_at hj, List.getElem?_set_ne hv]
theorem wipe_setsV {vs : List Nat} : ∀ {l : List (Nat × V)} {σ : Sig}, (∀ p ∈ l, p.1 ∈ vs) → L2.wipe (setsV σ l) vs = L2.wipe σ vs
  | [], _, _ => rfl
  | p :: l, σ, h => by
    show L2.wipe (setsV (σ.set p.1 (some p.2)) l) vs = _
    rw [wipe_setsV fun q hq => h q (List.mem_cons_of_mem _ hq), wipe_set (h p List.mem_cons_self)]
theorem wipe_wipe {σ : Sig} {vs : List Nat} : ∀ us : List Nat, (∀ i ∈ us, i ∈ vs) → L2.wipe (L2.wipe σ us) vs = L2.wipe σ vs
  | [], _ => rfl
  | u :: us, h => by
    show L2.wipe ((L2.wipe σ us).set u none) vs = _
    rw [wipe_set (h u List.mem_cons_self), wipe_wipe us fun i hi => h i (List.mem_cons_of_mem _ hi)]
/-- back to the slots outside the block -/
theorem Rp.back {vs : List Nat} {sl2 : List (Option SV)} {n2 : Nat} (R : Rp c K mg σ G H S) (l : Le c.T (S.n - n2) G G2) (hn : n2 ≤ S.n) (R2 : Rp c K mg σ2 G2 H2 ⟨sl2, n2⟩) (h1 : ∀ i, i ∉ vs → σ2[i]? = σ[i]?) (h2 : ∀ i, i ∉ vs → sl2[i]? = S.sl[i]?)
    (hv : ∀ i ∈ vs, ¬ isOwn S.sl[i]?) : Rp c K mg σ G2 H2 ⟨S.sl, n2⟩ := by
  refine ⟨R2.sub, R2.nle, R2.le, R2.hid, R2.new, R2.tabs, R.len, fun i => ?_, fun i j a hij o1 o2 e1 e2 => ?_⟩
  · by_cases hi : i ∈ vs
    · have z := R.slots i
      have nv := hv i hi
      show SlotOk K mg c G2 H2 n2 σ[i]? S.sl[i]?
      cases e : S.sl[i]? with
      | none => exact True.intro
      | some w =>
        cases w with
        | none => exact True.intro
        | some w =>
          rw [e] at z nv
          cases w with
          | p d =>
            obtain ⟨x, ex, rx⟩ := z
            exact ⟨x, ex, rx.up l (by omega)⟩
          | ol q => exact absurd True.intro nv
          | od q => exact absurd True.intro nv
          | ot q => exact absurd True.intro nv
    · have z := R2.slots i
      have z2 : SlotOk K mg c G2 H2 n2 σ2[i]? sl2[i]? := z
      rw [h1 i hi, h2 i hi] at z2
      exact z2
  · have hi : i ∉ vs := fun z => hv i z o1
    have hj : j ∉ vs := fun z => hv j z o2
    refine R2.apart i j a hij ?_ ?_ ?_ ?_
    · show isOwn sl2[i]?
      rw [h2 i hi]
      exact o1
    · show isOwn sl2[j]?
      rw [h2 j hj]
      exact o2
    · rw [h1 i hi]
      exact e1
    · rw [h1 j hj]
      exact e2
/-- a hidden object that no slot holds is written -/
theorem Rp.poke (R : Rp c K mg σ G H S) {p : Addr} {o : HO} (g : G p = none) (h0 : c.G0 p = none → c.H0 p = none) (po : Pl o) (lo : Loose σ S p) : Rp c K mg σ G (upd H p o) S := by
  refine ⟨⟨fun b w e => ?_, fun b w e n => ?_⟩, R.nle, R.le, fun b w h1 h2 => ?_, R.new, R.tabs, R.len, fun j => ?_, R.apart⟩
  · rw [upd_ne (ne_of_none e g)]
    exact R.sub b w e
  · by_cases hb : b = p
    · subst hb
      rw [upd_same] at e
      cases e
      exact po
    · rw [upd_ne hb] at e
      exact R.sub.hd b w e n
  · obtain ⟨h3, h4⟩ := R.hid b w h1 h2
    exact ⟨by rw [upd_ne (fun z => by subst z; have z2 := h0 h2; rw [h1] at z2; cases z2)]; exact h3, h4⟩
  · have sj := R.slots j
    have lj := lo j
    cases hq : S.sl[j]? with
    | none => exact True.intro
    | some w =>
      cases w with
      | none => exact True.intro
      | some w =>
        rw [hq] at sj lj
        cases w with
        | p d => exact sj
        | ol l =>
          obtain ⟨a', e', h1, h2, xs, h3, h4⟩ := sj
          have ne : a' ≠ p := fun z => by
            subst z
            exact lj True.intro e'
          exact ⟨a', e', h1, h2, xs, by rw [upd_ne ne]; exact h3, h4⟩
        | od l =>
          obtain ⟨a', e', h1, h2, xs, h3, h4⟩ := sj
          have ne : a' ≠ p := fun z => by
            subst z
            exact lj True.intro e'
          exact ⟨a', e', h1, h2, xs, by rw [upd_ne ne]; exact h3, h4⟩
        | ot l =>
          obtain ⟨a', e', h1, h2, xs, h3, h4⟩ := sj
          have ne : a' ≠ p := fun z => by
            subst z
            exact lj True.intro e'
          exact ⟨a', e', h1, h2, xs, by rw [upd_ne ne]; exact h3, h4⟩
/-- a hidden object that no slot holds comes into the open -/
theorem Rp.adopt (R : Rp c K mg σ G H S) {p : Addr} {o : HO} (g : G p = none) (h0 : c.G0 p = none → c.H0 p = none) (lo : Loose σ S p) (hp : H p = some o) : Rp c K mg σ (upd G p o) H S := by
  have sm : Same G (upd G p o) := fun b w e => by
    rw [upd_ne (ne_of_none e g)]
    exact e
  refine ⟨⟨fun b w e => ?_, fun b w e n => ?_⟩, R.nle, ?_, fun b w h1 h2 => ?_, fun b w h1 h2 => ?_, (Le.same (T := c.T) sm).tabs R.tabs, R.len, fun j => ?_, R.apart⟩
  · by_cases hb : b = p
    · subst hb
      rw [upd_same] at e
      cases e
      exact hp
    · rw [upd_ne hb] at e
      exact R.sub b w e
  · by_cases hb : b = p
    · subst hb
      rw [upd_same] at n
      cases n
    · rw [upd_ne hb] at n
      exact R.sub.hd b w e n
  · exact (R.le.trans (Le.same (T := c.T) sm)).mono (Nat.le_refl _)
  · obtain ⟨h3, h4⟩ := R.hid b w h1 h2
    refine ⟨h3, ?_⟩
    rw [upd_ne (fun z => by subst z; have z2 := h0 h2; rw [h1] at z2; cases z2)]
    exact h4
  · by_cases hb : b = p
    · rw [hb] at h2 ⊢
      exact h0 h2
    · rw [upd_ne hb] at h1
      exact R.new b w h1 h2
  · have sj := R.slots j
    have lj := lo j
    cases hq : S.sl[j]? with
    | none => exact True.intro
    | some w =>
      cases w with
      | none => exact True.intro
      | some w =>
        rw [hq] at sj lj
        cases w with
        | p d =>
          obtain ⟨x, ex, rx⟩ := sj
          exact ⟨x, ex, rx.same sm⟩
        | ol l =>
          obtain ⟨a', e', h1, h2, xs, h3, h4⟩ := sj
          have ne : a' ≠ p := fun z => by
            subst z
            exact lj True.intro e'
          exact ⟨a', e', by rw [upd_ne ne]; exact h1, h2, xs, h3, h4.same sm⟩
        | od l =>
          obtain ⟨a', e', h1, h2, xs, h3, h4⟩ := sj
          have ne : a' ≠ p := fun z => by
            subst z
            exact lj True.intro e'
          exact ⟨a', e', by rw [upd_ne ne]; exact h1, h2, xs, h3, h4.same sm⟩
        | ot l =>
          obtain ⟨a', e', h1, h2, xs, h3, h4⟩ := sj
          have ne : a' ≠ p := fun z => by
            subst z
            exact lj True.intro e'
          exact ⟨a', e', by rw [upd_ne ne]; exact h1, h2, xs, h3, h4.same sm⟩
end
end
end DL
set_option maxHeartbeats 1000000
namespace DL
open PySem PySem.Spec PyProof.Rows L2
def dComp (gd : D → Option (List (Nat × D))) (dt : DT) (de : DE) (sl0 : List (Option SV)) : List D → List D → Nat → (List D → Nat → Prop) → Prop
  | [], acc, n, Q => Q acc n
  | d :: ds, acc, n, Q => acc.length < 16777216 ∧ ∃ l, gd d = some l ∧ dt ⟨setsD sl0 l, n⟩ fun b S2 => S2.sl = setsD sl0 l ∧
      if b = true then de S2 fun y S3 => S3.sl = setsD sl0 l ∧ dComp gd dt de sl0 ds (acc ++ [y]) S3.n Q else dComp gd dt de sl0 ds acc S2.n Q
def dLc (di : DI) (gd : D → Option (List (Nat × D))) (dt : DT) (de : DE) (vs : List Nat) : DE := fun S Q => di S fun items S1 => (∀ v ∈ vs, ownB S1.sl[v]? = false) ∧
  dComp gd dt de (wipeD S1.sl vs) items [] S1.n fun acc n => Q (.lst acc) ⟨S1.sl, n⟩
def dYes : DT := fun S Q => Q true S
section
variable {c : Ct} {K : PySem.W.Frag} {mg : MG}
theorem loose_sub {σ σ2 : Sig} {S S2 : DS} {b : Addr} (h : Loose σ S b) (k : ∀ i : Nat, isOwn S2.sl[i]? → isOwn S.sl[i]? ∧ σ2[i]? = σ[i]?) : Loose σ2 S2 b := fun i o e => by
  obtain ⟨h1, h2⟩ := k i o
  rw [h2] at e
  exact h i h1 e
theorem simLcAt {wi : TI} {di : DI} {t : TG} {gd : D → Option (List (Nat × D))} {ws : List Nat} {tt : TT} {dt : DT} {te : TE} {de : DE} {vs : List Nat} {σ : Sig} {G H : Hp} {S : DS} (R : Rp c K mg σ G H S)
    (hi : ∀ (Qd : List D → DS → Prop) (Rr : It → Hp → Prop), (∀ J H', (∃ G' S' items, Aft c K mg σ G H S H' G' S' ∧ Yl c.T K mg J G' S'.n items ∧ Qd items S') → Rr J H') → di S Qd → wi σ H Rr)
    (hg : SimGc K mg t gd ws) (ht : SimT c K mg tt dt) (he : SimE c K mg te de) (hw : ∀ i ∈ ws, i ∈ vs) :
    ∀ Qd Q, (∀ v H', WE c K mg σ G H S Qd v H' → Q v H') → dLc di gd dt de vs S Qd → tLc wi t tt te vs σ H Q := by
  intro Qd Q hQ h
  refine hi _ _ (fun J H1 ⟨G1, S1, items, A, Y, q⟩ => ?_) h
  obtain ⟨hv, q⟩ := q
  intro P nP
  have nv : ∀ i ∈ vs, ¬ isOwn S1.sl[i]? := fun i hi z => by
    have e := hv i hi
    rw [ownB_iff.mpr z] at e
    cases e
  have gP : G1 P = none := A.rp.gnone nP
  have hP0 : c.G0 P = none → c.H0 P = none := A.rp.old nP
  have loP : Loose σ S1 P := fun i o e => by
    have z := A.rp.slots i
    cases hq : S1.sl[i]? with
    | none => rw [hq] at o; exact o
    | some w =>
      cases w with
      | none => rw [hq] at o; exact o
      | some w =>
        rw [hq] at o z
        cases w with
        | p d => exact o
        | ol l =>
          obtain ⟨a', e', _, _, xs, h3, _⟩ := z
          rw [e] at e'
          cases e'
          rw [nP] at h3
          cases h3
        | od l =>
          obtain ⟨a', e', _, _, xs, h3, _⟩ := z
          rw [e] at e'
          cases e'
          rw [nP] at h3
          cases h3
        | ot l =>
          obtain ⟨a', e', _, _, xs, h3, _⟩ := z
          rw [e] at e'
          cases e'
          rw [nP] at h3
          cases h3
  let sl0 := wipeD S1.sl vs
  -- what holds ahead of the turn i
  let Inv : Nat → Hp → Prop := fun i H' => ∃ (G' : Hp) (n : Nat) (xs : List V) (acc : List D), Aft c K mg σ G1 H1 S1 H' G' ⟨S1.sl, n⟩ ∧ G' P = none ∧ H' P = some (.lst xs) ∧ RepAll K mg G' n xs acc ∧
    dComp gd dt de sl0 (items.drop i) acc n fun acc n => Qd (.lst acc) ⟨S1.sl, n⟩
  have A0 : Aft c K mg σ G1 H1 S1 (upd H1 P (.lst [])) G1 ⟨S1.sl, S1.n⟩ := ⟨by show Le c.T (S1.n - S1.n) G1 G1; rw [Nat.sub_self]; exact .refl _ _, Nat.le_refl _, A.rp.hide nP pl_lst, fun b o h n l => ⟨by rw [upd_ne (ne_of_none h nP)]; exact h, n, l⟩⟩
  refine ⟨fun i m H' => m = items.length - i ∧ i ≤ items.length ∧ Inv i H', ⟨items.length, by omega, Nat.zero_le _, G1, S1.n, [], [], A0, gP, upd_same, .nil, q⟩, fun i m H' hW => ?_⟩
  obtain ⟨em, hi, G', n, xs, acc, A', gP', hP', ra, q'⟩ := hW
  have R' := A'.rp
  have fixed : ∀ (l : List (Nat × D)) (i : Nat), (∀ p ∈ l, p.1 ∈ ws) → i ∉ vs → (setsD sl0 l)[i]? = S1.sl[i]? := fun l i hl hiv => by
    rw [setsD_at (i := i) fun p hp e => hiv (by rw [← e]; exact hw _ (hl p hp))]
    exact wipeD_at hiv
  have ownAt : ∀ (l : List (Nat × D)) (j : Nat), (∀ p ∈ l, p.1 ∈ ws) → isOwn (setsD sl0 l)[j]? → j ∉ vs := fun l j hl o hj => by
    have key : ∀ (l : List (Nat × D)) (sl : List (Option SV)), ¬ isOwn sl[j]? → ¬ isOwn (setsD sl l)[j]? := by
      intro l
      induction l with
      | nil => intro sl h; exact h
      | cons p l ih =>
        intro sl h
        refine ih (sl.set p.1 (some (.p p.2))) fun z => ?_
        by_cases hp : p.1 = j
        · subst hp
          by_cases hlt : p.1 < sl.length
          · rw [List.getElem?_set_self hlt] at z
            exact z
          · rw [List.getElem?_eq_none (by simpa using hlt)] at z
            exact z
        · rw [List.getElem?_set_ne hp] at z
          exact h z
    refine key l sl0 (fun z => ?_) o
    have wiped : ∀ (us : List Nat), j ∈ us → ¬ isOwn (wipeD S1.sl us)[j]? := by
      intro us
      induction us with
      | nil => intro z; cases z
      | cons u us ih =>
        intro hm z
        have z' : isOwn ((wipeD S1.sl us).set u none)[j]? := z
        by_cases hu : u = j
        · subst hu
          by_cases hlt : u < (wipeD S1.sl us).length
          · rw [List.getElem?_set_self hlt] at z'
            exact z'
          · rw [List.getElem?_eq_none (by simpa using hlt)] at z'
            exact z'
        · rw [List.getElem?_set_ne hu] at z'
          exact ih ((List.mem_cons.mp hm).resolve_left (Ne.symm hu)) z'
    exact wiped vs hj z
  by_cases hlt : i < items.length
  · have hd : items[i]? = some items[i] := List.getElem?_eq_getElem hlt
    have ed : items.drop i = items[i] :: items.drop (i + 1) := List.drop_eq_getElem_cons hlt
    rw [ed] at q'
    obtain ⟨hz, l, el, q'⟩ := q'
    obtain ⟨go, y⟩ := Y.go i G' H' n _ R'.sub A'.le A'.nle hd
    refine .inr ⟨go, Inv (i + 1), fun H2 hN => ⟨items.length - (i + 1), by omega, rfl, hlt, hN⟩, fun x H2 hy => ?_⟩
    obtain ⟨G2, gw, rx⟩ := y x H2 hy
    have R2 := R'.gw0 gw
    have A2 : Aft c K mg σ G' H' ⟨S1.sl, n⟩ H2 G2 ⟨S1.sl, n⟩ := Aft.gw0 R' gw
    have gP2 : G2 P = none := gw.apart hP' gP'
    have hP2 : H2 P = some (.lst xs) := gw.hid _ _ hP' gP'
    obtain ⟨hl, hg'⟩ := hg (L2.wipe σ vs) G2 H2 n x items[i] l (fun σ2 H3 => L2.wipe σ2 vs = L2.wipe σ vs ∧ tt σ2 H3 fun b H4 => if b = true then te σ2 H4 fun y H5 => ∃ acc, H5 P = some (.lst acc) ∧ acc.length < sizeLine ∧ Inv (i + 1) (upd H5 P (.lst (acc ++ [y]))) else Inv (i + 1) H4) R2.sub rx el
    refine hg' fun vl rl => ?_
    have vlw : ∀ p ∈ vl, p.1 ∈ vs := fun p hp => by
      have z : p.1 ∈ vl.map (·.1) := List.mem_map.mpr ⟨p, hp, rfl⟩
      rw [repS_fst rl] at z
      obtain ⟨p', h1, h2⟩ := List.mem_map.mp z
      rw [← h2]
      exact hw _ (hl p' h1)
    refine ⟨?_, ?_⟩
    · rw [wipe_setsV vlw, wipe_wipe vs fun i hi => hi]
    have σat : ∀ j, j ∉ vs → (DL.setsV (L2.wipe σ vs) vl)[j]? = σ[j]? := fun j hj => by
      rw [setsV_at (i := j) fun p hp e => hj (by rw [← e]; exact vlw p hp)]
      exact wipe_at hj
    have RB : Rp c K mg (DL.setsV (L2.wipe σ vs) vl) G2 H2 ⟨setsD sl0 l, n⟩ := Rp.setsV (Rp.wipe R2 vs) rl
    have loB : ∀ b, Loose σ ⟨S1.sl, n⟩ b → Loose (DL.setsV (L2.wipe σ vs) vl) ⟨setsD sl0 l, n⟩ b := fun b h => loose_sub h fun j o => by
      have hj := ownAt l j hl o
      exact ⟨by rw [← fixed l j hl hj]; exact o, σat j hj⟩
    -- from the block's state back to the def's
    have back : ∀ {G3 H3 : Hp} {S3 : DS}, Aft c K mg (DL.setsV (L2.wipe σ vs) vl) G2 H2 ⟨setsD sl0 l, n⟩ H3 G3 S3 → S3.sl = setsD sl0 l →
        Aft c K mg σ G1 H1 S1 H3 G3 ⟨S1.sl, S3.n⟩ ∧ G3 P = none ∧ H3 P = some (.lst xs) ∧ RepAll K mg G3 S3.n xs acc := fun {G3 H3 S3} B e => by
      obtain ⟨sl3, n3⟩ := S3
      have e' : sl3 = setsD sl0 l := e
      subst e'
      have RR : Rp c K mg σ G3 H3 ⟨S1.sl, n3⟩ := Rp.back (S := ⟨S1.sl, n⟩) (vs := vs) R2 B.le B.nle B.rp σat (fun j hj => fixed l j hl hj) nv
      have AA : Aft c K mg σ G2 H2 ⟨S1.sl, n⟩ H3 G3 ⟨S1.sl, n3⟩ := ⟨B.le, B.nle, RR, fun b o h1 h2 h3 => by
        obtain ⟨k1, k2, _⟩ := B.hid b o h1 h2 (loB b h3)
        exact ⟨k1, k2, h3⟩⟩
      obtain ⟨k1, k2, k3⟩ := AA.hid P _ hP2 gP2 loP
      exact ⟨(A'.trans A2).trans AA, k2, k1, AA.repAll (A2.repAll ra)⟩
    refine ht _ G2 H2 ⟨setsD sl0 l, n⟩ _ _ RB (fun b H3 ⟨G3, S3, B3, q3⟩ => ?_) q'
    obtain ⟨e3, q3⟩ := q3
    cases b with
    | false =>
      rw [if_neg Bool.false_ne_true] at q3 ⊢
      obtain ⟨k1, k2, k3, k4⟩ := back B3 e3
      exact ⟨G3, S3.n, xs, acc, k1, k2, k3, k4, q3⟩
    | true =>
      rw [if_pos rfl] at q3 ⊢
      refine he _ G3 H3 S3 _ _ B3.rp (fun v H4 ⟨G4, S4, d, B4, r4, q4⟩ => ?_) q3
      obtain ⟨e4, q4⟩ := q4
      obtain ⟨k1, k2, k3, k4⟩ := back (B3.trans B4) e4
      refine ⟨xs, k3, by rw [k4.length, sizeLine_eq]; exact hz, G4, S4.n, xs ++ [v], acc ++ [d], ?_, k2, upd_same, k4.append (.one r4), q4⟩
      refine ⟨k1.le, k1.nle, k1.rp.poke k2 hP0 pl_lst loP, fun b o h1 h2 h3 => ?_⟩
      obtain ⟨j1, j2, j3⟩ := k1.hid b o h1 h2 h3
      exact ⟨by rw [upd_ne (ne_of_none h1 nP)]; exact j1, j2, j3⟩
  · have e : i = items.length := by omega
    subst e
    refine .inl ⟨Y.stop _ G' H' n R'.sub A'.le A'.nle rfl, ?_⟩
    rw [List.drop_length] at q'
    have sm : Same G' (upd G' P (.lst xs)) := fun b w e => by
      rw [upd_ne (ne_of_none e gP')]
      exact e
    have A3 : Aft c K mg σ G1 H1 S1 H' (upd G' P (.lst xs)) ⟨S1.sl, n⟩ := ⟨by
      have z := A'.le.trans (Le.same (T := c.T) sm)
      exact z, A'.nle, R'.adopt gP' hP0 loP hP', fun b o h1 h2 h3 => by
      obtain ⟨j1, j2, j3⟩ := A'.hid b o h1 h2 h3
      exact ⟨j1, by rw [upd_ne (ne_of_none h1 nP)]; exact j2, j3⟩⟩
    exact hQ _ _ ⟨_, ⟨S1.sl, n⟩, .lst acc, A.trans A3, .lst (.inl (.inl upd_same)) (ra.same sm), q'⟩
theorem simLc {wi : TI} {di : DI} {t : TG} {gd : D → Option (List (Nat × D))} {ws : List Nat} {tt : TT} {dt : DT} {te : TE} {de : DE} {vs : List Nat} (hi : SimI c K mg wi di) (hg : SimGc K mg t gd ws) (ht : SimT c K mg tt dt) (he : SimE c K mg te de) (hw : ∀ i ∈ ws, i ∈ vs) :
    SimE c K mg (tLc wi t tt te vs) (dLc di gd dt de vs) := fun σ G H S Qd Q R hQ h => simLcAt R (fun Qd Rr => hi σ G H S Qd Rr R) hg ht he hw Qd Q hQ h
end
/-! ### the rules -/
/-- the weakest reading -/
def canE (c : Ct) (K : PySem.W.Frag) (mg : MG) (de : DE) : TE := fun σ H Q => ∃ G S Qd, Rp c K mg σ G H S ∧ (∀ v H', WE c K mg σ G H S Qd v H' → Q v H') ∧ de S Qd
def canT (c : Ct) (K : PySem.W.Frag) (mg : MG) (de : DT) : TT := fun σ H Q => ∃ G S Qd, Rp c K mg σ G H S ∧ (∀ v H', WT c K mg σ G H S Qd v H' → Q v H') ∧ de S Qd
section
variable {c : Ct} {X : Cx}
theorem sim_canE {K : PySem.W.Frag} {mg : MG} {de : DE} : SimE c K mg (canE c K mg de) de := fun σ G H S Qd Q R hQ h => ⟨G, S, Qd, R, hQ, h⟩
theorem sim_canT {K : PySem.W.Frag} {mg : MG} {de : DT} : SimT c K mg (canT c K mg de) de := fun σ G H S Qd Q R hQ h => ⟨G, S, Qd, R, hQ, h⟩
theorem PDE.can {e : Expr} {de : DE} (h : PDE c X e de) : PE X e (canE c X.K X.mg de) := by
  obtain ⟨te, h1, h2⟩ := h
  refine ⟨fun pins s σ H Q I hq => ?_⟩
  obtain ⟨G, S, Qd, R, hQ, hd⟩ := hq
  exact h1.run pins s σ H Q I (h2 σ G H S Qd Q R hQ hd)
theorem PDT.can {e : Expr} {de : DT} (h : PDT c X e de) : PT X e (canT c X.K X.mg de) := by
  obtain ⟨te, h1, h2⟩ := h
  refine ⟨fun pins s σ H Q I hq => ?_⟩
  obtain ⟨G, S, Qd, R, hQ, hd⟩ := hq
  exact h1.run pins s σ H Q I (h2 σ G H S Qd Q R hQ hd)
def PDTs (c : Ct) (X : Cx) (ifs : List Expr) (dt : DT) : Prop := PTs X ifs (canT c X.K X.mg dt)
theorem pdts_nil : PDTs c X [] dYes := by
  refine ⟨fun pins s σ H Q I hq => ?_⟩
  obtain ⟨G, S, Qd, R, hQ, hd⟩ := hq
  exact pts_nil.run pins s σ H Q I (hQ true H ⟨G, S, .refl R, hd⟩)
theorem pdts_one {e : Expr} {dt : DT} (h : PDT c X e dt) : PDTs c X [e] dt := pts_one h.can
abbrev Blk (X : Cx) (scope : Scope) (s : Shared) (H : Hp) (C : Addr) (cl : List (Str × Addr)) (fp : List Addr) : Cx := X.blk s H scope (compEnvC scope cl C X.env) fp
/-- [elt for x in iter ifs], x in slot i -/
theorem pd_lc {i : Nat} {x : Str} {elt iter : Expr} {ifs : List Expr} {scope : Scope} {pos p : Pos} {di : DI} {dt : DT} {de : DE} (hc : X.calm = true) (hN : X.N.Nodup) (hi : PDI c X (.Name x p) iter di) (ok : BlkOk X.N X.env.scope scope [(x, i)])
    (hg : ∀ s H C cl fp, PG (Blk X scope s H C cl fp) (.Name x p) (gName i)) (ht : ∀ s H C cl fp, PDTs c (Blk X scope s H C cl fp) ifs dt) (he : ∀ s H C cl fp, PDE c (Blk X scope s H C cl fp) elt de) (hs : ∀ x, foldedSetIterable iter X.env x = pure x := by intro _; rfl) :
    PDE c X (.ListComp elt [⟨.Name x p, iter, ifs, 0⟩] scope pos) (dLc di (fun d => some [(i, d)]) dt de [i]) := by
  obtain ⟨wi, i1, i2⟩ := hi
  exact ⟨_, pe_lc (tt := canT c X.K X.mg dt) hc hN i1 ok hg (fun s H C cl fp => ht s H C cl fp) (fun s H C cl fp => (he s H C cl fp).can) hs, simLc i2 (simGc_name i) sim_canT sim_canE fun _ h => h⟩
/-- [elt for x, y in iter ifs] -/
theorem pd_lcP {i j : Nat} {x y : Str} {elt iter : Expr} {ifs : List Expr} {scope : Scope} {pos p q r : Pos} {kk : Nat} {di : DI} {dt : DT} {de : DE} (hc : X.calm = true) (hN : X.N.Nodup) (hi : PDI c X (.Tuple [.Name x p, .Name y q] kk r) iter di) (ok : BlkOk X.N X.env.scope scope [(x, i), (y, j)])
    (hg : ∀ s H C cl fp, PG (Blk X scope s H C cl fp) (.Tuple [.Name x p, .Name y q] kk r) (gTup X.K 2 (gCons (gName i) (gCons (gName j) gNil)))) (ht : ∀ s H C cl fp, PDTs c (Blk X scope s H C cl fp) ifs dt) (he : ∀ s H C cl fp, PDE c (Blk X scope s H C cl fp) elt de) (hs : ∀ x, foldedSetIterable iter X.env x = pure x := by intro _; rfl) :
    PDE c X (.ListComp elt [⟨.Tuple [.Name x p, .Name y q] kk r, iter, ifs, 0⟩] scope pos) (dLc di (gdPair i j) dt de [i, j]) := by
  obtain ⟨wi, i1, i2⟩ := hi
  exact ⟨_, pe_lc (tt := canT c X.K X.mg dt) hc hN i1 ok hg (fun s H C cl fp => ht s H C cl fp) (fun s H C cl fp => (he s H C cl fp).can) hs, simLc i2 (simGc_pair i j) sim_canT sim_canE fun _ h => h⟩
/-- y = [elt for x in iter ifs] -/
theorem pds_setLc {i k : Nat} {x y : Str} {elt iter : Expr} {ifs : List Expr} {scope : Scope} {pos p py spos : Pos} {di : DI} {dt : DT} {de : DE} (hc : X.calm = true) (hN : X.N.Nodup) (hy : X.N[k]? = some y) (hyl : X.env.scope.names.lookup y = some .local)
    (hsw : swapsWith (.ListComp elt [⟨.Name x p, iter, ifs, 0⟩] scope pos) (some (.Name y py)) spos.line X.env = pure true) (hi : PDI c X (.Name x p) iter di) (ok : BlkOk X.N X.env.scope scope [(x, i)])
    (hg : ∀ s H C cl fp, PG (Blk X scope s H C cl fp) (.Name x p) (gName i)) (ht : ∀ s H C cl fp, PDTs c (Blk X scope s H C cl fp) ifs dt) (he : ∀ s H C cl fp, PDE c (Blk X scope s H C cl fp) elt de) (hs : ∀ x, foldedSetIterable iter X.env x = pure x := by intro _; rfl) :
    PDS c X (.Assign [.Name y py] (.ListComp elt [⟨.Name x p, iter, ifs, 0⟩] scope pos) spos) (dAsg k (dLc di (fun d => some [(i, d)]) dt de [i])) := by
  obtain ⟨wi, i1, i2⟩ := hi
  exact ⟨_, ps_setLc (tt := canT c X.K X.mg dt) hc hN hy hyl hsw i1 ok hg (fun s H C cl fp => ht s H C cl fp) (fun s H C cl fp => (he s H C cl fp).can) hs, simAsg k (simLc i2 (simGc_name i) sim_canT sim_canE fun _ h => h)⟩
theorem pds_setLcP {i j k : Nat} {x x2 y : Str} {elt iter : Expr} {ifs : List Expr} {scope : Scope} {pos p q r py spos : Pos} {kk : Nat} {di : DI} {dt : DT} {de : DE} (hc : X.calm = true) (hN : X.N.Nodup) (hy : X.N[k]? = some y) (hyl : X.env.scope.names.lookup y = some .local)
    (hsw : swapsWith (.ListComp elt [⟨.Tuple [.Name x p, .Name x2 q] kk r, iter, ifs, 0⟩] scope pos) (some (.Name y py)) spos.line X.env = pure true) (hi : PDI c X (.Tuple [.Name x p, .Name x2 q] kk r) iter di) (ok : BlkOk X.N X.env.scope scope [(x, i), (x2, j)])
    (hg : ∀ s H C cl fp, PG (Blk X scope s H C cl fp) (.Tuple [.Name x p, .Name x2 q] kk r) (gTup X.K 2 (gCons (gName i) (gCons (gName j) gNil)))) (ht : ∀ s H C cl fp, PDTs c (Blk X scope s H C cl fp) ifs dt) (he : ∀ s H C cl fp, PDE c (Blk X scope s H C cl fp) elt de) (hs : ∀ x, foldedSetIterable iter X.env x = pure x := by intro _; rfl) :
    PDS c X (.Assign [.Name y py] (.ListComp elt [⟨.Tuple [.Name x p, .Name x2 q] kk r, iter, ifs, 0⟩] scope pos) spos) (dAsg k (dLc di (gdPair i j) dt de [i, j])) := by
  obtain ⟨wi, i1, i2⟩ := hi
  exact ⟨_, ps_setLc (tt := canT c X.K X.mg dt) hc hN hy hyl hsw i1 ok hg (fun s H C cl fp => ht s H C cl fp) (fun s H C cl fp => (he s H C cl fp).can) hs, simAsg k (simLc i2 (simGc_pair i j) sim_canT sim_canE fun _ h => h)⟩
end
end DL
set_option maxHeartbeats 1000000
namespace DL
open PySem PySem.Spec PyProof.Rows L2
/-! ### objects of one's own -/
theorem nOl {l : List D} : ∀ d, SV.ol l ≠ .p d := fun _ z => nomatch z
theorem nOd {l : List (Key × D)} : ∀ d, SV.od l ≠ .p d := fun _ z => nomatch z
def WF (c : Ct) (K : PySem.W.Frag) (mg : MG) (σ : Sig) (G H : Hp) (S : DS) (Qd : SV → DS → Prop) : VK := fun v H' => ∃ (p : Addr) (H1 : Hp) (o : HO) (u : SV) (G1 : Hp) (S1 : DS), v = .ref p ∧ H1 p = none ∧ H' = upd H1 p o ∧ Aft c K mg σ G H S H1 G1 S1 ∧
  (∀ H2 : Hp, H2 p = some o → Owns K mg c G1 H2 S1.n p u) ∧ (∀ d, u ≠ .p d) ∧ Qd u S1
abbrev DF := DS → (SV → DS → Prop) → Prop
def SimF (c : Ct) (K : PySem.W.Frag) (mg : MG) (te : TE) (df : DF) : Prop := ∀ σ G H S Qd Q, Rp c K mg σ G H S → (∀ v H', WF c K mg σ G H S Qd v H' → Q v H') → df S Qd → te σ H Q
def PDF (c : Ct) (X : Cx) (e : Expr) (df : DF) : Prop := ∃ te, PE X e te ∧ SimF c X.K X.mg te df
section
variable {c : Ct} {K : PySem.W.Frag} {mg : MG} {σ : Sig} {G H G' H' : Hp} {S S' : DS}
theorem Rp.fresh_loose (R : Rp c K mg σ G H S) {P : Addr} (nP : H P = none) : Loose σ S P := fun i o e => by
  have z := R.slots i
  cases hq : S.sl[i]? with
  | none => rw [hq] at o; exact o
  | some w =>
    cases w with
    | none => rw [hq] at o; exact o
    | some w =>
      rw [hq] at o z
      cases w with
      | p d => exact o
      | ol l =>
        obtain ⟨a', e', _, _, xs, h3, _⟩ := z
        rw [e] at e'
        cases e'
        rw [nP] at h3
        cases h3
      | od l =>
        obtain ⟨a', e', _, _, xs, h3, _⟩ := z
        rw [e] at e'
        cases e'
        rw [nP] at h3
        cases h3
      | ot l =>
        obtain ⟨a', e', _, _, xs, h3, _⟩ := z
        rw [e] at e'
        cases e'
        rw [nP] at h3
        cases h3
theorem Owns.aft (A : Aft c K mg σ G H S H' G' S') {a : Addr} {o : HO} {u : SV} (ho : ∀ H2 : Hp, H2 a = some o → Owns K mg c G H2 S.n a u) (hg : G' a = none) : ∀ H2 : Hp, H2 a = some o → Owns K mg c G' H2 S'.n a u := fun H2 e => by
  have z := ho H2 e
  cases u with
  | p d => exact z
  | ol l =>
    obtain ⟨h1, h2, xs, h3, h4⟩ := z
    exact ⟨hg, h2, xs, h3, A.repAll h4⟩
  | od l =>
    obtain ⟨h1, h2, xs, h3, h4⟩ := z
    exact ⟨hg, h2, xs, h3, h4.up A.le (by have := A.nle; omega)⟩
  | ot l =>
    obtain ⟨h1, h2, xs, h3, h4⟩ := z
    exact ⟨hg, h2, xs, h3, h4.up A.le (by have := A.nle; omega)⟩
theorem owns_ol {p : Addr} {xs : List V} {l : List D} {n : Nat} (R : Rp c K mg σ G H S) (np : H p = none) (r : RepAll K mg G n xs l) : ∀ H2 : Hp, H2 p = some (.lst xs) → Owns K mg c G H2 n p (.ol l) := fun H2 e => ⟨R.gnone np, R.old np, xs, e, r⟩
end
section
variable {c : Ct} {X : Cx} {e : Expr} {es : List Expr} {ds : DA} {de : DE} {pos : Pos}
def dfLst (t : DA) : DF := fun S Q => t S fun xs S1 => xs.length ≤ 16777216 ∧ Q (.ol xs) S1
theorem pdf_lst (h : PDA c X es ds) : PDF c X (.List es pos) (dfLst ds) := by
  obtain ⟨ta, a1, a2⟩ := h
  refine ⟨_, pe_lst a1, fun σ G H S Qd Q R hQ h => ?_⟩
  refine a2 σ G H S _ _ R (fun xs H1 ⟨G1, S1, dx, A1, r1, h1⟩ => ?_) h
  obtain ⟨hz, h1⟩ := h1
  refine ⟨by rw [r1.length, sizeLine_eq]; exact hz, fun p np => ?_⟩
  exact hQ _ _ ⟨p, H1, _, .ol dx, G1, S1, rfl, np, rfl, A1, owns_ol A1.rp np r1, nOl, h1⟩
def dfRep (t : DA) (db : DE) : DF := fun S Q => t S fun xs S1 => xs.length ≤ 16777216 ∧ db S1 fun y S2 => ∃ k, y = .int k ∧ -(2 ^ 63) ≤ k ∧ k < 2 ^ 63 ∧ xs.length * k.toNat ≤ 16777216 ∧ Q (.ol (List.replicate k.toNat xs).flatten) S2
theorem pdf_rep {b : Expr} {db : DE} {p1 : Pos} (ha : PDA c X es ds) (hb : PDE c X b db) : PDF c X (.BinOp (.List es p1) .Mult b pos) (dfRep ds db) := by
  obtain ⟨ta, a1, a2⟩ := ha
  obtain ⟨tb, b1, b2⟩ := hb
  refine ⟨_, pe_op op_rep (pe_lst a1) b1, fun σ G H S Qd Q R hQ h => ?_⟩
  refine a2 σ G H S _ _ R (fun vs H1 ⟨G1, S1, ds, A1, r1, h1⟩ => ?_) h
  obtain ⟨hz, h1⟩ := h1
  refine ⟨by rw [r1.length, sizeLine_eq]; exact hz, fun p np => ?_⟩
  have A2 := Aft.gw0 A1.rp (.alloc (o := .lst vs) A1.rp.sub np)
  refine b2 σ _ _ S1 _ _ A2.rp (fun v H3 ⟨G3, S3, dy, A3, r3, h3⟩ => ?_) h1
  obtain ⟨k, ek, k1, k2, k3, h3⟩ := h3
  subst ek
  cases r3
  have hp : G3 p = some (.lst vs) := A3.le.keep p _ upd_same firm_lst
  refine ⟨p, k, vs, rfl, rfl, A3.rp.sub _ _ hp, k1, k2, by rw [r1.length, sizeLine_eq]; exact k3, fun q nq => ?_⟩
  exact hQ _ _ ⟨q, H3, _, .ol _, G3, S3, rfl, nq, rfl, (A1.trans A2).trans A3, owns_ol A3.rp nq (repAll_flat (A3.repAll (A2.repAll r1)) k.toNat), nOl, h3⟩
/-- list(x) -/
def dfList (t : DA) : DF := fun S Q => t S fun xs S1 => ∃ x l, xs = [x] ∧ itemsOf x = some l ∧ Q (.ol l) S1
theorem pdf_list {p : Pos} (hg : Gl X "list") (hm : X.mg "list" = none) (ha : PDA c X (e :: es) ds) (he : starEach (e :: es) X.env = (false, eval e X.env) :: starEach es X.env := by rfl) (hpl : (backTo pos (starEach es X.env)).any (·.1) = false := by rfl) :
    PDF c X (.Call (.Name "list" p) (e :: es) [] pos) (dfList ds) := by
  obtain ⟨ta, a1, a2⟩ := ha
  refine ⟨_, pe_callTy call_list_of hg hm (by decide +kernel) a1 (by decide) (by decide) he hpl, fun σ G H S Qd Q R hQ h => ?_⟩
  refine a2 σ G H S _ _ R (fun vs H1 ⟨G1, S1, ds, A1, r1, h1⟩ => ?_) h
  obtain ⟨x, l, e1, e2, h1⟩ := h1
  subst e1
  obtain ⟨v, ev, rv⟩ := rep1 r1
  subst ev
  unfold itemsOf at e2
  split at e2
  · cases e2
    cases rv with
    | lst h a => exact ⟨_, _, rfl, .inl (sqL_sub A1.rp.sub h), fun q nq => hQ _ _ ⟨q, H1, _, .ol _, G1, S1, rfl, nq, rfl, A1, owns_ol A1.rp nq a, nOl, h1⟩⟩
  · cases e2
    cases rv with
    | tup h a => exact ⟨_, _, rfl, .inr (sqT_sub A1.rp.sub h), fun q nq => hQ _ _ ⟨q, H1, _, .ol _, G1, S1, rfl, nq, rfl, A1, owns_ol A1.rp nq a, nOl, h1⟩⟩
  · cases e2
/-- {} -/
def dfDict : DF := fun S Q => Q (.od []) S
theorem pdf_dict : PDF c X (.Dict [] [] pos) dfDict :=
  ⟨_, pe_dnewK, fun σ G H S Qd Q R hQ h p np => hQ _ _ ⟨p, H, _, .od [], G, S, rfl, np, rfl, .refl R, fun H2 e => ⟨R.gnone np, R.old np, [], e, .nil⟩, nOd, h⟩⟩
/-- x = a new object of one's own -/
def dOwn (i : Nat) (df : DF) : DSt := fun B S => df S fun u S1 => B.nx { S1 with sl := S1.sl.set i (some u) }
theorem pds_own {i : Nat} {x : Str} {p : Pos} {df : DF} (hN : X.N.Nodup) (hi : X.N[i]? = some x) (hx : Loc X.env.scope x) (he : PDF c X e df) (hs : swapsWith e (some (.Name x p)) pos.line X.env = pure false := by rfl) (hf : X.fn x = true ∨ X.env.scope.names.lookup x = some .local := by first | exact .inl rfl | exact .inr rfl | assumption) :
    PDS c X (.Assign [.Name x p] e pos) (dOwn i df) := by
  obtain ⟨a, a1, a2⟩ := he
  refine ⟨_, ps_set hN hi hx a1 hs hf, fun σ G H S B E R h1 h2 h3 h4 h => ?_⟩
  refine a2 σ G H S _ _ R (fun v H' ⟨q, H1, o, u, G1, S1, ev, nq, eH, A, ho, hu, hq⟩ => ?_) h
  subst ev eH
  have R1 : Rp c X.K X.mg σ G1 (upd H1 q o) S1 := A.rp.hide nq (Owns.pl ho hu)
  exact h1 _ _ ⟨G1, _, R1.take (A.rp.fresh_loose nq) (ho _ upd_same) hu, A.le, A.nle, hq⟩
/-! ### two targets, objects of one's own among them -/
def dParFF (i j : Nat) (da db : DF) : DSt := fun B S => da S fun u S1 => db S1 fun w S2 => B.nx { S2 with sl := (S2.sl.set i (some u)).set j (some w) }
def dParFP (i j : Nat) (da : DF) (db : DE) : DSt := fun B S => da S fun u S1 => db S1 fun w S2 => B.nx { S2 with sl := (S2.sl.set i (some u)).set j (some (.p w)) }
def dParPF (i j : Nat) (da : DE) (db : DF) : DSt := fun B S => da S fun u S1 => db S1 fun w S2 => B.nx { S2 with sl := (S2.sl.set i (some (.p u))).set j (some w) }
theorem loose_set {σ : Sig} {S : DS} {i : Nat} {a b : Addr} {u : SV} (h : Loose σ S b) (ne : a ≠ b) : Loose (σ.set i (some (.ref a))) { S with sl := S.sl.set i (some u) } b := fun j o e => by
  by_cases hj : i = j
  · subst hj
    by_cases hl : i < σ.length
    · rw [List.getElem?_set_self hl] at e
      cases e
      exact ne rfl
    · rw [List.getElem?_eq_none (by simpa using hl)] at e
      cases e
  · have o' : isOwn (S.sl.set i (some u))[j]? := o
    rw [List.getElem?_set_ne hj] at o' e
    exact h j o' e
theorem loose_setP {σ : Sig} {S : DS} {i : Nat} {b : Addr} {v : V} {d : D} (h : Loose σ S b) (hl : σ.length = S.sl.length) : Loose (σ.set i (some v)) { S with sl := S.sl.set i (some (.p d)) } b := fun j o e => by
  have o' : isOwn (S.sl.set i (some (SV.p d)))[j]? := o
  by_cases hj : i = j
  · subst hj
    by_cases hl : i < S.sl.length
    · rw [List.getElem?_set_self hl] at o'
      exact o'
    · rw [List.getElem?_eq_none (by simpa using hl)] at o'
      exact o'
  · rw [List.getElem?_set_ne hj] at o' e
    exact h j o' e
section
variable {i j : Nat} {x y : Str} {a b : Expr} {px py pt : Pos} {kt k2 : Nat} {pt2 : Pos} {da db : DF} {ea eb : DE}
theorem pds_parFF (hc : X.calm = true) (hN : X.N.Nodup) (hi : X.N[i]? = some x) (hj : X.N[j]? = some y) (hij : i ≠ j)
    (hx : X.env.scope.names.lookup x = some .local) (hy : X.env.scope.names.lookup y = some .local) (ha : PDF c X a da) (hb : PDF c X b db)
    (hw : swappedStores [.Tuple [.Name x px, .Name y py] kt pt] (.Tuple [a, b] k2 pt2) X.env = pure (some [x, y]))
    (hs : swapsWithSole [.Tuple [.Name x px, .Name y py] kt pt] (.Tuple [a, b] k2 pt2) pos.line X.env = pure false := by rfl)
    (hs1 : starEach [a, b] X.env = (false, eval a X.env) :: starEach [b] X.env := by rfl) (hs2 : starEach [b] X.env = (false, eval b X.env) :: starEach [] X.env := by rfl) :
    PDS c X (.Assign [.Tuple [.Name x px, .Name y py] kt pt] (.Tuple [a, b] k2 pt2) pos) (dParFF i j da db) := by
  obtain ⟨ta, a1, a2⟩ := ha
  obtain ⟨tb, b1, b2⟩ := hb
  refine ⟨_, ps_par hc hN hi hj hij hx hy (pa_cons a1 (pa_cons b1 pa_nil hs2) hs1) hw hs, fun σ G H S B E R h1 h2 h3 h4 h => ?_⟩
  refine a2 σ G H S _ _ R (fun v H' ⟨q, H1, o, u, G1, S1, ev, nq, eH, A, ho, hu, hq⟩ => ?_) h
  subst ev eH
  have R1 : Rp c X.K X.mg σ G1 (upd H1 q o) S1 := A.rp.hide nq (Owns.pl ho hu)
  refine b2 σ G1 _ S1 _ _ R1 (fun w H3 ⟨q2, H2, o2, u2, G2, S2, ev2, nq2, eH2, A2, ho2, hu2, hq2⟩ => ?_) hq
  subst ev2 eH2
  obtain ⟨k1, k2, k3⟩ := A2.hid q o upd_same (A.rp.gnone nq) (A.rp.fresh_loose nq)
  have ne : q ≠ q2 := ne_of_none k1 nq2
  have R2 : Rp c X.K X.mg σ G2 (upd H2 q2 o2) S2 := A2.rp.hide nq2 (Owns.pl ho2 hu2)
  have o1 := Owns.aft A2 ho k2 (upd H2 q2 o2) (by rw [upd_ne ne]; exact k1)
  have R3 := R2.take (i := i) k3 o1 hu
  have R4 := R3.take (i := j) (p := q2) (u := u2) (loose_set (A2.rp.fresh_loose nq2) ne) (ho2 _ upd_same) hu2
  exact ⟨_, _, rfl, h1 _ _ ⟨G2, _, R4, le_trans' A.le A.nle A2.le A2.nle, Nat.le_trans A2.nle A.nle, hq2⟩⟩
theorem pds_parFP (hc : X.calm = true) (hN : X.N.Nodup) (hi : X.N[i]? = some x) (hj : X.N[j]? = some y) (hij : i ≠ j)
    (hx : X.env.scope.names.lookup x = some .local) (hy : X.env.scope.names.lookup y = some .local) (ha : PDF c X a da) (hb : PDE c X b eb)
    (hw : swappedStores [.Tuple [.Name x px, .Name y py] kt pt] (.Tuple [a, b] k2 pt2) X.env = pure (some [x, y]))
    (hs : swapsWithSole [.Tuple [.Name x px, .Name y py] kt pt] (.Tuple [a, b] k2 pt2) pos.line X.env = pure false := by rfl)
    (hs1 : starEach [a, b] X.env = (false, eval a X.env) :: starEach [b] X.env := by rfl) (hs2 : starEach [b] X.env = (false, eval b X.env) :: starEach [] X.env := by rfl) :
    PDS c X (.Assign [.Tuple [.Name x px, .Name y py] kt pt] (.Tuple [a, b] k2 pt2) pos) (dParFP i j da eb) := by
  obtain ⟨ta, a1, a2⟩ := ha
  obtain ⟨tb, b1, b2⟩ := hb
  refine ⟨_, ps_par hc hN hi hj hij hx hy (pa_cons a1 (pa_cons b1 pa_nil hs2) hs1) hw hs, fun σ G H S B E R h1 h2 h3 h4 h => ?_⟩
  refine a2 σ G H S _ _ R (fun v H' ⟨q, H1, o, u, G1, S1, ev, nq, eH, A, ho, hu, hq⟩ => ?_) h
  subst ev eH
  have R1 : Rp c X.K X.mg σ G1 (upd H1 q o) S1 := A.rp.hide nq (Owns.pl ho hu)
  refine b2 σ G1 _ S1 _ _ R1 (fun w H2 ⟨G2, S2, d, A2, r2, hq2⟩ => ?_) hq
  obtain ⟨k1, k2, k3⟩ := A2.hid q o upd_same (A.rp.gnone nq) (A.rp.fresh_loose nq)
  have o1 := Owns.aft A2 ho k2 H2 k1
  have R3 := A2.rp.take (i := i) k3 o1 hu
  have R4 := R3.set (i := j) (v := w) (d := d) r2
  exact ⟨_, _, rfl, h1 _ _ ⟨G2, _, R4, le_trans' A.le A.nle A2.le A2.nle, Nat.le_trans A2.nle A.nle, hq2⟩⟩
theorem pds_parPF (hc : X.calm = true) (hN : X.N.Nodup) (hi : X.N[i]? = some x) (hj : X.N[j]? = some y) (hij : i ≠ j)
    (hx : X.env.scope.names.lookup x = some .local) (hy : X.env.scope.names.lookup y = some .local) (ha : PDE c X a ea) (hb : PDF c X b db)
    (hw : swappedStores [.Tuple [.Name x px, .Name y py] kt pt] (.Tuple [a, b] k2 pt2) X.env = pure (some [x, y]))
    (hs : swapsWithSole [.Tuple [.Name x px, .Name y py] kt pt] (.Tuple [a, b] k2 pt2) pos.line X.env = pure false := by rfl)
    (hs1 : starEach [a, b] X.env = (false, eval a X.env) :: starEach [b] X.env := by rfl) (hs2 : starEach [b] X.env = (false, eval b X.env) :: starEach [] X.env := by rfl) :
    PDS c X (.Assign [.Tuple [.Name x px, .Name y py] kt pt] (.Tuple [a, b] k2 pt2) pos) (dParPF i j ea db) := by
  obtain ⟨ta, a1, a2⟩ := ha
  obtain ⟨tb, b1, b2⟩ := hb
  refine ⟨_, ps_par hc hN hi hj hij hx hy (pa_cons a1 (pa_cons b1 pa_nil hs2) hs1) hw hs, fun σ G H S B E R h1 h2 h3 h4 h => ?_⟩
  refine a2 σ G H S _ _ R (fun v H1 ⟨G1, S1, d, A, r1, hq⟩ => ?_) h
  refine b2 σ G1 H1 S1 _ _ A.rp (fun w H3 ⟨q2, H2, o2, u2, G2, S2, ev2, nq2, eH2, A2, ho2, hu2, hq2⟩ => ?_) hq
  subst ev2 eH2
  have R2 : Rp c X.K X.mg σ G2 (upd H2 q2 o2) S2 := A2.rp.hide nq2 (Owns.pl ho2 hu2)
  have R3 := R2.set (i := i) (A2.rep r1)
  have R4 := R3.take (i := j) (p := q2) (u := u2) (loose_setP (A2.rp.fresh_loose nq2) A2.rp.len) (ho2 _ upd_same) hu2
  exact ⟨_, _, rfl, h1 _ _ ⟨G2, _, R4, le_trans' A.le A.nle A2.le A2.nle, Nat.le_trans A2.nle A.nle, hq2⟩⟩
end
/-! ### append, pop, stores -/
def olAt (S : DS) (i : Nat) : Option (List D) := match S.sl[i]? with
  | some (some (.ol l)) => some l
  | _ => none
def odAt (S : DS) (i : Nat) : Option (List (Key × D)) := match S.sl[i]? with
  | some (some (.od l)) => some l
  | _ => none
section
variable {K : PySem.W.Frag} {mg : MG} {σ : Sig} {G H : Hp} {S : DS} {i : Nat}
theorem ol_get (R : Rp c K mg σ G H S) {l : List D} (h : olAt S i = some l) : ∃ a xs, S.sl[i]? = some (some (.ol l)) ∧ σ[i]? = some (some (.ref a)) ∧ G a = none ∧ (c.G0 a = none → c.H0 a = none) ∧ H a = some (.lst xs) ∧ RepAll K mg G S.n xs l := by
  unfold olAt at h
  split at h
  · rename_i e
    cases h
    have z := R.slots i
    rw [e] at z
    obtain ⟨a, e', h1, h2, xs, h3, h4⟩ := z
    exact ⟨a, xs, e, e', h1, h2, h3, h4⟩
  · cases h
theorem od_get (R : Rp c K mg σ G H S) {l : List (Key × D)} (h : odAt S i = some l) : ∃ a xs, S.sl[i]? = some (some (.od l)) ∧ σ[i]? = some (some (.ref a)) ∧ G a = none ∧ (c.G0 a = none → c.H0 a = none) ∧ H a = some (.dK xs) ∧ RepK K mg G S.n xs l := by
  unfold odAt at h
  split at h
  · rename_i e
    cases h
    have z := R.slots i
    rw [e] at z
    obtain ⟨a, e', h1, h2, xs, h3, h4⟩ := z
    exact ⟨a, xs, e, e', h1, h2, h3, h4⟩
  · cases h
/-- an own list, written -/
theorem Aft.put (R : Rp c K mg σ G H S) {a : Addr} {l l' : List D} {xs : List V} (hs : S.sl[i]? = some (some (.ol l))) (hσ : σ[i]? = some (some (.ref a))) (g : G a = none) (h0 : c.G0 a = none → c.H0 a = none) (r : RepAll K mg G S.n xs l') :
    Aft c K mg σ G H S (upd H a (.lst xs)) G { S with sl := S.sl.set i (some (.ol l')) } := by
  refine ⟨by show Le c.T (S.n - S.n) G G; rw [Nat.sub_self]; exact .refl _ _, Nat.le_refl _, R.put hs (fun _ z => nomatch z) (fun _ z => nomatch z) hσ fun H' e => ⟨g, h0, xs, e, r⟩, fun b o h1 h2 h3 => ?_⟩
  have ne : b ≠ a := fun z => by
    subst z
    exact h3 i (by rw [hs]; exact True.intro) hσ
  refine ⟨by rw [upd_ne ne]; exact h1, h2, fun j o e => ?_⟩
  have o' : isOwn (S.sl.set i (some (SV.ol l')))[j]? := o
  by_cases hj : i = j
  · subst hj
    rw [hσ] at e
    cases e
    exact ne rfl
  · rw [List.getElem?_set_ne hj] at o'
    exact h3 j o' e
theorem Aft.putD (R : Rp c K mg σ G H S) {a : Addr} {l l' : List (Key × D)} {xs : List (Key × V)} (hs : S.sl[i]? = some (some (.od l))) (hσ : σ[i]? = some (some (.ref a))) (g : G a = none) (h0 : c.G0 a = none → c.H0 a = none) (r : RepK K mg G S.n xs l') :
    Aft c K mg σ G H S (upd H a (.dK xs)) G { S with sl := S.sl.set i (some (.od l')) } := by
  refine ⟨by show Le c.T (S.n - S.n) G G; rw [Nat.sub_self]; exact .refl _ _, Nat.le_refl _, R.put hs (fun _ z => nomatch z) (fun _ z => nomatch z) hσ fun H' e => ⟨g, h0, xs, e, r⟩, fun b o h1 h2 h3 => ?_⟩
  have ne : b ≠ a := fun z => by
    subst z
    exact h3 i (by rw [hs]; exact True.intro) hσ
  refine ⟨by rw [upd_ne ne]; exact h1, h2, fun j o e => ?_⟩
  have o' : isOwn (S.sl.set i (some (SV.od l')))[j]? := o
  by_cases hj : i = j
  · subst hj
    rw [hσ] at e
    cases e
    exact ne rfl
  · rw [List.getElem?_set_ne hj] at o'
    exact h3 j o' e
end
def dAppend (i : Nat) (de : DE) : DE := fun S Q => ∃ l0, olAt S i = some l0 ∧ de S fun d S1 => ∃ l, olAt S1 i = some l ∧ l.length < 16777216 ∧ Q .non { S1 with sl := S1.sl.set i (some (.ol (l ++ [d]))) }
section
variable {i : Nat} {x : Str} {p apos cpos : Pos}
theorem pd_append (hN : X.N[i]? = some x) (hv : Vis X.env.scope x) (he : PDE c X e de)
    (hbase : attributeBase (.Name x p) "append" X.env (eval (.Name x p) X.env) = eval (.Name x p) X.env := by rfl)
    (hfew : ((backTo cpos (starEach (e :: []) X.env)).all (fun x => !x.1) && (backToKw cpos (keywordEach [] X.env)).all (fun x => x.1.isSome)
      && decide ((e :: []).length + ([] : List Keyword).length + (if ([] : List Keyword).isEmpty then 0 else 1) < 30)) = true := by rfl)
    (hline : (apos.endLine == cpos.line) = true := by rfl) (hs : starEach (e :: []) X.env = (false, eval e X.env) :: starEach [] X.env := by rfl)
    (hd : (x == ("__debug__" : Str)) = false := by decide) (hcd : (x == ("__classdict__" : Str)) = false := by decide) :
    PDE c X (.Call (.Attribute (.Name x p) "append" apos) [e] [] cpos) (dAppend i de) := by
  obtain ⟨te, e1, e2⟩ := he
  refine ⟨_, pe_bm PySem.F.plainAttrs_list PySem.F.slot_list_append PySem.F.type_list_append mt_append (pe_var hN hv hd hcd) (pa_cons e1 pa_nil hs) hbase hfew hline hs rfl, fun σ G H S Qd Q R hQ h => ?_⟩
  obtain ⟨l0, h0, h⟩ := h
  obtain ⟨a, xs0, q1, q2, q3, q4, q5, q6⟩ := ol_get R h0
  refine ⟨.ref a, q2, .inl ⟨rfl, _, SqL.of q5⟩, ?_⟩
  refine e2 σ G H S _ _ R (fun v H1 ⟨G1, S1, d, A, r, h1⟩ => ?_) h
  obtain ⟨l, hl, hz, h1⟩ := h1
  obtain ⟨a', xs, p1, p2, p3, p4, p5, p6⟩ := ol_get A.rp hl
  rw [q2] at p2
  cases p2
  refine ⟨a, xs, v, rfl, rfl, p5, by rw [p6.length, sizeLine_eq]; exact hz, ?_⟩
  have B := Aft.put A.rp p1 q2 p3 p4 (p6.append (.one r))
  exact hQ _ _ ⟨G1, _, .non, A.trans B, .non, h1⟩
def dPopAt (i : Nat) (de : DE) : DE := fun S Q => ∃ l0, olAt S i = some l0 ∧ de S fun k S1 => ∃ (l : List D) (ix : Int) (j : Nat) (d : D), olAt S1 i = some l ∧ k = .int ix ∧ -(2 ^ 63) ≤ ix ∧ ix < 2 ^ 63 ∧ seqIndex? ix l.length = some j ∧ l[j]? = some d ∧ Q d { S1 with sl := S1.sl.set i (some (.ol (l.eraseIdx j))) }
theorem repAll_erase {K : PySem.W.Frag} {mg : MG} {G : Hp} {n : Nat} : ∀ {vs : List V} {ds : List D} (j : Nat), RepAll K mg G n vs ds → RepAll K mg G n (vs.eraseIdx j) (ds.eraseIdx j)
  | _, _, _, .nil => .nil
  | _, _, 0, .cons a b => b
  | _, _, j + 1, .cons a b => .cons a (repAll_erase j b)
theorem pd_popAt (hN : X.N[i]? = some x) (hv : Vis X.env.scope x) (he : PDE c X e de)
    (hbase : attributeBase (.Name x p) "pop" X.env (eval (.Name x p) X.env) = eval (.Name x p) X.env := by rfl)
    (hfew : ((backTo cpos (starEach (e :: []) X.env)).all (fun x => !x.1) && (backToKw cpos (keywordEach [] X.env)).all (fun x => x.1.isSome)
      && decide ((e :: []).length + ([] : List Keyword).length + (if ([] : List Keyword).isEmpty then 0 else 1) < 30)) = true := by rfl)
    (hline : (apos.endLine == cpos.line) = true := by rfl) (hs : starEach (e :: []) X.env = (false, eval e X.env) :: starEach [] X.env := by rfl)
    (hd : (x == ("__debug__" : Str)) = false := by decide) (hcd : (x == ("__classdict__" : Str)) = false := by decide) :
    PDE c X (.Call (.Attribute (.Name x p) "pop" apos) [e] [] cpos) (dPopAt i de) := by
  obtain ⟨te, e1, e2⟩ := he
  refine ⟨_, pe_bm PySem.F.plainAttrs_list PySem.F.slot_list_pop PySem.F.type_list_pop mt_popAt (pe_var hN hv hd hcd) (pa_cons e1 pa_nil hs) hbase hfew hline hs rfl, fun σ G H S Qd Q R hQ h => ?_⟩
  obtain ⟨l0, h0, h⟩ := h
  obtain ⟨a, xs0, q1, q2, q3, q4, q5, q6⟩ := ol_get R h0
  refine ⟨.ref a, q2, .inl ⟨rfl, _, SqL.of q5⟩, ?_⟩
  refine e2 σ G H S _ _ R (fun v H1 ⟨G1, S1, d, A, r, h1⟩ => ?_) h
  obtain ⟨l, ix, j, d1, hl, ek, b1, b2, hj, hd1, h1⟩ := h1
  subst ek
  cases r
  obtain ⟨a', xs, p1, p2, p3, p4, p5, p6⟩ := ol_get A.rp hl
  rw [q2] at p2
  cases p2
  obtain ⟨y, ey, ry⟩ := p6.get hd1
  refine ⟨a, xs, ix, j, y, rfl, rfl, p5, b1, b2, by rw [p6.length]; exact hj, ey, ?_⟩
  have B := Aft.put A.rp p1 q2 p3 p4 (repAll_erase j p6)
  exact hQ _ _ ⟨G1, _, d1, A.trans B, B.rep ry, h1⟩
/-- x.extend(a list) -/
def dExtend (i : Nat) (de : DE) : DE := fun S Q => ∃ l0, olAt S i = some l0 ∧ de S fun d S1 => ∃ l r, olAt S1 i = some l ∧ d = .lst r ∧ l.length + r.length ≤ 16777216 ∧ Q .non { S1 with sl := S1.sl.set i (some (.ol (l ++ r))) }
/-- len(x), x one's own -/
def dLenOl (i : Nat) : DE := fun S Q => ∃ l, olAt S i = some l ∧ Q (.int l.length) S
theorem pd_lenOl {p2 : Pos} (hg : Gl X "len") (hm : X.mg "len" = none) (hN : X.N[i]? = some x) (hv : Vis X.env.scope x) (hs : starEach [.Name x p] X.env = (false, eval (.Name x p) X.env) :: starEach [] X.env := by rfl) (hpl : (backTo pos (starEach [] X.env)).any (·.1) = false := by rfl)
    (hd : (x == ("__debug__" : Str)) = false := by decide) (hcd : (x == ("__classdict__" : Str)) = false := by decide) : PDE c X (.Call (.Name "len" p2) [.Name x p] [] pos) (dLenOl i) := by
  refine ⟨_, pe_callB call_len_seq hg hm (by decide +kernel) (pa_cons (pe_var hN hv hd hcd) pa_nil hs) (by decide) (by decide) hs hpl, fun σ G H S Qd Q R hQ h => ?_⟩
  obtain ⟨l, hl, h⟩ := h
  obtain ⟨a, xs, q1, q2, q3, q4, q5, q6⟩ := ol_get R hl
  refine ⟨.ref a, q2, a, xs, rfl, .inl (SqL.of q5), ?_⟩
  rw [q6.length]
  exact hQ _ _ ⟨G, S, _, .refl R, .int _, h⟩
/-- x[k] = .., x a list of one's own -/
def dgSetIx (i : Nat) (dk : DE) : DG := fun d S Q => ∃ l0, olAt S i = some l0 ∧ dk S fun k S1 => ∃ (l : List D) (ix : Int) (j : Nat), olAt S1 i = some l ∧ k = .int ix ∧ ixN l.length ix = some j ∧ Q { S1 with sl := S1.sl.set i (some (.ol (l.set j d))) }
theorem pdg_setIx {k : Expr} {dk : DE} (hN : X.N[i]? = some x) (hv : Vis X.env.scope x) (hk : PDE c X k dk)
    (ha : ∀ v, assign (.Subscript (.Name x p) k pos) X.env v = (do
      let ov ← holding [v] (eval (.Name x p) X.env)
      let iv ← holding [v, ov] (eval k X.env)
      standAt pos
      holding [v, ov, iv] (setItem ov iv v)
      release [v, ov, iv] []) := by intro _; rfl)
    (hd : (x == ("__debug__" : Str)) = false := by decide) (hcd : (x == ("__classdict__" : Str)) = false := by decide) : PDG c X (.Subscript (.Name x p) k pos) (dgSetIx i dk) := by
  obtain ⟨tk, k1, k2⟩ := hk
  refine ⟨_, pg_sub (pe_var hN hv hd hcd) k1 set_list ha, fun σ G H S v d Qd Q R rv hQ h => ?_⟩
  obtain ⟨l0, h0, h⟩ := h
  obtain ⟨a, xs0, q1, q2, q3, q4, q5, q6⟩ := ol_get R h0
  refine ⟨.ref a, q2, ?_⟩
  refine k2 σ G H S _ _ R (fun w H1 ⟨G1, S1, dk, A, r, h1⟩ => ?_) h
  obtain ⟨l, ix, j, hl, ek, hj, h1⟩ := h1
  subst ek
  cases r
  obtain ⟨a', xs, p1, p2, p3, p4, p5, p6⟩ := ol_get A.rp hl
  rw [q2] at p2
  cases p2
  refine ⟨a, xs, ix, j, rfl, rfl, p5, by rw [p6.length]; exact hj, ?_⟩
  have B := Aft.put A.rp p1 q2 p3 p4 (RepAll.set (A.rep rv) j p6)
  exact hQ _ _ ⟨G1, _, B.rp, (A.trans B).le, (A.trans B).nle, h1⟩
end
/-! ### dicts -/
def keyOf : D → Option Key
  | .int i => some (.inl i)
  | .str x => some (.inr x)
  | _ => none
def lookD (l : List (Key × D)) (k : Key) : Option D := (l.find? fun p => decide (p.1 = k)).map (·.2)
def putD (l : List (Key × D)) (k : Key) (d : D) : List (Key × D) := if (l.any fun p => decide (p.1 = k)) = true then l.map (fun p => if p.1 = k then (p.1, d) else p) else l ++ [(k, d)]
section
variable {K : PySem.W.Frag} {mg : MG} {G : Hp} {n : Nat}
theorem rep_key {v : V} {d : D} {k : Key} (r : Rep K mg G n v d) (h : keyOf d = some k) : v = kV k := by
  unfold keyOf at h
  split at h
  · cases h
    cases r
    rfl
  · cases h
    cases r
    rfl
  · cases h
theorem repK_look {k : Key} : ∀ {xs : List (Key × V)} {l : List (Key × D)}, RepK K mg G n xs l → (lookD l k = none ∧ valV xs k = none) ∨ ∃ d v, lookD l k = some d ∧ valV xs k = some v ∧ Rep K mg G n v d
  | _, _, .nil => .inl ⟨rfl, rfl⟩
  | _, _, .cons (k := k') (v := v) (d := d) a b => by
    by_cases e : k' = k
    · refine .inr ⟨d, v, ?_, valV_pos e, a⟩
      simp [lookD, List.find?_cons, e]
    · have h1 : ∀ r : List (Key × D), lookD ((k', d) :: r) k = lookD r k := fun r => by simp [lookD, List.find?_cons, e]
      rw [h1, valV_neg (p := (k', v)) e]
      exact repK_look b
theorem repK_len : ∀ {xs : List (Key × V)} {l : List (Key × D)}, RepK K mg G n xs l → xs.length = l.length
  | _, _, .nil => rfl
  | _, _, .cons a b => by rw [List.length_cons, List.length_cons, repK_len b]
theorem repK_any {k : Key} : ∀ {xs : List (Key × V)} {l : List (Key × D)}, RepK K mg G n xs l → (xs.any fun p => decide (p.1 = k)) = l.any fun p => decide (p.1 = k)
  | _, _, .nil => rfl
  | _, _, .cons a b => by rw [List.any_cons, List.any_cons, repK_any b]
theorem repK_app : ∀ {xs ys : List (Key × V)} {l m : List (Key × D)}, RepK K mg G n xs l → RepK K mg G n ys m → RepK K mg G n (xs ++ ys) (l ++ m)
  | _, _, _, _, .nil, h => h
  | _, _, _, _, .cons a b, h => .cons a (repK_app b h)
theorem repK_map {k : Key} {v : V} {d : D} (r : Rep K mg G n v d) : ∀ {xs : List (Key × V)} {l : List (Key × D)}, RepK K mg G n xs l → RepK K mg G n (xs.map fun p => if p.1 = k then (p.1, v) else p) (l.map fun p => if p.1 = k then (p.1, d) else p)
  | _, _, .nil => .nil
  | _, _, .cons (k := k') (v := v') (d := d') a b => by
    rw [List.map_cons, List.map_cons]
    by_cases e : k' = k
    · rw [if_pos e, if_pos e]
      exact .cons r (repK_map r b)
    · rw [if_neg e, if_neg e]
      exact .cons a (repK_map r b)
theorem repK_put {k : Key} {v : V} {d : D} (r : Rep K mg G n v d) {xs : List (Key × V)} {l : List (Key × D)} (h : RepK K mg G n xs l) : RepK K mg G n (putK xs k v) (putD l k d) := by
  unfold putK putD
  rw [repK_any h]
  by_cases e : (l.any fun p => decide (p.1 = k)) = true
  · rw [if_pos e, if_pos e]
    exact repK_map r h
  · rw [if_neg e, if_neg e]
    exact repK_app h (.cons r .nil)
end
def dctAt (S : DS) (i : Nat) : Option (List (Key × D)) := match S.sl[i]? with
  | some (some (.od l)) => some l
  | some (some (.p (.dct l))) => some l
  | _ => none
theorem dct_get {K : PySem.W.Frag} {mg : MG} {σ : Sig} {G H : Hp} {S : DS} {i : Nat} (R : Rp c K mg σ G H S) {l : List (Key × D)} (h : dctAt S i = some l) : ∃ a xs, σ[i]? = some (some (.ref a)) ∧ Rd H a (.dK xs) ∧ RepK K mg G S.n xs l := by
  unfold dctAt at h
  split at h
  · rename_i e
    cases h
    have z := R.slots i
    rw [e] at z
    obtain ⟨a, e', h1, h2, xs, h3, h4⟩ := z
    exact ⟨a, xs, e', .inl h3, h4⟩
  · rename_i e
    cases h
    have z := R.slots i
    rw [e] at z
    obtain ⟨v, e', r⟩ := z
    cases r with
    | dct h a => exact ⟨_, _, e', rd_sub R.sub h, a⟩
  · cases h
section
variable {i : Nat} {x : Str} {p apos cpos : Pos} {k : Expr} {dk : DE}
def dDGet (i : Nat) (dk : DE) : DE := fun S Q => (∃ l0, dctAt S i = some l0) ∧ dk S fun k S1 => ∃ l ky d, dctAt S1 i = some l ∧ keyOf k = some ky ∧ lookD l ky = some d ∧ Q d S1
theorem pd_dget (hu : X.A.units + 1 < cLine) (hN : X.N[i]? = some x) (hv : Vis X.env.scope x) (hk : PDE c X k dk) (hs : NoSl k := by intro _ _; rfl) (hd : (x == ("__debug__" : Str)) = false := by decide) (hcd : (x == ("__classdict__" : Str)) = false := by decide) :
    PDE c X (.Subscript (.Name x p) k pos) (dDGet i dk) := by
  obtain ⟨tk, k1, k2⟩ := hk
  refine ⟨_, pe_dget hu (pe_var hN hv hd hcd) k1 hs, fun σ G H S Qd Q R hQ h => ?_⟩
  obtain ⟨⟨l0, h0⟩, h⟩ := h
  obtain ⟨a, xs0, q1, q2, q3⟩ := dct_get R h0
  refine ⟨.ref a, q1, ?_⟩
  refine k2 σ G H S _ _ R (fun w H1 ⟨G1, S1, dk, A, r, h1⟩ => ?_) h
  obtain ⟨l, ky, d, hl, ek, e2, h1⟩ := h1
  obtain ⟨a', xs, p1, p2, p3⟩ := dct_get A.rp hl
  rw [q1] at p1
  cases p1
  rcases repK_look (k := ky) p3 with ⟨z1, z2⟩ | ⟨d', v, z1, z2, z3⟩
  · rw [e2] at z1
    cases z1
  · rw [e2] at z1
    cases z1
    exact ⟨a, v, rfl, .inl ⟨xs, ky, p2, rep_key r ek, z2.symm⟩, hQ _ _ ⟨G1, S1, d, A, z3, h1⟩⟩
/-- k in x, k not in x -/
def dDIn (neg : Bool) (i : Nat) (dk : DE) : DE := fun S Q => dk S fun k S1 => ∃ l ky, dctAt S1 i = some l ∧ keyOf k = some ky ∧ Q (.bl (if neg then !(lookD l ky).isSome else (lookD l ky).isSome)) S1
theorem simDIn {K : PySem.W.Frag} {mg : MG} {tk : TE} (k2 : SimE c K mg tk dk) : SimE c K mg (tDIn tk (tVar i)) (dDIn false i dk) := by
  intro σ G H S Qd Q R hQ h
  refine k2 σ G H S _ _ R (fun w H1 ⟨G1, S1, dk, A, r, h1⟩ => ?_) h
  obtain ⟨l, ky, hl, ek, h1⟩ := h1
  obtain ⟨a, xs, p1, p2, p3⟩ := dct_get A.rp hl
  refine ⟨.ref a, p1, a, valV xs ky, rfl, .inl ⟨xs, ky, p2, rep_key r ek, rfl⟩, ?_⟩
  have e : (valV xs ky).isSome = (lookD l ky).isSome := by
    rcases repK_look (k := ky) p3 with ⟨z1, z2⟩ | ⟨d', v, z1, z2, z3⟩ <;> rw [z1, z2] <;> rfl
  rw [e]
  exact hQ _ _ ⟨G1, S1, _, A, .bl _, h1⟩
theorem simDNotIn {K : PySem.W.Frag} {mg : MG} {tk : TE} (k2 : SimE c K mg tk dk) : SimE c K mg (tDNotIn tk (tVar i)) (dDIn true i dk) := by
  intro σ G H S Qd Q R hQ h
  refine k2 σ G H S _ _ R (fun w H1 ⟨G1, S1, dk, A, r, h1⟩ => ?_) h
  obtain ⟨l, ky, hl, ek, h1⟩ := h1
  obtain ⟨a, xs, p1, p2, p3⟩ := dct_get A.rp hl
  refine ⟨.ref a, p1, a, valV xs ky, rfl, .inl ⟨xs, ky, p2, rep_key r ek, rfl⟩, ?_⟩
  have e : (valV xs ky).isSome = (lookD l ky).isSome := by
    rcases repK_look (k := ky) p3 with ⟨z1, z2⟩ | ⟨d', v, z1, z2, z3⟩ <;> rw [z1, z2] <;> rfl
  rw [e]
  exact hQ _ _ ⟨G1, S1, _, A, .bl _, h1⟩
theorem pdt_din (hu : X.A.units + 1 < cLine) (hN : X.N[i]? = some x) (hv : Vis X.env.scope x) (hk : PDE c X k dk) (h1 : behindInMarks .In (.Name x p) = false := by rfl) (hd : (x == ("__debug__" : Str)) = false := by decide) (hcd : (x == ("__classdict__" : Str)) = false := by decide) :
    PDT c X (.Compare k [.In] [.Name x p] pos) (dB (dDIn false i dk)) := by
  obtain ⟨tk, k1, k2⟩ := hk
  exact ⟨_, pt_cmp (pc_din hu k1 (pe_var hN hv hd hcd)) h1, simB (simDIn k2)⟩
theorem pdt_dnotin (hu : X.A.units + 1 < cLine) (hN : X.N[i]? = some x) (hv : Vis X.env.scope x) (hk : PDE c X k dk) (h1 : behindInMarks .NotIn (.Name x p) = false := by rfl) (hd : (x == ("__debug__" : Str)) = false := by decide) (hcd : (x == ("__classdict__" : Str)) = false := by decide) :
    PDT c X (.Compare k [.NotIn] [.Name x p] pos) (dB (dDIn true i dk)) := by
  obtain ⟨tk, k1, k2⟩ := hk
  exact ⟨_, pt_cmp (pc_dnotin hu k1 (pe_var hN hv hd hcd)) h1, simB (simDNotIn k2)⟩
theorem pd_dnotin (hu : X.A.units + 1 < cLine) (hN : X.N[i]? = some x) (hv : Vis X.env.scope x) (hk : PDE c X k dk) (h1 : behindInMarks .NotIn (.Name x p) = false := by rfl) (hd : (x == ("__debug__" : Str)) = false := by decide) (hcd : (x == ("__classdict__" : Str)) = false := by decide) :
    PDE c X (.Compare k [.NotIn] [.Name x p] pos) (dDIn true i dk) := by
  obtain ⟨tk, k1, k2⟩ := hk
  exact ⟨_, pe_cmp (pc_dnotin hu k1 (pe_var hN hv hd hcd)) h1, simDNotIn k2⟩
/-- x[k] = v -/
def dDPut (i : Nat) (dk dv : DE) : DSt := fun B S => dv S fun d S1 => (∃ l0, odAt S1 i = some l0) ∧ dk S1 fun k S2 => ∃ l ky, odAt S2 i = some l ∧ keyOf k = some ky ∧ l.length < 16777216 ∧ B.nx { S2 with sl := S2.sl.set i (some (.od (putD l ky d))) }
theorem pds_dput {v : Expr} {dv : DE} (hu : X.A.units + 1 < cLine) (hN : X.N[i]? = some x) (hv : Vis X.env.scope x) (hk : PDE c X k dk) (hval : PDE c X v dv) (hs : swapsWith v (some (.Subscript (.Name x p) k apos)) pos.line X.env = pure false := by rfl) (hd : (x == ("__debug__" : Str)) = false := by decide) (hcd : (x == ("__classdict__" : Str)) = false := by decide) :
    PDS c X (.Assign [.Subscript (.Name x p) k apos] v pos) (dDPut i dk dv) := by
  obtain ⟨tk, k1, k2⟩ := hk
  obtain ⟨tv, v1, v2⟩ := hval
  refine ⟨_, ps_dput hu (pe_var hN hv hd hcd) k1 v1 hs, fun σ G H S B E R h1 h2 h3 h4 h => ?_⟩
  refine v2 σ G H S _ _ R (fun w H1 ⟨G1, S1, d, A, r, q⟩ => ?_) h
  obtain ⟨⟨l0, e0⟩, q⟩ := q
  obtain ⟨a, xs0, q1, q2, q3, q4, q5, q6⟩ := od_get A.rp e0
  refine ⟨.ref a, q2, ?_⟩
  refine k2 σ G1 H1 S1 _ _ A.rp (fun y H2 ⟨G2, S2, dk, A2, r2, q'⟩ => ?_) q
  obtain ⟨l, ky, el, ek, hz, q'⟩ := q'
  obtain ⟨a', xs, p1, p2, p3, p4, p5, p6⟩ := od_get A2.rp el
  rw [q2] at p2
  cases p2
  have B2 := Aft.putD A2.rp p1 q2 p3 p4 (repK_put (k := ky) (A2.rep r) p6)
  refine ⟨a, _, rfl, .inl ⟨xs, ky, p5, rep_key r2 ek, by rw [repK_len p6, sizeLine_eq]; exact hz, rfl⟩, ?_⟩
  exact h1 _ _ ⟨G2, _, B2.rp, ((A.trans A2).trans B2).le, ((A.trans A2).trans B2).nle, q'⟩
/-- x.get(k, v) -/
def dDGet2 (i : Nat) (dk dv : DE) : DE := fun S Q => (∃ l0, dctAt S i = some l0) ∧ dk S fun k S1 => dv S1 fun v S2 => ∃ l ky, dctAt S2 i = some l ∧ keyOf k = some ky ∧ Q ((lookD l ky).getD v) S2
theorem pd_dget2 {f : Expr} {dv : DE} (hu : X.A.units + 1 < cLine) (hN : X.N[i]? = some x) (hv : Vis X.env.scope x) (hk : PDE c X k dk) (hf : PDE c X f dv) (m : M2 X (.Name x p) "get" apos k f cpos) (hd : (x == ("__debug__" : Str)) = false := by decide) (hcd : (x == ("__classdict__" : Str)) = false := by decide) :
    PDE c X (.Call (.Attribute (.Name x p) "get" apos) [k, f] [] cpos) (dDGet2 i dk dv) := by
  obtain ⟨tk, k1, k2⟩ := hk
  obtain ⟨tf, f1, f2⟩ := hf
  refine ⟨_, pe_dget2 hu (pe_var hN hv hd hcd) k1 f1 m, fun σ G H S Qd Q R hQ h => ?_⟩
  obtain ⟨⟨l0, h0⟩, h⟩ := h
  obtain ⟨a, xs0, q1, q2, q3⟩ := dct_get R h0
  refine ⟨.ref a, q1, a, rfl, .inl ⟨xs0, q2⟩, ?_⟩
  refine k2 σ G H S _ _ R (fun w H1 ⟨G1, S1, dk, A, r, h1⟩ => ?_) h
  refine f2 σ G1 H1 S1 _ _ A.rp (fun u H2 ⟨G2, S2, dv, A2, r2, h2⟩ => ?_) h1
  obtain ⟨l, ky, hl, ek, h2⟩ := h2
  obtain ⟨a', xs, p1, p2, p3⟩ := dct_get A2.rp hl
  rw [q1] at p1
  cases p1
  refine ⟨valV xs ky, .inl ⟨xs, ky, p2, rep_key r ek, rfl⟩, ?_⟩
  refine hQ _ _ ⟨G2, S2, _, A.trans A2, ?_, h2⟩
  rcases repK_look (k := ky) p3 with ⟨z1, z2⟩ | ⟨d', v, z1, z2, z3⟩
  · rw [z1, z2]
    exact r2
  · rw [z1, z2]
    exact z3
/-- len of a dict -/
theorem call_lenR : CallR X (.builtin "len") (fun xs H Q => ∃ a kvs, xs = [V.ref a] ∧ Rd H a (.dK kvs) ∧ Q (.int kvs.length) H) := by
  intro pins s σ H xs us Q I r h
  obtain ⟨a, kvs, rfl, ha, q⟩ := h
  rw [Vals.ref1 r]
  exact d_len I ha fun t s' J => ⟨.int kvs.length, H, J, ⟨t, rfl⟩, q⟩
def gLenD : List D → Option D
  | [.dct l] => some (.int l.length)
  | _ => none
theorem cd_lenD : CallD c X (.builtin "len") gLenD := ⟨_, call_lenR, fun G H n vs ds z Q s r q hq => by
  unfold gLenD at q
  split at q
  · cases q
    obtain ⟨v, e, rv⟩ := rep1 r
    subst e
    cases rv with
    | dct h a =>
      refine ⟨_, _, rfl, rd_sub s h, ?_⟩
      rw [repK_len a]
      exact hq _ G H (.refl s) (.int _)
  · cases q⟩
end
end
end DL
set_option maxHeartbeats 1000000
namespace DL
open PySem PySem.Spec PyProof.Rows L2
/-! ### what the module leaves as it is -/
structure Bi (mg : MG) : Prop where
  isinstance : mg "isinstance" = none
  len : mg "len" = none
  all : mg "all" = none
  abs : mg "abs" = none
  sum : mg "sum" = none
  sorted : mg "sorted" = none
  int : mg "int" = none
  bool : mg "bool" = none
  tuple : mg "tuple" = none
  list : mg "list" = none
  str : mg "str" = none
  max : mg "max" = none
  min : mg "min" = none
  repr : mg "repr" = none
  range : mg "range" = none
  enumerate : mg "enumerate" = none
  zip : mg "zip" = none
  set : mg "set" = none
theorem hu1 {k : Nat} {A : Around} (hr : Room k A) : A.units + 1 < cLine := hu_of hr
theorem hu64 {k : Nat} {A : Around} (hr : Room k A) : A.units + 64 < cLine := by have := hr.un; omega
theorem hu65 {k : Nat} {A : Around} (hr : Room k A) : A.units + 65 < cLine := by have := hr.un; omega
/-! ### promises by the number of arguments -/
abbrev M0 := Nat → (D → Nat → Prop) → (Exc → Nat → Prop) → Prop
def mt1 (f : D → M0) : MT := fun ds n Q E => ∃ a, ds = [a] ∧ f a n Q E
def mt2 (f : D → D → M0) : MT := fun ds n Q E => ∃ a b, ds = [a, b] ∧ f a b n Q E
def mt3 (f : D → D → D → M0) : MT := fun ds n Q E => ∃ a b c, ds = [a, b, c] ∧ f a b c n Q E
def mt4 (f : D → D → D → D → M0) : MT := fun ds n Q E => ∃ a b c d, ds = [a, b, c, d] ∧ f a b c d n Q E
def mt5 (f : D → D → D → D → D → M0) : MT := fun ds n Q E => ∃ a b c d e, ds = [a, b, c, d, e] ∧ f a b c d e n Q E
theorem ar1 {f : D → M0} : ∀ ds n Q E, mt1 f ds n Q E → ds.length = 1 := fun _ _ _ _ ⟨_, e, _⟩ => by rw [e] <;> rfl
theorem ar2 {f : D → D → M0} : ∀ ds n Q E, mt2 f ds n Q E → ds.length = 2 := fun _ _ _ _ ⟨_, _, e, _⟩ => by rw [e] <;> rfl
theorem ar3 {f : D → D → D → M0} : ∀ ds n Q E, mt3 f ds n Q E → ds.length = 3 := fun _ _ _ _ ⟨_, _, _, e, _⟩ => by rw [e] <;> rfl
theorem ar4 {f : D → D → D → D → M0} : ∀ ds n Q E, mt4 f ds n Q E → ds.length = 4 := fun _ _ _ _ ⟨_, _, _, _, e, _⟩ => by rw [e] <;> rfl
theorem ar5 {f : D → D → D → D → D → M0} : ∀ ds n Q E, mt5 f ds n Q E → ds.length = 5 := fun _ _ _ _ ⟨_, _, _, _, _, e, _⟩ => by rw [e] <;> rfl
/-- a pure function's promise: the result -/
def ret (d : D) : M0 := fun n Q _ => Q d n
end DL
set_option maxHeartbeats 1000000
namespace DL
open PySem PySem.Spec PyProof.Rows L2
/-- the slots that no object of one's own holds -/
def noOwn (sl : List (Option SV)) : List (Option SV) := sl.map fun
  | some (.p d) => some (.p d)
  | _ => none
theorem noOwn_at (sl : List (Option SV)) (i : Nat) : (noOwn sl)[i]? = (sl[i]?).map fun
    | some (.p d) => some (.p d)
    | _ => none := by
  unfold noOwn
  rw [List.getElem?_map]
theorem noOwn_own (sl : List (Option SV)) (i : Nat) : ¬ isOwn (noOwn sl)[i]? := by
  rw [noOwn_at]
  cases sl[i]? with
  | none => exact fun z => z
  | some w =>
    cases w with
    | none => exact fun z => z
    | some w => cases w <;> exact fun z => z
/-- the tables stand under a lock too -/
theorem tabs_upd {T : TT0} {G : Hp} {a : Addr} {u o : HO} (h : LamX.Tabs T G) (hu : G a = some u) (n1 : ∀ ps, u ≠ .tbl ps) (n2 : ∀ c q, u ≠ LamX.CodeO c q) : LamX.Tabs T (upd G a o) := fun p hp => by
  obtain ⟨ps, h1, h2, h3⟩ := h p hp
  have ne : p.1 ≠ a := fun e => by
    rw [e, hu] at h1
    exact n1 ps (Option.some.inj h1)
  refine ⟨ps, by rw [upd_ne ne]; exact h1, h2, fun pos cv hc => ?_⟩
  obtain ⟨c, e1, e2⟩ := h3 pos cv hc
  refine ⟨c, e1, ?_⟩
  have ne2 : c ≠ a := fun e => by
    rw [e, hu] at e2
    exact n2 _ _ (Option.some.inj e2)
  rw [upd_ne ne2]
  exact e2
theorem frz_code {o : Obj} {u : HO} : ∀ c q, (HO.frz o u) ≠ LamX.CodeO c q := fun c q z => by
  unfold LamX.CodeO at z
  cases z
section
variable {c : Ct} {K : PySem.W.Frag} {mg : MG} {σ : Sig} {G H : Hp} {S : DS} {a : Addr} {kvs : List (Key × V)} {od : Obj}
/-- the entry of a block that holds no object of one's own -/
abbrev newCt (c : Ct) (G H : Hp) (n : Nat) : Ct := { c with G0 := G, H0 := H, n0 := n }
theorem Rp.enter (R : Rp c K mg σ G H S) : Rp (newCt c G H S.n) K mg σ G H ⟨noOwn S.sl, S.n⟩ := by
  refine ⟨R.sub, Nat.le_refl _, by show Le c.T (S.n - S.n) _ _; rw [Nat.sub_self]; exact .refl _ _, fun b o h1 h2 => ⟨h1, h2⟩, fun b o h1 h2 => ?_, R.tabs, ?_, fun i => ?_, fun i j b hij o1 => absurd o1 (noOwn_own _ _)⟩
  · have h2' : G b = none := h2
    rw [h2'] at h1
    cases h1
  · show σ.length = (noOwn S.sl).length
    unfold noOwn
    rw [List.length_map]
    exact R.len
  · show SlotOk K mg _ _ _ S.n σ[i]? (noOwn S.sl)[i]?
    rw [noOwn_at]
    have z := R.slots i
    cases e : S.sl[i]? with
    | none => exact True.intro
    | some w =>
      cases w with
      | none => exact True.intro
      | some w =>
        rw [e] at z
        cases w with
        | p d => exact z
        | ol l => exact True.intro
        | od l => exact True.intro
        | ot l => exact True.intro
theorem Rp.exit {G' H' : Hp} {n' : Nat} (R : Rp c K mg σ G H S) (R' : Rp (newCt c G H S.n) K mg σ G' H' ⟨noOwn S.sl, n'⟩) : Aft c K mg σ G H S H' G' ⟨S.sl, n'⟩ := by
  have hn : n' ≤ S.n := R'.nle
  have l : Le c.T (S.n - n') G G' := R'.le
  have hid : ∀ b o, H b = some o → G b = none → H' b = some o ∧ G' b = none := fun b o h1 h2 => R'.hid b o h1 h2
  have own : ∀ {p : Addr} {u : SV}, Owns K mg c G H S.n p u → Owns K mg c G' H' n' p u := fun {p u} h => by
    cases u with
    | p d => exact h
    | ol l0 =>
      obtain ⟨h1, h2, xs, h3, h4⟩ := h
      obtain ⟨k1, k2⟩ := hid _ _ h3 h1
      exact ⟨k2, h2, xs, k1, h4.up l (by omega)⟩
    | od l0 =>
      obtain ⟨h1, h2, xs, h3, h4⟩ := h
      obtain ⟨k1, k2⟩ := hid _ _ h3 h1
      exact ⟨k2, h2, xs, k1, h4.up l (by omega)⟩
    | ot l0 =>
      obtain ⟨h1, h2, xs, h3, h4⟩ := h
      obtain ⟨k1, k2⟩ := hid _ _ h3 h1
      exact ⟨k2, h2, xs, k1, h4.up l (by omega)⟩
  refine ⟨l, hn, ⟨R'.sub, Nat.le_trans hn R.nle, ?_, fun b o h1 h2 => ?_, fun b o h1 h2 => ?_, l.tabs R.tabs, R.len, fun i => ?_, R.apart⟩, fun b o h1 h2 h3 => ?_⟩
  · have z := R.le.trans l
    have := R.nle
    have e : c.n0 - S.n + (S.n - n') = c.n0 - n' := by omega
    rw [e] at z
    exact z
  · obtain ⟨h3, h4⟩ := R.hid b o h1 h2
    exact hid b o h3 h4
  · cases e : G b with
    | some u => exact R.new b u e h2
    | none => exact R.old (R'.new b o h1 e) h2
  · have z := R.slots i
    show SlotOk K mg c _ _ n' σ[i]? S.sl[i]?
    cases e : S.sl[i]? with
    | none => exact True.intro
    | some w =>
      cases w with
      | none => exact True.intro
      | some w =>
        rw [e] at z
        cases w with
        | p d =>
          obtain ⟨x, ex, rx⟩ := z
          exact ⟨x, ex, rx.up l (by omega)⟩
        | ol l0 =>
          obtain ⟨p, ep, op⟩ := z
          exact ⟨p, ep, own op⟩
        | od l0 =>
          obtain ⟨p, ep, op⟩ := z
          exact ⟨p, ep, own op⟩
        | ot l0 =>
          obtain ⟨p, ep, op⟩ := z
          exact ⟨p, ep, own op⟩
  · obtain ⟨k1, k2⟩ := hid b o h1 h2
    exact ⟨k1, k2, h3⟩
end
abbrev ctW (c : Ct) (G0 H0 : Hp) (n0 : Nat) : Ct := ⟨c.T, G0, H0, n0, c.E, c.ED⟩
end DL
set_option maxHeartbeats 2000000
namespace DL
open PySem PySem.Spec PyProof.Rows L2
open PySem.W (KxsFacts kxs_mw ksFn ks_superIn)
/-! ### an own exception over ValueError, its __init__: super().__init__(x); self.f = x -/
/-- what the written part says of the class C, of its __init__ at fI -/
structure InitC (P : Program) (K : PySem.W.Frag) (C fI : Addr) (qual : Str) (args : Arguments) (body : List Stmt) (sc : Scope) (f : Str) : Prop where
  oex : OexC K C
  ini : PySem.W.findIn K (.ref C) "__init__" = some (some (.ref fI))
  tyI : PySem.W.typeIn K (.ref fI) = some (.type "function")
  fn : ∃ (oc : Value) (od : Option Addr) (kV doc pm ct : Value) (an : Option Addr) (osl : Array (Option Value)) (cda cc : Addr) (ccl cl : Value) (cdd cld : Option Addr) (vs : Array Value) (ccs csl : Array (Option Value)) (file : Str) (tf : Tok),
    K.lookup fI = some ⟨oc, od, .func (ksFn "__init__" qual args body sc .none kV doc pm an (.ref cda) ct cc), osl⟩ ∧ PySem.W.codeIn K (.ref cda) qual = true ∧
    K.lookup cda = some ⟨ccl, cdd, .fields vs, ccs⟩ ∧ vs[2]? = some (.str file tf) ∧ P.main.file = file ∧ K.lookup cc = some ⟨cl, cld, .cell (some (.ref C)), csl⟩
  sup : ks_superIn K C C "__init__" = some (some (.builtin "ValueError.__init__"))
  sub : PySem.W.subIn K (.ref C) (.type "ValueError") = some true
  mro : PySem.W.mroIn K C (.ref C) = some true
  opq : PySem.W.nsIn K cStatics "thirdparty.any" = some none
  fld : PySem.W.findIn K (.ref C) f = some none
/-- its shape -/
structure InitS (P : Program) (args : Arguments) (sc : Scope) (x y : Str) : Prop where
  kind : sc.kind = .function
  co : sc.isCoroutine = false
  gen : sc.isGenerator = false
  cell : ∀ n ∈ sc.names, n.2 ≠ .cell
  lx : sc.names.lookup x = some .local
  ly : sc.names.lookup y = some .local
  ne : x ≠ y
  sup : sc.names.lookup ("super" : Str) = some .globalImplicit
  cls : sc.names.lookup ("__class__" : Str) = some .free
  fst : ∃ ar, (args.posonlyargs ++ args.args).head? = some ar ∧ ar.arg = x
  top : (P.main.scope.names.lookup ("super" : Str)).isSome = false
  dx : (x == ("__debug__" : Str)) = false
  dy : (y == ("__debug__" : Str)) = false
/-- its promise -/
def spInit (C : Addr) (f : Str) : Sp := fun vs H Q _ => ∃ (a : Addr) (v : V), vs = [.ref a, v] ∧ H a = some (exo a C none) ∧ ∀ dx, H dx = none → dx ≠ a → Q .non (upd (upd H dx (exd dx [(f, v)])) a (exo a C (some dx)))
theorem kxs_field {i : String} {x : Addr} : (kxs_mw i x).data = .fields #[.builtin i, .ref x] := rfl
section
variable {prog : Program} {w : World} {A : Around} {E : Value → Shared → Prop}
open PySem.W in
/-- the built-in __init__ bound to e is called; what else stands is kept -/
theorem mw_call {K : Frag} {C u e t0 : Addr} {rest : List Value} {s : Shared} {Q : Value → Shared → Prop} (T : OexC K C) (X : K.In s.heap) (hu : s.heap.get? u = some (kxs_mw "ValueError.__init__" e)) (he : s.heap.get? e = some (PySem.HandSPX.excO C t0)) (hz : rest.length ≤ sizeLine)
    (hq : ∀ h' t1, (∀ b o, b ≠ e → s.heap.get? b = some o → h'.get? b = some o) → h'.get? e = some (PySem.HandSPX.excO C t1) → Q .none { s with heap := h' }) : wpAny (model prog w) A (call (.ref u) rest) Q E s := by
  obtain ⟨nm, q, N, bs, bm, sn, sub, ab, col, dd, k0, k1, k2, k3, k5, hC, -⟩ := T.cls
  obtain ⟨hp, g, d, t, os⟩ := s
  have FB := F.excBase_ValueError
  apply wpAny_call
  apply codeAny_of_tree
  show wpAny _ A.in1 (callAny (.ref u) ⟨rest, []⟩) _ _ _
  unfold callAny
  simp only
  refine wpAny_bind (wpAny_load hu ?_)
  rw [show (kxs_mw "ValueError.__init__" e).cls = .type "method-wrapper" from rfl, kxs_field]
  show wpAny _ _ (if (Value.type "method-wrapper" != Value.type "method") = true then (checkBoundCall "ValueError.__init__" ⟨.ref e :: rest, []⟩ >>= fun _ => again (.builtin "ValueError.__init__" ⟨.ref e :: rest, []⟩)) else _) _ _ _
  refine KFB.if_so (by decide +kernel) (wpAny_bind (check_bound_init FB.toExcCallFacts (X _ _ hC) he rfl ?_))
  refine wpAny_pure ⟨plainId_quiet FB.init.plain _, codeAny_builtin FB.initEntry ?_⟩
  exact exc_init_tree (cls := .ref C) (t0 := t0) (dv := none) (c2 := .none) (c3 := .none) (b4 := .bool false) he hz fun h' k1 k2 _ => hq h' _ k1 k2
end
/-- two parameters, nothing else -/
abbrev sc2 (x y : Str) : Scope := { kind := .function, names := [(x, .local), (y, .local)], isGenerator := false, isCoroutine := false }
theorem sc2_ok {x y : Str} (h : x ≠ y) : FnScope [x, y] [x, y] (sc2 x y) where
  kind := rfl
  co := rfl
  gen := rfl
  nd := by simp [h]
  pre := rfl
  par := fun z hz => by
    have hz' : z = x ∨ z = y := by simpa using hz
    rcases hz' with e | e
    · subst e
      exact .inl (by simp [List.lookup])
    · subst e
      have e2 : (z == x) = false := by simpa using fun q : z = x => h q.symm
      exact .inl (by simp [List.lookup, e2])
  nofree := fun z hz e => by
    have hz' : z = (x, .local) ∨ z = (y, .local) := by simpa using hz
    rcases hz' with q | q <;> (subst q; cases e)
theorem bind2 {x y : Str} (h : x ≠ y) {u v : Value} {L a : Addr} {q : Str} {cd : Value} : (fun z => ([x, y].zip [u, v]).reverse.lookup z) = bindL (envOfC q (sc2 x y) L a cd).kindOf ([x, y].zip [u, v]) fun _ => none := by
  have k1 : (envOfC q (sc2 x y) L a cd).kindOf x = some .local := by
    show List.lookup x [(x, NameKind.local), (y, .local)] = _
    simp [List.lookup]
  have k2 : (envOfC q (sc2 x y) L a cd).kindOf y = some .local := by
    have e2 : (y == x) = false := by simpa using fun q : y = x => h q.symm
    show List.lookup y [(x, NameKind.local), (y, .local)] = _
    simp [List.lookup, e2]
  funext z
  show List.lookup z [(y, v), (x, u)] = bindL (envOfC q (sc2 x y) L a cd).kindOf [(x, u), (y, v)] (fun _ => none) z
  simp only [bindL]
  rw [if_pos k1, if_pos k2]
  by_cases e : z = y
  · rw [if_pos e]
    subst e
    simp [List.lookup]
  · rw [if_neg e]
    have e2 : (z == y) = false := by simpa using e
    by_cases e3 : z = x
    · rw [if_pos e3]
      subst e3
      simp [List.lookup, e2]
    · rw [if_neg e3]
      have e4 : (z == x) = false := by simpa using e3
      simp [List.lookup, e2, e4]
section
variable {P : Program} {w : World} {K : PySem.W.Frag} {mg : MG} {base : Heap} {C fI : Addr} {qual x y f : Str} {args : Arguments} {sc : Scope} {p0 p1 p2 p3 p4 p5 p6 p7 p8 p9 : Pos}
abbrev initBody (x y f : Str) (p0 p1 p2 p3 p4 p5 p6 p7 p8 p9 : Pos) : List Stmt :=
  [.Expr (.Call (.Attribute (.Call (.Name "super" p0) [] [] p1) "__init__" p2) [.Name y p3] [] p4) p5, .Assign [.Attribute (.Name x p6) f p7] (.Name y p8) p9]
open PySem.W in
theorem init_ok {pl : Sem Bool} (T : InitC P K C fI qual args (initBody x y f p0 p1 p2 p3 p4 p5 p6 p7 p8 p9) sc f) (Sh : InitS P args sc x y) (hm : mg "super" = none)
    (hb : ∀ (kV doc pm cdv ct : Value) (an : Option Addr) (cc : Addr) (us : List Value), us.length = [x, y].length → bindArgs (ksFn "__init__" qual args (initBody x y f p0 p1 p2 p3 p4 p5 p6 p7 p8 p9) sc .none kV doc pm an cdv ct cc) ⟨us, []⟩ = pure ([x, y].zip us))
    (hmc : ∀ env : Env, env.scope = sc → eval (.Call (.Attribute (.Call (.Name "super" p0) [] [] p1) "__init__" p2) [.Name y p3] [] p4) env = (do
      let ov ← attributeBase (.Call (.Name "super" p0) [] [] p1) "__init__" env (eval (.Call (.Name "super" p0) [] [] p1) env)
      standAt p2.atName
      let (f, first) ← holding [ov] (getMethod ov "__init__" pl)
      callWith p4 f first (backTo p4 (starEach [.Name y p3] env)) []))
    (hin : ∀ env : Env, env.scope = sc → interactive env = false) :
    ∃ fd, FnOk P w K mg base CX0 1 fI fd [x, y] (spInit C f) ∧ Binds K fd [x, y] [] := by
  obtain ⟨oc, od, kV, doc, pm, ct, an, osl, cda, cc, ccl, cl, cdd, cld, vs, ccs, csl, file, tf, lk, hcd, lc, hvs, hfile, lcell⟩ := T.fn
  refine ⟨_, ⟨fun vs H Q E h => ?_, fun A outer s H ar us zs Q E hr e0 hbd r h => ?_⟩, .all fun us hl => hb kV doc pm (.ref cda) ct an cc us hl⟩
  · obtain ⟨a, v, e, _⟩ := h
    rw [e]
    rfl
  obtain ⟨a, v, e, ha, h⟩ := h
  subst e
  cases r with
  | @cons _ u0 _ ur r1 r =>
  cases r with
  | @cons _ u1 _ ur2 r2 r =>
  cases r
  obtain rfl : u0 = Value.ref a := r1
  have KX : K.In s.heap := e0.mod.kin.keeps fun b o e => (e0.bs b o e).1
  have lim : s.heap.NoLimit := e0.mod.nolimit.keeps fun b o e => (e0.bs b o e).1
  refine ks_codeAny_call_defAt (fd := ksFn "__init__" qual args (initBody x y f p0 p1 p2 p3 p4 p5 p6 p7 p8 p9) sc .none kV doc pm an (.ref cda) ct cc) (body := initBody x y f p0 p1 p2 p3 p4 p5 p6 p7 p8 p9) (binds := [x, y].zip [.ref a, u1])
    hr.depth (KX _ _ lk) rfl lim (codeRec_of KX hcd) rfl hbd Sh.cell (fun z hz => ?_) (fun h₁ hns hk₁ => ?_) Sh.co Sh.gen Sh.kind
  · have hz' : z = (x, .ref a) ∨ z = (y, u1) := by simpa using hz
    rcases hz' with q | q
    · subst q
      exact Sh.lx
    · subst q
      exact Sh.ly
  · rw [bind2 (q := qual) (L := s.heap.objs.size) (a := fI) (cd := .ref cda) Sh.ne] at hns
    have I : Inv (cxOf CX0 P w K mg base [x, y] qual (sc2 x y) fI (.ref cda) A outer s H E) [] (start [x, y] [.ref a, v]) H { s with heap := h₁, toks := s.toks + ([x, y].zip [Value.ref a, u1]).length } :=
      inv_start (sc2_ok Sh.ne) hr.hd e0 rfl (.cons rfl (.cons r2 .nil)) ⟨⟨⟨h₁, _, rfl⟩, hns, hk₁, Nat.le_refl _⟩, (fun n c e => by cases e), List.Pairwise.nil, (fun n c e => by cases e)⟩
    obtain ⟨ar, har, ear⟩ := Sh.fst
    obtain ⟨mb, hbl, hbb⟩ := e0.mod.blt
    obtain ⟨nm, q, N, bs, bm, sn, sub, ab, col, dd, k0, k1, k2, k3, k5, hC, hbm⟩ := T.oex.cls
    have hcl : clsIn K C = some { name := nm, bases := bs, mro := .ref C :: bm, ns := N, qualname := q, hasDict := true, slotNames := sn, subclasses := sub, abstract := ab, collection := col, hasDel := false } := by unfold clsIn; rw [hC] <;> rfl
    -- the values of the names
    have at0 : ∀ {H' : Hp} {s' : Shared} {i : Nat} {z : Str} {b : V}, Inv (cxOf CX0 P w K mg base [x, y] qual (sc2 x y) fI (.ref cda) A outer s H E) [] (start [x, y] [.ref a, v]) H' s' → [x, y][i]? = some z → (start [x, y] [V.ref a, v])[i]? = some (some b) → List.lookup z (sc2 x y).names = some .local →
        ∃ u m, RelV b u ∧ s'.heap.Ns s.heap.objs.size m ∧ m z = some u := fun {H' s' i z b} J h1 h2 h3 => by
      obtain ⟨m, hn, hl⟩ := J.loc
      obtain ⟨u, r, k⟩ := hl i z b h1 h2 (.inl h3)
      rcases k with ⟨_, k⟩ | ⟨k, _⟩
      · exact ⟨u, m, r, hn, k⟩
      · have k' : List.lookup z (sc2 x y).names = some .cell ∨ List.lookup z (sc2 x y).names = some .free := k
        rw [h3] at k'
        rcases k' with k' | k' <;> cases k'
    have lx : List.lookup x (sc2 x y).names = some .local := by simp [List.lookup]
    have ly : List.lookup y (sc2 x y).names = some .local := by
      have e2 : (y == x) = false := by simpa using fun q : y = x => Sh.ne q.symm
      simp [List.lookup, e2]
    have K1 : K.In h₁ := I.kIn
    obtain ⟨t1, ho⟩ := exo_at I.hok ha
    obtain ⟨_, m, ru, hn, hx⟩ := at0 (i := 0) I rfl rfl lx
    cases ru
    refine ks_wpAt_execs_cons (ks_wpAt_Expr_any (ks_wpAt_MethodCall ?_ (hmc _ rfl)) (hin _ rfl))
    refine ks_wpAt_super_base (file := file) (tf := tf) Sh.sup Sh.cls (by decide) rfl (K1 _ _ lk) rfl har rfl (K1 _ _ lc) rfl hvs (by rw [hfile]; simp) Sh.top ?_
    refine ks_loadName_global Sh.kind Sh.sup (PySem.Calls.loadGlobal_builtin (e0.mod.glob.keeps I.bk) hm (hbl.keeps I.bk) ((hbb _ (by decide)).trans (by first | rfl | kernel_rfl)) ⟨rfl, ?_⟩)
    refine wpAny_loadName_free Sh.kind Sh.cls rfl ⟨_, K1 _ _ lcell, rfl⟩ ?_ (by decide)
    rw [ear]
    refine wpAny_loadName_local Sh.kind Sh.lx hn hx ?_
    refine ks_wpAny_isType_cls (K1 _ _ hC) rfl ⟨rfl, ?_⟩
    refine ks_wpAny_call_super (K1 _ _ hC) rfl ho rfl (fun c e => by cases e) (looks_mroIn K1 T.mro) (fun h2 e2 kk2 => ?_)
    have I2 := I.kept (t' := s.toks + ([x, y].zip [Value.ref a, u1]).length) (h' := h2) kk2
    have K2 : K.In h2 := I2.kIn
    have J2 : PySem.W.InstAt h2 a { cls := .ref C, data := .fields #[.ref t1, .none, .none, .none, .bool false, .none] } C none := ⟨kk2 _ _ ho, rfl, rfl, trivial⟩
    have hsup : alongIn K "__init__" (((Value.ref C :: bm).dropWhile (· != .ref C)).drop 1) = some (some (.builtin "ValueError.__init__")) := by
      have z := T.sup
      unfold ks_superIn at z
      rw [hcl] at z
      exact z
    refine kxs_getMethod kxs_ValueError e2 (looks_opaque K2 T.opq) (l₀ := Value.ref C :: bm) (fun A Q E s k q => wpAny_bind ((looks_clsIn K2 hcl) A _ E s k (wpAny_pure q))) rfl K2 hsup (J2.type.andThen (looks_subIn K2 T.sub)) (ks_ne K2 J2 hcl) (by decide) ?_
    have kk3 : ∀ b o, h2.get? b = some o → (h2.push (kxs_mw "ValueError.__init__" a)).get? b = some o := fun b o e => Heap.get?_push_of_some _ e
    have I3 := I2.kept (t' := s.toks + ([x, y].zip [Value.ref a, u1]).length + 1) (h' := h2.push (kxs_mw "ValueError.__init__" a)) kk3
    have hu : (h2.push (kxs_mw "ValueError.__init__" a)).get? h2.objs.size = some (kxs_mw "ValueError.__init__" a) := Heap.get?_push_size _ rfl
    obtain ⟨u2, m2, ru2, hn2, hx2⟩ := at0 (i := 1) I3 rfl rfl ly
    refine kxs_callWith (i := "ValueError.__init__") (x := a) rfl ?_
    show wpAny _ _ (evalArgs (.ref h2.objs.size) true ((false, eval (.Name y p3) _) :: backTo p4 (starEach [] _)) []) _ _ _
    refine Calls.evalArgs_plain (Calls.spliced_cons (wpAny_Name (wpAny_loadName_local Sh.kind Sh.ly hn2 hx2 ?_) Sh.dy))
    refine Calls.spliced_nil ⟨hu, ?_⟩
    refine mw_call T.oex I3.kIn hu (kk3 _ _ (kk2 _ _ ho)) (by show 1 ≤ sizeLine; rw [sizeLine_eq]; omega) (fun h4 t4 kk4 e4 => ?_)
    have I4 := I3.write (t' := s.toks + ([x, y].zip [Value.ref a, u1]).length + 1) (x := a) (e := a) (o := exo a C none) (h' := h4) (by rw [ha]; exact True.intro) (.inl rfl) kk4 ⟨_, e4⟩ (exo_ok e4)
    have eu : upd H a (exo a C none) = H := by
      funext b
      by_cases hb : b = a
      · rw [hb, upd_same, ha]
      · rw [upd_ne hb]
    rw [eu] at I4
    obtain ⟨u3, m3, ru3, hn3, hx3⟩ := at0 (i := 1) I4 rfl rfl ly
    obtain ⟨_, m4, ru4, hn4, hx4⟩ := at0 (i := 0) I4 rfl rfl lx
    cases ru4
    refine ks_wpAt_execs_cons (ks_wpAt_Assign_Attr (wpAt_of_wpAny (wpAny_Name (wpAny_loadName_local Sh.kind Sh.ly hn3 hx3 ?_) Sh.dy)))
    refine wpAny_Name (wpAny_loadName_local Sh.kind Sh.lx hn4 hx4 ?_) Sh.dx
    refine ost_new T.oex I4 ha T.fld ru3 fun dx s' n ne J => ?_
    exact wpAt_of_wpAny (wpAny_execs_nil ⟨.non, _, J.os, J.bare, J.base, J.hok, rfl, h dx n ne⟩)
end
end DL
set_option maxHeartbeats 1000000
namespace DL
open PySem PySem.Spec PyProof.Rows L2
/-! ### raise x(e): an own class whose __init__ stores e as f -/
structure RaiseC (P : Program) (w : World) (K : PySem.W.Frag) (mg : MG) (base : Heap) (x f : Str) : Prop where
  ex : ∃ (C fI : Addr) (fd : FuncData) (ps : List Str), OexC K C ∧ PySem.W.findIn K (.ref C) "__init__" = some (some (.ref fI)) ∧ PySem.W.typeIn K (.ref fI) = some (.type "function") ∧ FnOk P w K mg base CX0 1 fI fd ps (spInit C f) ∧ Binds K fd ps [] ∧ mg x = some (.ref C)
def dRaise (ED : Exc → Nat → Prop) (x f : Str) (de : DE) : DSt := fun _ S => de S fun d S1 => ED (x, f, d) S1.n
section
variable {c : Ct} {X : Cx}
theorem pds_raise {x f : Str} {e : Expr} {de : DE} {p pos pos2 : Pos} (R : RaiseC X.prog X.w X.K X.mg X.base x f) (L : Lnk c X.K X.mg) (hc : X.calm = true) (tk : Takes X fun cls d _ H => c.E cls d H) (hr : Room 2 X.A) (hg : Gl X x) (he : PDE c X e de)
    (hdb : (x == ("__debug__" : Str)) = false := by decide) (hs : starEach [e] X.env = (false, eval e X.env) :: starEach [] X.env := by rfl) : PDS c X (.Raise (some (.Call (.Name x p) [e] [] pos)) none pos2) (dRaise c.ED x f de) := by
  obtain ⟨C, fI, fd, ps, T, iC, tI, F1, hb, hm⟩ := R.ex
  obtain ⟨te, e1, e2⟩ := he
  refine ⟨_, ps_raise hc tk (pmk_oex (ds := []) (dvs := []) T iC tI F1 hr hb .nil pass0 hg hm (pa_cons e1 pa_nil hs) hdb hs), fun σ G H S B E R' h1 h2 h3 h4 h => ?_⟩
  refine e2 σ G H S _ _ R' (fun v H1 ⟨G1, S1, d, A, r, q⟩ => ?_) h
  refine ⟨by show 1 ≤ 1000; omega, fun a na => ⟨a, v, rfl, upd_same, fun dx nd ne => ⟨rfl, dx, [(f, v)], upd_same, ?_, ?_, ?_⟩⟩⟩
  · rw [upd_ne ne, upd_same]
  · rw [upd_ne ne] at nd
    exact nd
  · rw [upd_ne ne] at nd
    have eH : upd (del (upd (upd (upd H1 a (exo a C none)) dx (exd dx [(f, v)])) a (exo a C (some dx))) a) dx (.xd [(f, v)]) = upd H1 dx (.xd [(f, v)]) := by
      funext b
      by_cases hb : b = dx
      · rw [hb, upd_same, upd_same]
      · rw [upd_ne hb, upd_ne hb]
        by_cases ha : b = a
        · rw [ha, del_same, na]
        · rw [del_ne ha, upd_ne ha, upd_ne hb, upd_ne ha]
    show c.E (.ref C) (some dx) (upd (del (upd (upd (upd H1 a (exo a C none)) dx (exd dx [(f, v)])) a (exo a C (some dx))) a) dx (.xd [(f, v)]))
    rw [eH]
    have g : Gw c.T 0 G1 H1 _ _ := .alloc (o := .xd [(f, v)]) A.rp.sub nd
    exact lnk_at L σ G1 H1 S1 A.rp x f d 0 v C dx _ _ (Nat.zero_le _) g hm upd_same (r.up g.le (by omega)) q
end
/-! ### calls of defs that a name holds, with keywords -/
def pickG {α : Type} (z : α) (perm : List (Bool × Nat)) (us ws : List α) : List α := perm.map fun p => (if p.1 then us else ws).getD p.2 z
theorem vals_getD : ∀ {vs : List V} {us : List Value} (i : Nat), Vals vs us → RelV (vs.getD i .non) (us.getD i .none)
  | _, _, _, .nil => rfl
  | _, _, 0, .cons a _ => a
  | _, _, i + 1, .cons _ b => vals_getD i b
theorem repAll_getD {K : PySem.W.Frag} {mg : MG} {G : Hp} {n : Nat} : ∀ {vs : List V} {us : List D} (i : Nat), RepAll K mg G n vs us → Rep K mg G n (vs.getD i .non) (us.getD i .non)
  | _, _, _, .nil => .non
  | _, _, 0, .cons a _ => a
  | _, _, i + 1, .cons _ b => repAll_getD i b
theorem vals_pick {vs zs : List V} {us ws : List Value} (r : Vals vs us) (rz : Vals zs ws) : ∀ perm : List (Bool × Nat), Vals (pickG .non perm vs zs) (pickG .none perm us ws)
  | [] => .nil
  | (true, i) :: p => .cons (vals_getD i r) (vals_pick r rz p)
  | (false, i) :: p => .cons (vals_getD i rz) (vals_pick r rz p)
theorem repAll_pick {K : PySem.W.Frag} {mg : MG} {G : Hp} {n : Nat} {vs zs : List V} {us ws : List D} (r : RepAll K mg G n vs us) (rz : RepAll K mg G n zs ws) : ∀ perm : List (Bool × Nat), RepAll K mg G n (pickG .non perm vs zs) (pickG .non perm us ws)
  | [] => .nil
  | (true, i) :: p => .cons (repAll_getD i r) (repAll_pick r rz p)
  | (false, i) :: p => .cons (repAll_getD i rz) (repAll_pick r rz p)
/-- the def x keeps m, called with np values and the keywords ks -/
structure CanK (P : Program) (w : World) (K : PySem.W.Frag) (mg : MG) (base : Heap) (T : TT0) (CX : CXT) (k : Nat) (x : Str) (np : Nat) (ks : List Str) (perm : List (Bool × Nat)) (m : MT) : Prop where
  ex : ∃ f fd ps, FnOk P w K mg base CX k f fd ps (spD T K mg ps.length m) ∧ mg x = some (.ref f) ∧ PySem.W.keepIn K (.ref f) = true ∧ KBn K fd ps np ks (pickG .none perm) (pickG .non perm) ∧ ∀ ds n Q E, m ds n Q E → ds.length = ps.length
theorem CalD.canK {P : Program} {w : World} {K : PySem.W.Frag} {mg : MG} {base : Heap} {T : TT0} {CX : CXT} {j k : Nat} {x : Str} {st : Stmt} {ps : List Str} {m : MT} {np : Nat} {ks : List Str} {perm : List (Bool × Nat)} (C : CalD P w K mg base T CX j x st ps m) (hk : j ≤ k)
    (hb : ∀ (kV doc pm : Value) (an : Option Addr) (cdv ct : Value) (us ws : List Value), us.length = np → ws.length = ks.length → bindArgs (PySem.W.fnOf x x (defArgs st) (defBody st) (defScope st) .none kV doc pm an cdv ct) ⟨us, ks.zip ws⟩ = pure (ps.zip (pickG .none perm us ws))) :
    CanK P w K mg base T CX k x np ks perm m := by
  obtain ⟨f, fd, F, G, hm⟩ := C.ex
  obtain ⟨oc, od, kV, doc, pm, an, cdv, ct, osl, efd, lk, hcd⟩ := F.ex
  refine ⟨⟨f, fd, ps, G.mono hk, hm, F.kp, ⟨fun s us ws X l1 l2 => ?_, fun r rz => vals_pick r rz perm⟩, C.ar⟩⟩
  rw [efd]
  exact .of_eq (hb kV doc pm an cdv ct us ws l1 l2)
def tCallG (P : Program) (w : World) (K : PySem.W.Frag) (mg : MG) (base : Heap) (CX : CXT) (k : Nat) (ks : List Str) (E : XK) (tf : TE) (t tk : TA) : TE := fun σ H Q => tf σ H fun v H0 => ∃ f fd ps sp np g gV, v = .ref f ∧ FnOk P w K mg base CX k f fd ps sp ∧ PySem.W.keepIn K (.ref f) = true ∧ KBn K fd ps np ks g gV ∧
  t σ H0 fun vs H1 => tk σ H1 fun zs H2 => vs.length = np ∧ zs.length = ks.length ∧ sp (gV vs zs) H2 Q E
section
variable {X : Cx} {CX : CXT} {k : Nat} {ks : List Str} {E : XK} {x : Str} {p pos : Pos} {e : Expr} {es : List Expr} {kws : List Keyword} {tf : TE} {t tk : TA}
/-- x(e, .., k = v, ..) -/
theorem pe_callG (hf : PE X (.Name x p) tf) (hr : Room k X.A) (hx : Passes CX X E) (ha : PA X (e :: es) t) (hkw : PK X kws tk) (hall : (backToKw pos (keywordEach kws X.env)).all (·.1.isSome) = true := by rfl) (hks : (backToKw pos (keywordEach kws X.env)).filterMap (·.1) = ks := by rfl)
    (he : starEach (e :: es) X.env = (false, eval e X.env) :: starEach es X.env := by rfl) (hpl : ((backTo pos (starEach (e :: es) X.env)).any (·.1) || (backToKw pos (keywordEach kws X.env)).any (·.1.isNone)) = false := by rfl) :
    PE X (.Call (.Name x p) (e :: es) kws pos) (tCallG X.prog X.w X.K X.mg X.base CX k ks E tf t tk) := by
  refine ⟨fun pins s σ H Q I h => ?_⟩
  refine wpAny_Call_Name_kw (thn (hf.run pins s σ H _ I h) fun u s0 hh => ?_)
  obtain ⟨v, H0, I0, r0, f, fd, ps, sp, np, g, gV, ev, F, hk, hb, hq⟩ := hh
  subst ev
  obtain rfl : u = Value.ref f := r0
  refine PySem.W.callWith_KW (h₀ := X.base) I0.ok.mod.kin hk hall (thn (ha.run pos pins s0 σ H0 _ I0 hq) fun us s1 ⟨vs, H1, I1, r, q⟩ => ?_) hpl he
  refine thn (hkw.run pos pins s1 σ H1 _ I1 q) fun ws s2 ⟨zs, H2, I2, rz, l1, l2, q2⟩ => ⟨I2.kIn, ?_⟩
  rw [hks]
  exact run_fnN F hr hb hx I2 r rz l1 l2 q2
/-- x(k = v, ..) -/
theorem pe_callG0 (hf : PE X (.Name x p) tf) (hr : Room k X.A) (hx : Passes CX X E) (hkw : PK X kws tk) (hall : (backToKw pos (keywordEach kws X.env)).all (·.1.isSome) = true := by rfl) (hks : (backToKw pos (keywordEach kws X.env)).filterMap (·.1) = ks := by rfl)
    (hpl : ((backTo pos (starEach [] X.env)).any (·.1) || (backToKw pos (keywordEach kws X.env)).any (·.1.isNone)) = false := by rfl) :
    PE X (.Call (.Name x p) [] kws pos) (tCallG X.prog X.w X.K X.mg X.base CX k ks E tf tNil tk) := by
  refine ⟨fun pins s σ H Q I h => ?_⟩
  refine wpAny_Call_Name_kw (thn (hf.run pins s σ H _ I h) fun u s0 hh => ?_)
  obtain ⟨v, H0, I0, r0, f, fd, ps, sp, np, g, gV, ev, F, hk, hb, hq⟩ := hh
  subst ev
  obtain rfl : u = Value.ref f := r0
  refine PySem.W.callWith_KW0 (h₀ := X.base) I0.ok.mod.kin hk hall ?_ hpl
  refine thn (hkw.run pos pins s0 σ H0 _ I0 hq) fun ws s2 ⟨zs, H2, I2, rz, l1, l2, q2⟩ => ⟨I2.kIn, ?_⟩
  rw [hks]
  exact run_fnN (us := []) (vs := []) F hr hb hx I2 .nil rz l1 l2 q2
/-- x(e, ..) -/
theorem pe_callGP (hf : PE X (.Name x p) tf) (hr : Room k X.A) (hx : Passes CX X E) (ha : PA X (e :: es) t)
    (he : starEach (e :: es) X.env = (false, eval e X.env) :: starEach es X.env := by rfl) (hpl : (backTo pos (starEach es X.env)).any (·.1) = false := by rfl) :
    PE X (.Call (.Name x p) (e :: es) [] pos) (tCallG X.prog X.w X.K X.mg X.base CX k [] E tf t tNil) := by
  refine ⟨fun pins s σ H Q I h => ?_⟩
  refine wpAny_Call_Name_kw (thn (hf.run pins s σ H _ I h) fun u s0 hh => ?_)
  obtain ⟨v, H0, I0, r0, f, fd, ps, sp, np, g, gV, ev, F, hk, hb, hq⟩ := hh
  subst ev
  obtain rfl : u = Value.ref f := r0
  refine PySem.W.callWith_K (h₀ := X.base) I0.ok.mod.kin hk (thn (ha.run pos pins s0 σ H0 _ I0 hq) fun us s1 ⟨vs, H1, I1, r, l1, l2, q⟩ => ⟨I1.kIn, ?_⟩) he hpl
  exact run_fnN (ws := []) (zs := []) F hr hb hx I1 r .nil l1 l2 q
end
/-! ### .. as data -/
def PDK (c : Ct) (X : Cx) (kws : List Keyword) (de : DA) : Prop := ∃ t, PK X kws t ∧ SimA c X.K X.mg t de
/-- the names fs that the value may be, each with its promise -/
def dCallG (xs : List Str) (fs : Str → MT) (ED : Exc → Nat → Prop) (np nk : Nat) (perm : List (Bool × Nat)) (df : DE) (das dks : DA) : DE := fun S Q => df S fun x S0 => ∃ y, x = .fn y ∧ y ∈ xs ∧ das S0 fun us S1 => dks S1 fun ws S2 => us.length = np ∧ ws.length = nk ∧
  fs y (pickG .non perm us ws) S2.n (fun d n' => n' ≤ S2.n → Q d { S2 with n := n' }) ED
section
variable {c : Ct} {X : Cx} {CX : CXT}
theorem pda_knil : PDK c X [] dNil := by
  obtain ⟨t, _, h⟩ := pda_nil (c := c) (X := X)
  exact ⟨_, pk_nil, fun σ G H S Qd Q R hQ h => hQ [] H ⟨G, S, [], .refl R, .nil, h⟩⟩
theorem pda_kcons {nm : Option Str} {e : Expr} {kws : List Keyword} {kpos : Pos} {de : DE} {ds : DA} (h : PDE c X e de) (g : PDK c X kws ds) : PDK c X (⟨nm, e, kpos⟩ :: kws) (dCons de ds) := by
  obtain ⟨ta, a1, a2⟩ := h
  obtain ⟨tb, b1, b2⟩ := g
  refine ⟨_, pk_cons a1 b1, fun σ G H S Qd Q R hQ h => ?_⟩
  refine a2 σ G H S _ _ R (fun x H1 ⟨G1, S1, dx, A1, r1, h1⟩ => ?_) h
  refine b2 σ G1 H1 S1 _ _ A1.rp (fun xs H2 ⟨G2, S2, dxs, A2, r2, h2⟩ => ?_) h1
  exact hQ _ H2 ⟨G2, S2, _, A1.trans A2, .cons (A2.rep r1) r2, h2⟩
theorem simCallG {k np : Nat} {ks : List Str} {perm : List (Bool × Nat)} {E : XK} {ED : Exc → Nat → Prop} {tf : TE} {t tk : TA} {xs : List Str} {fs : Str → MT} {df : DE} {das dks : DA} (hC : ∀ y ∈ xs, CanK X.prog X.w X.K X.mg X.base c.T CX k y np ks perm (fs y))
    (hf : SimE c X.K X.mg tf df) (ha : SimA c X.K X.mg t das) (hk : SimA c X.K X.mg tk dks)
    (hE : ∀ σ G H S, Rp c X.K X.mg σ G H S → ∀ x f d k v C dd G' H', k ≤ S.n → Gw c.T k G H G' H' → X.mg x = some (.ref C) → H' dd = some (.xd [(f, v)]) → Rep X.K X.mg G' (S.n - k) v d → ED (x, f, d) (S.n - k) → E (.ref C) (some dd) H') :
    SimE c X.K X.mg (tCallG X.prog X.w X.K X.mg X.base CX k ks E tf t tk) (dCallG xs fs ED np ks.length perm df das dks) := by
  intro σ G H S Qd Q R hQ h
  refine hf σ G H S _ _ R (fun v H0 ⟨G0, S0, d0, A0, r0, q00⟩ => ?_) h
  obtain ⟨y, ey, hy, q0⟩ := q00
  subst ey
  obtain ⟨f, fd, ps, F, hm, hkp, hb, har⟩ := (hC y hy).ex
  have ev : v = .ref f := by
    cases r0 with
    | fn h1 =>
      rw [hm] at h1
      cases h1
      rfl
  refine ⟨f, fd, ps, _, np, _, _, ev, F, hkp, hb, ?_⟩
  refine ha σ G0 H0 S0 _ _ A0.rp (fun vs H1 ⟨G1, S1, us, A1, r1, q1⟩ => ?_) q0
  refine hk σ G1 H1 S1 _ _ A1.rp (fun zs H2 ⟨G2, S2, ws, A2, r2, q02⟩ => ?_) q1
  obtain ⟨l1, l2, q2⟩ := q02
  have A := (A0.trans A1).trans A2
  have rr := repAll_pick (A2.repAll r1) r2 perm
  refine ⟨by rw [r1.length]; exact l1, by rw [r2.length]; exact l2, ?_, G2, _, S2.n, _, ED, A2.rp.sub, A2.rp.tabs, rr, q2, fun v d k' G' H' hk' g r q => ?_, hE σ G2 H2 S2 A2.rp⟩
  · rw [rr.length]
    exact har _ _ _ _ q2
  · exact hQ v H' ⟨G', { S2 with n := S2.n - k' }, d, A.trans (Aft.gw A2.rp g hk'), r, q (Nat.sub_le _ _)⟩
theorem noE {K : PySem.W.Frag} {mg : MG} : ∀ σ G H S, Rp c K mg σ G H S → ∀ x f d k v C dd G' H', k ≤ S.n → Gw c.T k G H G' H' → mg x = some (.ref C) → H' dd = some (.xd [(f, v)]) → Rep K mg G' (S.n - k) v d → ED0 (x, f, d) (S.n - k) → E0 (.ref C) (some dd) H' :=
  fun _ _ _ _ _ _ _ _ _ _ _ _ _ _ _ _ _ _ _ z => z.elim
/-- how what a callee lets out is met -/
structure Lk (c : Ct) (X : Cx) (CX : CXT) (ED : Exc → Nat → Prop) : Prop where
  ex : ∃ E : XK, Passes CX X E ∧ ∀ σ G H S, Rp c X.K X.mg σ G H S → ∀ x f d k v C dd G' H', k ≤ S.n → Gw c.T k G H G' H' → X.mg x = some (.ref C) → H' dd = some (.xd [(f, v)]) → Rep X.K X.mg G' (S.n - k) v d → ED (x, f, d) (S.n - k) → E (.ref C) (some dd) H'
/-- it lets nothing out -/
theorem lk0 : Lk c X CX0 ED0 := ⟨_, pass0, noE⟩
/-- it could, but not here -/
theorem lkN : Lk c X (L2.CX X.prog X.w) ED0 := ⟨E0, fun pins σ H s e s' I h => by
  obtain ⟨_, _, _, _, _, _, _, _, _, _, _, _, z⟩ := h
  exact z.elim, noE⟩
/-- what it lets out leaves -/
theorem lkX (L : Lnk c X.K X.mg) (hx : Passes (L2.CX X.prog X.w) X c.E) : Lk c X (L2.CX X.prog X.w) c.ED := ⟨_, hx, lnk_at L⟩
/-- a call of a def by its name -/
theorem pd_callZ {ED : Exc → Nat → Prop} {k : Nat} {x : Str} {st : Stmt} {ps : List Str} {m : MT} {a : Expr} {es : List Expr} {das : DA} {p pos : Pos} (C : CalD X.prog X.w X.K X.mg X.base c.T CX k x st ps m) (lk : Lk c X CX ED) (hr : Room k X.A) (hg : Gl X x)
    (hb : ∀ (kV doc pm : Value) (an : Option Addr) (cdv ct : Value) (us : List Value), us.length = ps.length → bindArgs (PySem.W.fnOf x x (defArgs st) (defBody st) (defScope st) .none kV doc pm an cdv ct) ⟨us, []⟩ = pure (ps.zip us))
    (ha : PDA c X (a :: es) das) (hdb : (x == ("__debug__" : Str)) = false := by decide) (he : starEach (a :: es) X.env = (false, eval a X.env) :: starEach es X.env := by rfl) (hpl : (backTo pos (starEach es X.env)).any (·.1) = false := by rfl) :
    PDE c X (.Call (.Name x p) (a :: es) [] pos) (dCall ED m das) := by
  obtain ⟨f, fd, F, G, hm⟩ := C.ex
  obtain ⟨ta, a1, a2⟩ := ha
  obtain ⟨E, hx, hE⟩ := lk.ex
  exact ⟨_, pe_call G hr hg hm F.kp (F.binds hb) .nil hx a1 hdb he hpl, simCall a2 C.ar hE⟩
section
variable {ED : Exc → Nat → Prop} {k np : Nat} {ks : List Str} {perm : List (Bool × Nat)} {xs : List Str} {fs : Str → MT} {df : DE} {das dks : DA} {x : Str} {p pos : Pos} {e : Expr} {es : List Expr} {kws : List Keyword}
theorem simNil {K : PySem.W.Frag} {mg : MG} : SimA c K mg tNil dNil := fun σ G H S Qd Q R hQ h => hQ [] H ⟨G, S, [], .refl R, .nil, h⟩
/-- a call of what the name holds -/
theorem pd_callG (xs : List Str) (fs : Str → MT) (hC : ∀ y ∈ xs, CanK X.prog X.w X.K X.mg X.base c.T CX k y np [] perm (fs y)) (lk : Lk c X CX ED) (hr : Room k X.A) (hf : PDE c X (.Name x p) df) (ha : PDA c X (e :: es) das)
    (he : starEach (e :: es) X.env = (false, eval e X.env) :: starEach es X.env := by rfl) (hpl : (backTo pos (starEach es X.env)).any (·.1) = false := by rfl) : PDE c X (.Call (.Name x p) (e :: es) [] pos) (dCallG xs fs ED np 0 perm df das dNil) := by
  obtain ⟨tf, f1, f2⟩ := hf
  obtain ⟨ta, a1, a2⟩ := ha
  obtain ⟨E, hx, hE⟩ := lk.ex
  exact ⟨_, pe_callGP f1 hr hx a1 he hpl, simCallG hC f2 a2 simNil hE⟩
/-- .. with keywords -/
theorem pd_callGK (xs : List Str) (fs : Str → MT) (hC : ∀ y ∈ xs, CanK X.prog X.w X.K X.mg X.base c.T CX k y np ks perm (fs y)) (lk : Lk c X CX ED) (hr : Room k X.A) (hf : PDE c X (.Name x p) df) (ha : PDA c X (e :: es) das) (hkw : PDK c X kws dks)
    (hall : (backToKw pos (keywordEach kws X.env)).all (·.1.isSome) = true := by rfl) (hks : (backToKw pos (keywordEach kws X.env)).filterMap (·.1) = ks := by rfl)
    (he : starEach (e :: es) X.env = (false, eval e X.env) :: starEach es X.env := by rfl) (hpl : ((backTo pos (starEach (e :: es) X.env)).any (·.1) || (backToKw pos (keywordEach kws X.env)).any (·.1.isNone)) = false := by rfl) :
    PDE c X (.Call (.Name x p) (e :: es) kws pos) (dCallG xs fs ED np ks.length perm df das dks) := by
  obtain ⟨tf, f1, f2⟩ := hf
  obtain ⟨ta, a1, a2⟩ := ha
  obtain ⟨tk, k1, k2⟩ := hkw
  obtain ⟨E, hx, hE⟩ := lk.ex
  exact ⟨_, pe_callG f1 hr hx a1 k1 hall hks he hpl, simCallG hC f2 a2 k2 hE⟩
theorem pd_callGK0 (xs : List Str) (fs : Str → MT) (hC : ∀ y ∈ xs, CanK X.prog X.w X.K X.mg X.base c.T CX k y 0 ks perm (fs y)) (lk : Lk c X CX ED) (hr : Room k X.A) (hf : PDE c X (.Name x p) df) (hkw : PDK c X kws dks)
    (hall : (backToKw pos (keywordEach kws X.env)).all (·.1.isSome) = true := by rfl) (hks : (backToKw pos (keywordEach kws X.env)).filterMap (·.1) = ks := by rfl)
    (hpl : ((backTo pos (starEach [] X.env)).any (·.1) || (backToKw pos (keywordEach kws X.env)).any (·.1.isNone)) = false := by rfl) :
    PDE c X (.Call (.Name x p) [] kws pos) (dCallG xs fs ED 0 ks.length perm df dNil dks) := by
  obtain ⟨tf, f1, f2⟩ := hf
  obtain ⟨tk, k1, k2⟩ := hkw
  obtain ⟨E, hx, hE⟩ := lk.ex
  exact ⟨_, pe_callG0 f1 hr hx k1 hall hks hpl, simCallG hC f2 simNil k2 hE⟩
end
end
end DL
set_option maxHeartbeats 2000000
namespace DL
open PySem PySem.Spec PyProof.Rows L2
open LamX (Tabs ExtN CodeO TabB LamS GivesTo tLam lamCx lamEnv)
/-! ### a def that tries what it is given -/
/-- try: a() / except x as n: return n.f -- then return ret -/
def TRef (K : PySem.W.Frag) (C : Addr) (f ret : Str) : (XK → Hp → VK → Prop) → Hp → VK → Prop := fun tl H Q =>
  tl (fun cls d H' => ∃ b, PySem.W.exmOne K cls (.ref C) = some b ∧ (b = true → cls = .ref C ∧ ∃ (dd : Addr) (fs : List (Str × V)) (v : V), d = some dd ∧ H' dd = some (.xd fs) ∧ fs.lookup f = some v ∧ Q v H') ∧ (b = false → False)) H fun _ H' => Q (.str ret) H'
abbrev refBody (a x n f ret : Str) (j : Nat) (p1 p2 p3 p4 p5 p6 p7 p8 p9 p10 p11 : Pos) : List Stmt :=
  [.Try [.Expr (.Call (.Name a p1) [] [] p2) p3] [.ExceptHandler (some (.Name x p4)) (some n) [.Return (some (.Attribute (.Name n p5) f p6)) p7] p8] [] [] p9, .Return (some (.Constant (.str ret) j p10)) p11]
theorem pss_len {X : Cx} {b : List Stmt} {t : TS} (h : PSs X b t) : PSs X b (fun D σ H => σ.length = X.N.length → t D σ H) :=
  ⟨fun pins s σ H D I hq => h.run pins s σ H D I (hq I.len)⟩
theorem ref_gives {X : Cx} {x a e n f ret q : Str} {sg : Scope} {g C : Addr} {cdg : Value} {j : Nat} {p1 p2 p3 p4 p5 p6 p7 p8 p9 p10 p11 : Pos} (hge : sg.names.lookup e = some .globalImplicit) (hme : X.mg e = some (.ref C)) (hde : (e == ("__debug__" : Str)) = false)
    (hna : a ≠ n) (hln : sg.names.lookup n = some .local) (T : XfC X.K C) (hno : PySem.W.findIn X.K (.ref C) f = some none) (hdn : (n == ("__debug__" : Str)) = false) (hcn : (n == ("__classdict__" : Str)) = false)  :
    GivesTo X [a, n] x sg g cdg (refBody a e n f ret j p1 p2 p3 p4 p5 p6 p7 p8 p9 p10 p11) a q (TRef X.K C f ret) := by
  intro fL c' s H Q tl act hc h
  have hgl : Gl (cxOf C8.CX0 X.prog X.w X.K X.mg X.base [a, n] x sg g cdg X.A X.stack s H C8.E0).nox e := hge
  have nd : [a, n].Nodup := by simp [hna]
  refine ⟨_, pss_cons (ps_try_as (X := (cxOf C8.CX0 X.prog X.w X.K X.mg X.base [a, n] x sg g cdg X.A X.stack s H C8.E0).nox) (i := 1) (c := .ref C)
      (tb := fun W D σ H => ∃ Ech : XK, (∀ cls d σ' H', Ech cls d H' → W cls d σ' H') ∧ σ[0]? = some (some (.ref fL)) ∧ H c' = some (CodeO c' q) ∧ tl Ech H fun _ H' => D.nx σ H')
      (ts := fun a0 cls d D σ H => σ.length = 2 → tRet (tXf a0 cls d C f (tVar 1)) D σ H)
      rfl rfl nd rfl hln ⟨hgl, hde, .inl hme⟩ takes0 (fun W pn xe tk _ => ?_) (fun a0 oe cls d pn hz hf => pss_len (pss_one (ps_ret (pe_xf T hno hz hf (pe_var (i := 1) rfl (.inl hln) hdn hcn)))))) (pss_one (ps_ret pe_str)), ?_⟩
  · refine ⟨fun pins s' σ H' D I h' => ?_⟩
    obtain ⟨Ech, hW, h1, h2, h3⟩ := h'
    have hp := act W pn xe Ech p1 p2 tk hW
    exact (pss_one (ps_expr (pos := p3) hp)).run pins s' σ H' D I ⟨h1, h2, h3⟩
  · refine ⟨_, fun cls d σ' H' ⟨b, e1, e2, e3⟩ => ⟨b, e1, fun hb a0 _ => ?_, fun hb => e3 hb⟩, rfl, hc, h⟩
    intro hl
    obtain ⟨k1, dd, fs, v, k2, k3, k4, k5⟩ := e2 hb
    have h2 : 1 < σ'.length := by
      rw [List.length_set] at hl
      omega
    exact ⟨.ref a0, List.getElem?_set_self h2, rfl, k1, dd, fs, v, k2, k3, k4, k5⟩
/-! ### a def whose lambdas are known -/
/-- the code object and the table of the running def -/
structure LamAt (T : TT0) (X : Cx) : Prop where
  ex : ∃ c P, TabB X.base X.mg c P ∧ X.env.code = .ref c ∧ (P, X.env.qual ++ "<lambda>") ∈ T ∧ ∀ p ∈ T, p.1 = P → p.2 = X.env.qual ++ "<lambda>"
structure FunL (K : PySem.W.Frag) (mg : MG) (base : Heap) (T : TT0) (x : Str) (st : Stmt) (f : Addr) : Prop where
  ex : ∃ (oc : Value) (od : Option Addr) (kV doc pm : Value) (an : Option Addr) (ct : Value) (osl : Array (Option Value)) (cda P : Addr),
    K.lookup f = some ⟨oc, od, .func (PySem.W.fnOf x x (defArgs st) (defBody st) (defScope st) .none kV doc pm an (.ref cda) ct), osl⟩ ∧ PySem.W.codeIn K (.ref cda) x = true ∧
    TabB base mg cda P ∧ (P, (x ++ ".<locals>.") ++ "<lambda>") ∈ T ∧ ∀ p ∈ T, p.1 = P → p.2 = (x ++ ".<locals>.") ++ "<lambda>"
  kp : PySem.W.keepIn K (.ref f) = true
section
variable {P : Program} {w : World} {K : PySem.W.Frag} {mg : MG} {base : Heap} {T : TT0}
/-- a def that makes lambdas and lets nothing out -/
theorem okDL {x : Str} {st : Stmt} {f : Addr} {N ps : List Str} {k : Nat} {m : MT} (F : FunL K mg base T x st f) (hm : mg x = some (.ref f)) (S : FnScope N ps (defScope st)) (har : ∀ ds n Q E, m ds n Q E → ds.length = ps.length)
    (hbody : ∀ (cdv : Value) (A : Around) (outer : List Env) (s : Shared) (G H : Hp) (n : Nat) (E : XK) (ED : Exc → Nat → Prop), Room k (A.deeper (envOfC x (defScope st) s.heap.objs.size f cdv)) → LamAt T (cxOf CX0 P w K mg base N x (defScope st) f cdv A outer s H E).nox →
      ∃ dsb, PDSs ⟨T, G, H, n, E, ED⟩ (cxOf CX0 P w K mg base N x (defScope st) f cdv A outer s H E).nox (defBody st) dsb ∧
        ∀ ds Qd, ds.length = ps.length → m ds n Qd ED → dsb { nx := fun S => Qd .non S.n, rt := fun d S => Qd d S.n } (ent N ds n)) : CalD P w K mg base T CX0 (k + 1) x st ps m := by
  obtain ⟨oc, od, kV, doc, pm, an, ct, osl, cda, Pt, lk, hcd, TB, h1, h2⟩ := F.ex
  refine ⟨⟨f, _, fun_mk lk hcd F.kp, fn_of lk hcd S (fun vs H Q E h => h.1) fun A outer s H vs Q E hr h => ?_, hm⟩, har⟩
  obtain ⟨hl, G, ds, n, Qd, ED, q1, q2, q3, q4, q5, q6⟩ := h
  obtain ⟨dsb, ⟨t, b1, b2⟩, b3⟩ := hbody (.ref cda) A outer s G H n E ED hr ⟨cda, Pt, TB, rfl, h1, h2⟩
  exact ⟨t, b1.nox, simDef (ps := ps) (m := m) q1 q2 q3 q5 b2 (b3 ds Qd (q3.length.symm.trans hl) q4)⟩
end
/-! ### x(lambda: body), x tries it -/
/-- the heap behind the making of a lambda -/
theorem gw_lam {T : TT0} {G H H1 : Hp} (s : Sub G H) (t : Tabs T G) (e : ExtN H H1) (t1 : Tabs T H1) : ∃ G1, Gw T 0 G H G1 H1 ∧ Tabs T G1 := by
  classical
  let G1 : Hp := fun b => if H b = none ∨ G b ≠ none then H1 b else none
  have at1 : ∀ {b o}, G b = some o → (∀ ps, o ≠ .tbl ps) → G1 b = some o := fun {b o} h n => by
    show (if H b = none ∨ G b ≠ none then H1 b else none) = some o
    rw [if_pos (.inr (by rw [h]; simp))]
    exact e b o (s b o h) n
  have tabs1 : Tabs T G1 := fun p hp => by
    obtain ⟨ps, a1, a2, a3⟩ := t1 p hp
    obtain ⟨ps0, b1, _, _⟩ := t p hp
    refine ⟨ps, ?_, a2, fun pos cv hc => ?_⟩
    · show (if H p.1 = none ∨ G p.1 ≠ none then H1 p.1 else none) = _
      rw [if_pos (.inr (by rw [b1]; simp))]
      exact a1
    · obtain ⟨c, k1, k2⟩ := a3 pos cv hc
      refine ⟨c, k1, ?_⟩
      show (if H c = none ∨ G c ≠ none then H1 c else none) = _
      by_cases h1 : H c = none
      · rw [if_pos (.inl h1)]
        exact k2
      · by_cases h2 : G c = none
        · exfalso
          obtain ⟨o, ho⟩ := Option.ne_none_iff_exists'.mp h1
          have pl := s.hd c o ho h2
          have z := e c o ho pl.nt
          rw [k2] at z
          exact pl.nc _ _ (Option.some.inj z).symm
        · rw [if_pos (.inr h2)]
          exact k2
  refine ⟨G1, ⟨⟨fun b o h => ?_, fun b o h n => ?_⟩, ⟨fun b o h f => at1 h f.2, fun b B h => ⟨B, by omega, at1 h fun ps z => dice_ne_tbl z⟩, fun _ => tabs1⟩, fun b o h n => e b o h (s.hd b o h n).nt, fun b o h n => ?_⟩, tabs1⟩
  · have h' : (if H b = none ∨ G b ≠ none then H1 b else none) = some o := h
    split at h'
    · exact h'
    · cases h'
  · have n' : (if H b = none ∨ G b ≠ none then H1 b else none) = none := n
    split at n'
    · rw [h] at n'
      cases n'
    · rename_i hn
      have h1 : H b ≠ none := fun z => hn (.inl z)
      have h2 : G b = none := by
        cases q : G b with
        | none => rfl
        | some u => exact absurd (.inr (by rw [q]; simp)) hn
      obtain ⟨o', ho⟩ := Option.ne_none_iff_exists'.mp h1
      have pl := s.hd b o' ho h2
      have z := e b o' ho pl.nt
      rw [h] at z
      cases z
      exact pl
  · have h' : (if H b = none ∨ G b ≠ none then H1 b else none) = some o := h
    split at h'
    · rename_i q
      rcases q with q | q
      · exact q
      · exact absurd n q
    · cases h'
theorem Rp.reE {c : Ct} {K : PySem.W.Frag} {mg : MG} {σ : Sig} {G H : Hp} {S : DS} {E : XK} {ED : Exc → Nat → Prop} (R : Rp c K mg σ G H S) : Rp ⟨c.T, c.G0, c.H0, c.n0, E, ED⟩ K mg σ G H S :=
  ⟨R.sub, R.nle, R.le, R.hid, R.new, R.tabs, R.len, R.slots, R.apart⟩
def dRef (x f ret : Str) (de : (Exc → Nat → Prop) → DE) : DE := fun S Q =>
  de (fun ex n => ∃ d, ex = (x, f, d) ∧ (n ≤ S.n → Q d ⟨S.sl, n⟩)) ⟨noOwn S.sl, S.n⟩ fun _ S2 => S2.sl = noOwn S.sl ∧ Q (.str ret) ⟨S.sl, S2.n⟩
/-- what is known of the def that tries -/
structure RefD (P : Program) (w : World) (K : PySem.W.Frag) (mg : MG) (xg x f ret : Str) : Prop where
  ex : ∃ (g C : Addr) (a n : Str) (j : Nat) (p1 p2 p3 p4 p5 p6 p7 p8 p9 p10 p11 : Pos) (pg : Arguments) (sg : Scope) (oc kV doc pm cdv ct : Value) (an od : Option Addr) (osl : Array (Option Value)),
    mg xg = some (.ref g) ∧ PySem.W.keepIn K (.ref g) = true ∧
    K.lookup g = some ⟨oc, od, .func (PySem.W.fnOf xg xg pg (refBody a x n f ret j p1 p2 p3 p4 p5 p6 p7 p8 p9 p10 p11) sg .none kV doc pm an cdv ct), osl⟩ ∧ PySem.W.codeIn K cdv xg = true ∧
    L2.Binds K (PySem.W.fnOf xg xg pg (refBody a x n f ret j p1 p2 p3 p4 p5 p6 p7 p8 p9 p10 p11) sg .none kV doc pm an cdv ct) [a] [] ∧ FnScope [a, n] [a] sg ∧ Vis sg a ∧
    sg.names.lookup x = some .globalImplicit ∧ mg x = some (.ref C) ∧ (x == ("__debug__" : Str)) = false ∧ a ≠ n ∧ sg.names.lookup n = some .local ∧ XfC K C ∧ PySem.W.findIn K (.ref C) f = some none ∧ (n == ("__debug__" : Str)) = false ∧ (n == ("__classdict__" : Str)) = false ∧
    (a == ("__debug__" : Str)) = false ∧ (a == ("__classdict__" : Str)) = false ∧ PySem.W.exmOne K (.ref C) (.ref C) = some true
section
variable {c : Ct} {X : Cx}
theorem pd_refused {xg x f ret : Str} {k : Nat} {params : Arguments} {body : Expr} {scope : Scope} {p lpos pos : Pos} {de : (Exc → Nat → Prop) → DE} (R : RefD X.prog X.w X.K X.mg xg x f ret) (LA : LamAt c.T X) (hr : Room (k + 2) X.A) (hg : Gl X xg) (L : LamS X.env.scope scope)
    (hde : ∀ (A : Around) (outer : List Env) (s : Shared) (H : Hp) (E : XK) (fL c' : Addr) (G0 H0 : Hp) (n0 : Nat) (ED : Exc → Nat → Prop), Room k (A.deeper (lamEnv X scope s.heap.objs.size fL c')) → Lnk ⟨c.T, G0, H0, n0, E, ED⟩ X.K X.mg → PDE ⟨c.T, G0, H0, n0, E, ED⟩ (lamCx X A outer s H E scope fL c') body (de ED))
    (hdef : defaultsOf params X.env = ([], []) := by rfl) (hbind : ∀ (q : Str) (cl : List (Str × Addr)) (pm cv ctv : Value), bindArgs (PySem.W.kla_fn "<lambda>" q params body scope cl pm cv ctv) ⟨[], []⟩ = pure [] := by intros; rfl) (hdb : (xg == ("__debug__" : Str)) = false := by decide) :
    PDE c X (.Call (.Name xg p) [.Lambda params body scope lpos] [] pos) (dRef x f ret de) := by
  obtain ⟨g, C, a, n, j, p1, p2, p3, p4, p5, p6, p7, p8, p9, p10, p11, pg, sg, oc, kV, doc, pm, cdv, ct, an, od, osl, hm, hk, lk, hcg, hb, Sg, hva, hge, hme, hde', hna, hln, hT, hno, hdn, hcn, hda, hca, hex⟩ := R.ex
  obtain ⟨cda, Pt, TB, hcode, hmT, hu⟩ := LA.ex
  have G1 := ref_gives (X := X) (x := xg) (a := a) (q := X.env.qual ++ "<lambda>") (sg := sg) (g := g) (C := C) (cdg := cdv) (f := f) (ret := ret) (j := j) (p1 := p1) (p2 := p2) (p3 := p3) (p4 := p4) (p5 := p5) (p6 := p6) (p7 := p7) (p8 := p8) (p9 := p9) (p10 := p10) (p11 := p11) hge hme hde' hna hln hT hno hdn hcn
  refine ⟨_, LamX.pe_lamcall (t := fun E σ H Q => ∃ G0 H0 n0 ED, Lnk ⟨c.T, G0, H0, n0, E, ED⟩ X.K X.mg ∧ canE ⟨c.T, G0, H0, n0, E, ED⟩ X.K X.mg (de ED) σ H Q) hg hm hk lk hcg hb Sg rfl hva G1 TB hcode hmT hu hr L hdef hbind (fun A outer s H E fL c' hr2 => ?_) hdb hda hca, ?_⟩
  · refine ⟨fun pins s2 σ H2 Q I hq => ?_⟩
    obtain ⟨G0, H0, n0, ED, hL, hq⟩ := hq
    exact (hde A outer s H E fL c' G0 H0 n0 ED hr2 hL).can.run pins s2 σ H2 Q I hq
  · intro σ G H S Qd Q R hQ h
    refine ⟨R.tabs.ext R.sub, fun H1 eN T1 => ?_⟩
    obtain ⟨G1, gw, tb1⟩ := gw_lam R.sub R.tabs eN T1
    have R1 := R.gw0 gw
    have A1 := Aft.gw0 R gw
    have RL := R1.enter
    refine ⟨G1, H1, S.n, _, ⟨fun x' f' d k' v C' dd G' H' hk' gw' hx hd r q => ?_⟩, G1, ⟨noOwn S.sl, S.n⟩, _, RL.reE, fun v H' hW => ?_, h⟩
    · obtain ⟨d', e1, q⟩ := q
      cases e1
      rw [hme] at hx
      cases hx
      refine ⟨true, hex, fun _ => ⟨rfl, dd, _, v, rfl, hd, by simp [List.lookup], ?_⟩, fun z => nomatch z⟩
      exact hQ v H' ⟨G', ⟨S.sl, S.n - k'⟩, d, A1.trans (Aft.gw R1 gw' hk'), r, q (Nat.sub_le _ _)⟩
    · obtain ⟨G2, S2, d, A2, r2, e2, q2⟩ := hW
      obtain ⟨sl2, n2⟩ := S2
      have e2' : sl2 = noOwn S.sl := e2
      subst e2'
      have A3 := R1.exit (A2.rp.reE (E := c.E) (ED := c.ED))
      exact hQ _ _ ⟨G2, ⟨S.sl, n2⟩, _, A1.trans A3, .str ret, q2⟩
end
end DL
set_option maxHeartbeats 2000000
namespace DL
open PySem PySem.Spec PyProof.Rows L2
/-! ### the dice -/
abbrev D3 (o m c : Int) : List V := [.int o, .int m, .int c]
structure DOk (o m c : Int) (B : Nat) : Prop where
  o0 : 0 ≤ o
  m0 : 0 ≤ m
  m1 : m < 2147480009
  c0 : 0 ≤ c
  cB : c ≤ B
theorem vals3 {o m c : Int} {its : List Value} (r : Vals (D3 o m c) its) : ∃ t1 t2 t3, its = [.int o t1, .int m t2, .int c t3] := by
  cases r with
  | cons a r =>
    cases r with
    | cons b r =>
      cases r with
      | cons d r =>
        cases r
        obtain ⟨t1, rfl⟩ := a
        obtain ⟨t2, rfl⟩ := b
        obtain ⟨t3, rfl⟩ := d
        exact ⟨t1, t2, t3, rfl⟩
section
variable {X : Cx} {pins : List (Addr × Obj)} {σ : Sig} {H : Hp} {s : Shared} {a : Addr} {B : Nat}
theorem inv_toList (I : Inv X pins σ H s) (h : H a = some (DiceO a B)) : ∃ o m c, DOk o m c B ∧ Inv X pins σ (upd H a (.lst (D3 o m c))) s := by
  have x := I.hok a _ h
  obtain ⟨⟨o, m, c, t1, t2, t3, n, e, h1, h2, h3, h4, h5⟩, _, _⟩ := x
  refine ⟨o, m, c, ⟨h1, h2, h3, h4, h5⟩, I.write (x := a) (e := a) (t' := s.toks) (h' := s.heap) (by rw [h]; exact True.intro) (.inl rfl) (fun b v _ q => q) ⟨_, e⟩ ?_⟩
  exact ⟨by show 3 ≤ sizeLine; rw [sizeLine_eq]; omega, [.int o t1, .int m t2, .int c t3], n, .cons ⟨t1, rfl⟩ (.cons ⟨t2, rfl⟩ (.cons ⟨t3, rfl⟩ .nil)), e⟩
theorem inv_toDice {o m c : Int} (I : Inv X pins σ H s) (h : H a = some (.lst (D3 o m c))) (d : DOk o m c B) : Inv X pins σ (upd H a (DiceO a B)) s := by
  have x := I.hok a _ h
  obtain ⟨_, its, n, r, e⟩ := x
  obtain ⟨t1, t2, t3, ei⟩ := vals3 r
  subst ei
  refine I.write (x := a) (e := a) (t' := s.toks) (h' := s.heap) (by rw [h]; exact True.intro) (.inl rfl) (fun b v _ q => q) ⟨_, e⟩ ?_
  refine ⟨⟨o, m, c, t1, t2, t3, n, e, d.o0, d.m0, d.m1, d.c0, d.cB⟩, ⟨_, e⟩, fun h1 h2 hp k => ?_⟩
  obtain ⟨o, m, c, t1, t2, t3, n, e, r⟩ := hp
  exact ⟨o, m, c, t1, t2, t3, n, k _ e, r⟩
theorem upd_upd {H : Hp} {a : Addr} {u v : HO} : upd (upd H a u) a v = upd H a v := by
  funext b
  by_cases h : b = a
  · rw [h, upd_same, upd_same]
  · rw [upd_ne h, upd_ne h, upd_ne h]
end
/-- [a, b, c], as dice from now on -/
def tDice (ta : TA) : TE := fun σ H Q => ta σ H fun xs H1 => ∃ o m c, xs = D3 o m c ∧ DOk o m c 0 ∧ ∀ p, H1 p = none → Q (.ref p) (upd H1 p (DiceO p 0))
theorem pe_dice {X : Cx} {es : List Expr} {ta : TA} {pos : Pos} (ha : PA X es ta) : PE X (.List es pos) (tDice ta) := by
  refine ⟨fun pins s σ H Q I h => ?_⟩
  refine wpAny_List_spliced (thn (ha.run pos pins s σ H _ I h) fun us s1 hh => ?_)
  obtain ⟨xs, H1, I1, r, o, m, c, ex, d, q⟩ := hh
  subst ex
  obtain ⟨t1, t2, t3, eu⟩ := vals3 r
  subst eu
  have hf : H1 s1.heap.objs.size = none := I1.hok.fresh (Nat.le_refl _)
  refine ⟨by show 3 ≤ sizeLine; rw [sizeLine_eq]; omega, .ref s1.heap.objs.size, upd H1 s1.heap.objs.size (DiceO s1.heap.objs.size 0), I1.laid (t' := s1.toks) (fun b u e => Heap.get?_push_of_some _ e) (Nat.le_refl _) ?_, rfl, q _ hf⟩
  have e1 : (s1.heap.push { cls := .type "list", data := .seq #[.int o t1, .int m t2, .int c t3] }).get? s1.heap.objs.size = some { cls := .type "list", data := .seq #[.int o t1, .int m t2, .int c t3] } := Heap.get?_push_size _ rfl
  refine ⟨⟨o, m, c, t1, t2, t3, 0, e1, d.o0, d.m0, d.m1, d.c0, d.cB⟩, ⟨_, e1⟩, fun h1 h2 hp k => ?_⟩
  obtain ⟨o, m, c, t1, t2, t3, n, e, r⟩ := hp
  exact ⟨o, m, c, t1, t2, t3, n, k _ e, r⟩
section
variable {c : Ct} {X : Cx}
/-- return [a, b, c], as dice -/
def dDice (das : DA) : DE := fun S Q => das S fun ds S1 => ∃ o m, ds = [.int o, .int m, .int 0] ∧ 0 ≤ o ∧ 0 ≤ m ∧ m < 2147480009 ∧ S1.n ≤ Big ∧ Q .dice S1
theorem rep3 {K : PySem.W.Frag} {mg : MG} {G : Hp} {n : Nat} {vs : List V} {o m c : Int} (r : RepAll K mg G n vs [.int o, .int m, .int c]) : vs = D3 o m c := by
  cases r with
  | cons a r =>
    cases r with
    | cons b r =>
      cases r with
      | cons d r =>
        cases r
        cases a
        cases b
        cases d
        rfl
theorem pd_dice {es : List Expr} {das : DA} {pos : Pos} (ha : PDA c X es das) : PDE c X (.List es pos) (dDice das) := by
  obtain ⟨ta, a1, a2⟩ := ha
  refine ⟨_, pe_dice a1, fun σ G H S Qd Q R hQ h => ?_⟩
  refine a2 σ G H S _ _ R (fun vs H1 ⟨G1, S1, ds, A, r, q⟩ => ?_) h
  obtain ⟨o, m, e, h1, h2, h3, h4, q⟩ := q
  subst e
  refine ⟨o, m, 0, rep3 r, ⟨h1, h2, h3, by omega, by simp⟩, fun p np => ?_⟩
  have g : Gw c.T 0 G1 H1 _ _ := .alloc (o := DiceO p 0) A.rp.sub np
  exact hQ _ _ ⟨_, S1, _, A.trans (Aft.gw0 A.rp g), .dice upd_same (by omega), q⟩
/-! ### an own list read -/
def dIxOl (i : Nat) (db : DE) : DE := fun S Q => db S fun y S1 => ∃ l j d, olAt S1 i = some l ∧ y = .int j ∧ atI l j = some d ∧ Q d S1
end
/-! ### dice opened -/
theorem hp_at (a : Addr) (o : Obj) (hn : (match o with | ⟨_, _, .freed, _⟩ => true | _ => false) = false) : ∃ h : Heap, h.get? a = some o := by
  refine ⟨({ objs := Array.replicate a default } : Heap).push o, ?_⟩
  have e : ({ objs := Array.replicate a default } : Heap).objs.size = a := by simp
  have z := Heap.get?_push_size ({ objs := Array.replicate a default } : Heap) (o := o)
  rw [e] at z
  exact z (by
    obtain ⟨c, d, dt, sl⟩ := o
    cases dt <;> first | rfl | cases hn)
theorem ext_inj {f g : Heap → Prop} (h : HO.ext f = HO.ext g) : f = g := by cases h; rfl
theorem dice_code {a c : Addr} {B : Nat} {q : Str} (ha : c = a) : DiceO a B ≠ LamX.CodeO c q := fun z => by
  subst ha
  unfold DiceO LamX.CodeO at z
  have e := ext_inj z
  obtain ⟨h, hh⟩ := hp_at c { cls := .type "list", data := .seq #[.int 0 0, .int 0 0, .int 0 0] 0 } rfl
  have y := congrFun e h
  have y2 := y.mp ⟨0, 0, 0, 0, 0, 0, 0, hh, by omega, by omega, by omega, by omega, by omega⟩
  obtain ⟨oc, vs, t, e1, e2, _⟩ := y2
  rw [hh] at e1
  cases e1
  cases e2
theorem dice_B {a : Addr} {B B' : Nat} (h : DiceO a B = DiceO a B') : B ≤ B' := by
  unfold DiceO at h
  have e := ext_inj h
  obtain ⟨hp, hh⟩ := hp_at a { cls := .type "list", data := .seq #[.int 0 0, .int 0 0, .int B 0] 0 } rfl
  obtain ⟨o, m, c, t1, t2, t3, n, e1, _, _, _, _, h5⟩ := (congrFun e hp).mp ⟨0, 0, B, 0, 0, 0, 0, hh, by omega, by omega, by omega, by omega, by omega⟩
  rw [hh] at e1
  cases e1
  omega
/-- the body runs on the opened dice -/
def tOpen (t : TS) : TS := fun D σ H => ∃ a B, H a = some (DiceO a B) ∧ ∀ o m c, DOk o m c B →
  t { nx := fun σ' H' => ∃ o' m' c' B', H' a = some (.lst (D3 o' m' c')) ∧ DOk o' m' c' B' ∧ D.nx σ' (upd H' a (DiceO a B')),
      rt := fun v H' => ∃ o' m' c' B', H' a = some (.lst (D3 o' m' c')) ∧ DOk o' m' c' B' ∧ D.rt v (upd H' a (DiceO a B')) } σ (upd H a (.lst (D3 o m c)))
theorem pss_open {X : Cx} {b : List Stmt} {t : TS} (h : PSs X b t) : PSs X b (tOpen t) := by
  refine ⟨fun pins s σ H D I hq => ?_⟩
  obtain ⟨a, B, ha, hq⟩ := hq
  obtain ⟨o, m, c, d, I1⟩ := inv_toList I ha
  refine thn (h.run pins s σ _ _ I1 (hq o m c d)) fun f s1 q => ?_
  cases f with
  | next =>
    obtain ⟨σ', H', I2, o', m', c', B', e, d', q⟩ := q
    exact ⟨σ', _, inv_toDice I2 e d', q⟩
  | ret v =>
    obtain ⟨x, σ', H', I2, r, o', m', c', B', e, d', q⟩ := q
    exact ⟨x, σ', _, inv_toDice I2 e d', r, q⟩
  | brk =>
    obtain ⟨_, _, _, z⟩ := q
    exact z.elim
  | cont =>
    obtain ⟨_, _, _, z⟩ := q
    exact z.elim
section
variable {P : Program} {w : World} {K : PySem.W.Frag} {mg : MG} {base : Heap} {T : TT0}
/-- a roll: one of 0 .. total - 1 -/
def m_roll : MT := fun ds n Q _ => ∃ t : Int, ds = [.dice, .int t] ∧ 0 < t ∧ t < 1073741824 ∧ 0 < n ∧ ∀ r : Int, 0 ≤ r → r < t → Q (.int r) (n - 1)
/-! ### the roll, read -/
theorem rd_ix {K : PySem.W.Frag} {σ : Sig} {H : Hp} {a : Addr} {xs : List V} {j : Int} {v : V} {Q : VK} (hs : σ[0]? = some (some (V.ref a))) (hH : H a = some (.lst xs)) (hv : atI xs j = some v) (q : Q v H) : tOp (rIxL K) (tVar 0) (tC (.int j)) σ H Q :=
  ⟨.ref a, hs, a, xs, j, v, rfl, rfl, .of hH, hv, q⟩
theorem wr_ix {σ : Sig} {H : Hp} {a : Addr} {xs : List V} {k : Int} {j : Nat} {v : V} {Q : Sig → Hp → Prop} (hs : σ[0]? = some (some (V.ref a))) (hH : H a = some (.lst xs)) (hj : ixN xs.length k = some j) (q : Q σ (upd H a (.lst (xs.set j v)))) : gSub (tVar 0) (tC (.int k)) rSetL v σ H Q :=
  ⟨.ref a, hs, a, xs, k, j, rfl, rfl, hH, hj, q⟩
abbrev tInt1 (t : TE) : TE := tCB (fun xs H Q => (∃ i, xs = [V.int i] ∧ Q (V.int i) H) ∨ ∃ k, xs = [V.bl k] ∧ Q (V.int (if k = true then 1 else 0)) H) (tCons t tNil)
abbrev tIx (K : PySem.W.Frag) (j : Int) : TE := tOp (rIxL K) (tVar 0) (tC (.int j))
abbrev tMod : TE → TE → TE := tOp (rI (fun _ j => 0 < j) fun i j => V.int (i % j))
abbrev tFdv : TE → TE → TE := tOp (rI CDiv fun i j => V.int (i / j))
abbrev tAdd : TE → TE → TE := tOp (rI0 fun i j => V.int (i + j))
abbrev tMlt : TE → TE → TE := tOp (rI CMul fun i j => V.int (i * j))
/-- what the roll's body does -/
abbrev rollT (K : PySem.W.Frag) : TS :=
  tSeq (tIfS (tTest (tOp (rI0 fun i j => V.bl (decide (j < i))) (tIx K 0) (tC (.int 0))))
      (tSeq (tAsg (tMod (tInt1 (tIx K 0)) (tVar 1)) (gName 2)) (tSeq (tAsg (tFdv (tIx K 0) (tVar 1)) (gSub (tVar 0) (tC (.int 0)) rSetL)) (tRet (tVar 2)))) tNext)
    (tSeq (tAsg (tAdd (tIx K 2) (tC (.int 1))) (gSub (tVar 0) (tC (.int 2)) rSetL))
      (tSeq (tAsg (tMod (tInt1 (tAdd (tAdd (tMlt (tIx K 1) (tC (.int 52501))) (tMlt (tMlt (tIx K 2) (tIx K 2)) (tC (.int 1009)))) (tC (.int 77)))) (tC (.int 2147480009))) (gSub (tVar 0) (tC (.int 1)) rSetL))
        (tRet (tMod (tInt1 (tFdv (tIx K 1) (tC (.int 211)))) (tVar 1)))))
theorem roll_reads {K : PySem.W.Frag} {D : Ends} {H : Hp} {a : Addr} {B : Nat} {o m c t : Int} (hH : H a = some (.lst (D3 o m c))) (d : DOk o m c B) (hB : B ≤ Big) (t0 : 0 < t) (t1 : t < 1073741824)
    (q : ∀ (r o' m' c' : Int), 0 ≤ r → r < t → DOk o' m' c' (B + 1) → D.rt (.int r) (upd H a (.lst (D3 o' m' c')))) : rollT K D [some (.ref a), some (.int t), none] H := by
  have d1 := d.o0; have d2 := d.m0; have d3 := d.m1; have d4 := d.c0; have d5 := d.cB
  have hs : ([some (V.ref a), some (.int t), none] : Sig)[0]? = some (some (.ref a)) := rfl
  refine rd_ix hs hH rfl ⟨o, 0, rfl, rfl, ?_⟩
  show ∃ k, V.bl (decide (0 < o)) = .bl k ∧ _
  refine ⟨_, rfl, ?_⟩
  show if decide (0 < o) = true then _ else _
  by_cases ho : 0 < o
  · rw [if_pos (decide_eq_true ho)]
    refine rd_ix hs hH rfl (.inl ⟨o, rfl, .int t, rfl, o, t, rfl, rfl, t0, ?_⟩)
    show tSeq _ _ _ ([some (V.ref a), some (.int t), some (.int (o % t))] : Sig) H
    have hs2 : ([some (V.ref a), some (.int t), some (.int (o % t))] : Sig)[0]? = some (some (.ref a)) := rfl
    refine rd_ix hs2 hH rfl ⟨.int t, rfl, o, t, rfl, rfl, ⟨t0, t1⟩, ?_⟩
    refine wr_ix hs2 hH (j := 0) rfl ⟨.int (o % t), rfl, ?_⟩
    exact q (o % t) (o / t) m c (Int.emod_nonneg _ (by omega)) (Int.emod_lt_of_pos _ t0) ⟨Int.ediv_nonneg d1 (by omega), d2, d3, d4, by omega⟩
  · rw [if_neg (by simpa using ho)]
    refine rd_ix hs hH rfl ⟨c, 1, rfl, rfl, ?_⟩
    refine wr_ix hs hH (j := 2) rfl ?_
    have h2 : upd H a (.lst (D3 o m (c + 1))) a = some (.lst (D3 o m (c + 1))) := upd_same
    refine rd_ix hs h2 rfl ⟨m, 52501, rfl, rfl, .inr (by constructor <;> omega), ?_⟩
    refine rd_ix hs h2 rfl (rd_ix hs h2 rfl ⟨c + 1, c + 1, rfl, rfl, .inr (by unfold Big at hB; constructor <;> omega), ⟨_, 1009, rfl, rfl, .inr (by constructor <;> omega), ⟨_, _, rfl, rfl, ⟨_, 77, rfl, rfl, .inl ⟨_, rfl, ⟨_, 2147480009, rfl, rfl, (show (0 : Int) < 2147480009 by decide), ?_⟩⟩⟩⟩⟩⟩)
    refine wr_ix hs h2 (j := 1) rfl ?_
    rw [upd_upd]
    have hm : ∀ x : Int, 0 ≤ x % 2147480009 ∧ x % 2147480009 < 2147480009 := fun x => ⟨Int.emod_nonneg _ (by decide), Int.emod_lt_of_pos _ (by decide)⟩
    obtain ⟨k1, k2⟩ := hm (m * 52501 + (c + 1) * (c + 1) * 1009 + 77)
    refine rd_ix hs upd_same rfl ⟨_, 211, rfl, rfl, ⟨by decide, by decide⟩, .inl ⟨_, rfl, .int t, rfl, _, t, rfl, rfl, t0, ?_⟩⟩
    exact q _ _ _ _ (Int.emod_nonneg _ (by omega)) (Int.emod_lt_of_pos _ t0) ⟨d1, k1, k2, by omega, by omega⟩
theorem okRoll {x : Str} {st : Stmt} {f : Addr} {fd : FuncData} {a1 a2 a3 : Str} {k : Nat} (F : Fun K x x st f fd) (hm : mg x = some (.ref f)) (S : FnScope [a1, a2, a3] [a1, a2] (defScope st))
    (hbody : ∀ (cdv : Value) (A : Around) (outer : List Env) (s : Shared) (H : Hp) (E : XK), PSs (cxOf CX0 P w K mg base [a1, a2, a3] x (defScope st) f cdv A outer s H E).nox (defBody st) (rollT K)) : CalD P w K mg base T CX0 (k + 1) x st [a1, a2] m_roll := by
  refine ⟨⟨f, fd, F, F.ok S (fun vs H Q E h => h.1) (fun cdv A outer s H vs Q E hr h => ?_), hm⟩, fun ds n Q E ⟨t, e, _⟩ => by rw [e] <;> rfl⟩
  obtain ⟨hl, G, ds, n, Qd, ED, hs, tb, r, h4, h5, h6⟩ := h
  obtain ⟨t, e, t0, t1, n0, hq⟩ := h4
  subst e
  obtain ⟨v, v2, ev, rv, rv2⟩ := rep2 r
  subst ev
  cases rv2
  cases rv with
  | @dice a B ha hB =>
    refine ⟨_, pss_open (hbody cdv A outer s H E), a, B, hs _ _ ha, fun o m c d => ?_⟩
    refine roll_reads upd_same d (by omega) t0 t1 fun r o' m' c' r0 r1 d' => ?_
    refine ⟨o', m', c', B + 1, upd_same, d', ?_⟩
    rw [upd_upd, upd_upd]
    have n1 : n - 1 + 1 = n := by omega
    refine h5 (.int r) (.int r) 1 (upd G a (DiceO a (B + 1))) _ (by omega) ?_ (.int r) (hq r r0 r1)
    have sa := hs a _ ha
    refine ⟨⟨fun b u e => ?_, fun b u e z => ?_⟩, ⟨fun b u e f => ?_, fun b C e => ?_, fun tt => ?_⟩, fun b u h1 h2 => ?_, fun b u h1 h2 => ?_⟩
    · by_cases hb : b = a
      · rw [hb, upd_same] at e ⊢
        exact e
      · rw [upd_ne hb] at e ⊢
        exact hs b u e
    · by_cases hb : b = a
      · rw [hb, upd_same] at z
        cases z
      · rw [upd_ne hb] at e z
        exact hs.hd b u e z
    · have hb : b ≠ a := fun q => by
        rw [q, ha] at e
        exact f.1 a B (Option.some.inj e).symm
      rw [upd_ne hb]
      exact e
    · by_cases hb : b = a
      · subst hb
        rw [ha] at e
        have q := dice_B (Option.some.inj e)
        exact ⟨B + 1, by omega, upd_same⟩
      · exact ⟨C, by omega, by rw [upd_ne hb]; exact e⟩
    · intro p hp
      obtain ⟨ps, k1, k2, k3⟩ := tt p hp
      have n1 : p.1 ≠ a := fun e => by
        rw [e, ha] at k1
        exact dice_ne_tbl (Option.some.inj k1)
      refine ⟨ps, by rw [upd_ne n1]; exact k1, k2, fun pos cv hc => ?_⟩
      obtain ⟨c, e1, e2⟩ := k3 pos cv hc
      have n2 : c ≠ a := fun e => by
        have e3 := e2
        rw [e, ha] at e3
        exact dice_code (a := a) (c := a) rfl (Option.some.inj e3)
      exact ⟨c, e1, by rw [upd_ne n2]; exact e2⟩
    · have hb : b ≠ a := fun q => by
        rw [q, ha] at h2
        cases h2
      rw [upd_ne hb]
      exact h1
    · by_cases hb : b = a
      · rw [hb, ha] at h2
        cases h2
      · rw [upd_ne hb, h2] at h1
        cases h1
end
end DL
set_option maxHeartbeats 1000000
namespace DL
open PySem PySem.Spec PyProof.Rows L2
/-! ### enumerate(tuple) -/
theorem meets_enum1 {v : Value} {o : Obj} {H : Heap → Prop} (B : Begins v o H) :
    Meets (Builtin.«enumerate.__new__» ⟨[.type "enumerate", v], []⟩) (fun _ R s => H s.heap ∧
      R (.ok (.ret (.ref (s.heap.push o).objs.size))) { s with heap := (s.heap.push o).push { cls := .type "enumerate", data := .fields #[.none, .bool false, .ref s.heap.objs.size, rawInt 0, .none, .none] } }) :=
  .of_wp fun prog w A R s h => by
    obtain ⟨hp, g, d, tk, os⟩ := s
    obtain ⟨h1, h⟩ := h
    have hsub := sub_enumerate
    have it : ∀ {A' : Around} {E : Value → Shared → Prop} {Q : Value → Shared → Prop}, Q (.ref hp.objs.size) ⟨hp.push o, g, d, tk, os⟩ → wpAny (model prog w) A' (pyIter v) Q E ⟨hp, g, d, tk, os⟩ :=
      fun q => B.iter prog w _ _ ⟨hp, g, d, tk, os⟩ _ h1 q
    wp_walk using it
    refine wpAny_stack_any fun st => wpAny_pure ?_
    split
    · rename_i c _ _ _ _ _
      cases (c == Value.type "enumerate") <;> (wp_walk using it; exact ⟨_, rfl, h⟩)
    · wp_walk using it
      exact ⟨_, rfl, h⟩
theorem call_enum1 {prog : Program} {w : World} {A : Around} {E : Value → Shared → Prop} {s : Shared} {v : Value} {o : Obj} {H : Heap → Prop} {Q : Value → Shared → Prop} (B : Begins v o H) (h1 : H s.heap)
    (h : ∀ h', IsEnum h' (s.heap.objs.size + 1) s.heap.objs.size 0 .none → h'.get? s.heap.objs.size = some o → (∀ b o, s.heap.get? b = some o → h'.get? b = some o) → Q (.ref (s.heap.objs.size + 1)) { s with heap := h' }) :
    wpAny (model prog w) A (call (.type "enumerate") [v]) Q E s := by
  have hz : (s.heap.push o).objs.size = s.heap.objs.size + 1 := Heap.size_push ..
  have he : ((s.heap.push o).push { cls := .type "enumerate", data := .fields #[.none, .bool false, .ref s.heap.objs.size, rawInt 0, .none, .none] }).get? (s.heap.objs.size + 1) = some { cls := .type "enumerate", data := .fields #[.none, .bool false, .ref s.heap.objs.size, rawInt 0, .none, .none] } := by
    rw [← hz]
    exact Heap.get?_push_size _ rfl
  refine callType_new F.called_enumerate (by decide) (F.typeCall_enumerate_1 _) (F.newCall_enumerate_1 _) (fun obj => F.args_object_init_2 obj _) F.entry_enumerate_new (meets_enum1 B) ⟨h1, ?_⟩
  show _ ∧ _
  rw [hz]
  exact ⟨⟨_, he, rfl⟩, h _ he (Heap.get?_push_of_some _ (Heap.get?_push_size _ B.free)) fun b o x => Heap.get?_push_of_some _ (Heap.get?_push_of_some _ x)⟩
/-- the tuple at a, each item in a new pair -/
def IteT (K : PySem.W.Frag) (a : Addr) : It :=
  ⟨fun i H => ∃ (xs : List V) (x : V), SqT K H a xs ∧ xs[i]? = some x, fun i H v H' => ∃ T x, v = .ref T ∧ H T = none ∧ H' = upd H T (.tup [.int (i : Nat), x]) ∧ ∀ xs, SqT K H a xs → xs[i]? = some x, fun i H => ∃ xs : List V, SqT K H a xs ∧ xs.length = i⟩
theorem turn_enumT {P : Program} {w : World} {K : PySem.W.Frag} {elts : List Expr} {kk : Nat} {tpos : Pos} (a e it : Addr) :
    Turn P w K (.Tuple elts kk tpos) (IteT K a) [e, it] e (fun i h => (∃ old, IsEnum h e it ((i : Nat) : Int) old) ∧ h.IsTupleIter it a i ∧ e ≠ it ∧ a ≠ it ∧ a ≠ e) where
  mem := by simp
  obj := fun i h st b hb => by
    obtain ⟨⟨old, he⟩, ⟨o, ho, hc, hd⟩, _⟩ := st
    rcases (show b = e ∨ b = it by simpa using hb) with z | z
    · rw [z]
      exact ⟨_, he, fun v q => nomatch q⟩
    · rw [z]
      exact ⟨o, ho, fun v q => by rw [hd] at q; cases q⟩
  keep := fun i h h' st k => by
    obtain ⟨⟨old, he⟩, hi, hne⟩ := st
    exact ⟨⟨old, k e (by simp) _ he⟩, hi.at fun o q => k it (by simp) o q, hne⟩
  item := by
    intro X hP hw hK hc i pins s σ H E I hf st hg
    subst hP hw hK
    obtain ⟨⟨old, he⟩, hit, hne, hai, hae⟩ := st
    obtain ⟨xs, x, hq, hx⟩ := hg
    obtain ⟨its, rv, p, hz⟩ := I.tuple hq
    obtain ⟨u, hu, ru⟩ := rv.get hx
    have hel : e < s.heap.objs.size := Heap.lt_size he
    have hil : it < s.heap.objs.size := by obtain ⟨_, q, _⟩ := hit; exact Heap.lt_size q
    have hi : i < its.toArray.size := by
      rw [List.size_toArray]
      exact (List.getElem?_eq_some_iff.mp hu).1
    refine wpAny_pyNext_enum_itemD (Draws.tuple (by first | exact I.ok.hd hc | (show X.A.handled = none; exact I.ok.hd hc)) it a hai its.toArray) he ⟨hit, p⟩ hi hne (by simp [hne, Ne.symm hae]) fun y h' tk hy ho hit' hT hsz hk => ?_
    have ey : u = y := by
      have hy' : its.toArray[i]? = some y := hy
      rw [List.getElem?_toArray, hu] at hy'
      exact Option.some.inj hy'
    subst ey
    refine ⟨_, rfl, wpAny_letOwnedTupleGo_enum (s := { s with heap := h', toks := tk + 1 }) ho fun h'' he' sb => ?_⟩
    have hT2 : h''.get? s.heap.objs.size = some { cls := .type "tuple", data := .seq #[.int i tk, u] } := (sb.2 _ (Nat.ne_of_gt hel)).trans hT
    have new : ObjOk X.prog X.w (upd H s.heap.objs.size (.tup [.int (i : Nat), x])) h'' s.heap.objs.size (.tup [.int (i : Nat), x]) :=
      ⟨by show 2 ≤ sizeLine; decide, [.int i tk, u], .cons ⟨_, rfl⟩ (.cons ru .nil), ⟨_, hT2, rfl, _, rfl⟩⟩
    have I1 : Inv X pins σ (upd H s.heap.objs.size (.tup [.int (i : Nat), x])) { s with heap := h'', toks := tk + 1 } :=
      I.turnedNew (ch := [e, it]) (fun b ob hb q => (sb.2 b (fun z => hb (by simp [z]))).trans (hk b ob (fun z => hb (by simp [z])) (fun z => hb (by simp [z])) q)) hf (Nat.le_refl _) new
    refine ⟨.ref s.heap.objs.size, _, I1, rfl, ⟨_, x, rfl, I.hok.fresh (Nat.le_refl _), rfl, fun ys hy => by rw [I.tuple_inj hy hq]; exact hx⟩, ⟨⟨u, ?_⟩, hit'.1.at fun o q => (sb.2 it (Ne.symm hne)).trans q, hne, hai, hae⟩, fun b hb => ?_⟩
    · rw [show ((i + 1 : Nat) : Int) = (i : Int) + 1 by omega]
      exact he'
    · have hb' : b < s.heap.objs.size := by
        rcases (show b = e ∨ b = it by simpa using hb) with z | z
        · rw [z]; exact hel
        · rw [z]; exact hil
      rw [upd_ne (Nat.ne_of_lt hb')]
      exact (hf b hb).1
  done := by
    intro X hP hw hK hc i pins s σ H E I hf st hg
    subst hP hw hK
    obtain ⟨⟨old, he⟩, hit, hne, hai, hae⟩ := st
    obtain ⟨xs, hq, hx⟩ := hg
    obtain ⟨its, rv, p, hz⟩ := I.tuple hq
    obtain ⟨f0, f1, f2, f3, f4, f5⟩ := hf it (by simp)
    have hl : its.toArray.size = i := by
      rw [List.size_toArray, ← rv.length]
      exact hx
    exact wpAny_pyNext_enum_endD (Draws.tuple (by first | exact I.ok.hd hc | (show X.A.handled = none; exact I.ok.hd hc)) it a hai its.toArray) he (by rw [hl]; exact ⟨hit, p⟩) fun h' eb => ⟨rfl, I.turned (t' := s.toks) (fun b o hb q => eb b o hb q) f0 f1 f3 f4 f5⟩
  self := fun A i s Q E st h => by
    obtain ⟨⟨_, he⟩, _⟩ := st
    exact wpAny_pyIter_enum he h
def iEnumT (K : PySem.W.Frag) (ta : TA) : TI := fun σ H R => ta σ H fun vs H1 => ∃ a xs, vs = [.ref a] ∧ SqT K H1 a xs ∧ R (IteT K a) H1
theorem pi_enumT {X : Cx} {e : Expr} {ta : TA} {p pos tpos : Pos} {elts : List Expr} {kk : Nat} (hg : Gl X "enumerate") (hm : X.mg "enumerate" = none) (ha : PA X [e] ta) (hs : starEach [e] X.env = [(false, eval e X.env)] := by rfl) :
    PI X (.Tuple elts kk tpos) (.Call (.Name "enumerate" p) [e] [] pos) (iEnumT X.K ta) := by
  refine ⟨fun pins s σ H R I h => ?_⟩
  refine Call_ (ld_blt I hg hm boot_enumerate (PyProof.Rows.callWith_type1 (thn (ha.run pos pins s σ H _ I h) fun us s1 ⟨vs, H1, I1, r1, q1⟩ => ?_) hs rfl))
  obtain ⟨a, xs, ex, hq, q⟩ := q1
  subst ex
  cases r1 with
  | cons r rr =>
    cases rr
    cases r
    obtain ⟨its, rv, p', hz⟩ := I1.tuple hq
    have hal : a < s1.heap.objs.size := p'.lt
    refine call_enum1 (begins_tuple a its.toArray) p' fun h' he ho hk => wpAny_pyIter_enum he ?_
    have I2 : Inv X pins σ H1 { s1 with heap := h' } := I1.kept (t' := s1.toks) hk
    refine ⟨s1.heap.objs.size + 1, [s1.heap.objs.size + 1, s1.heap.objs.size], _, _, H1, rfl, I2, turn_enumT a (s1.heap.objs.size + 1) s1.heap.objs.size, ⟨⟨.none, he⟩, ⟨_, ho, rfl, rfl⟩, Nat.succ_ne_self _, Nat.ne_of_lt hal, Nat.ne_of_lt (Nat.lt_succ_of_lt hal)⟩, fun b hb => ?_, q⟩
    have hle : s1.heap.objs.size ≤ b := by
      rcases (show b = s1.heap.objs.size + 1 ∨ b = s1.heap.objs.size by simpa using hb) with z | z
      · rw [z]
        exact Nat.le_add_right _ _
      · rw [z]
        exact Nat.le_refl _
    exact I1.fpOk hle (I1.hok.fresh hle)
theorem yl_enumT {T : TT0} {K : PySem.W.Frag} {mg : MG} {a : Addr} {xs : List V} {ds : List D} {G0 : Hp} {n0 : Nat} (h : SqT K G0 a xs) (r : RepAll K mg G0 n0 xs ds) : Yl T K mg (IteT K a) G0 n0 (enumD ds) where
  stop := fun i G H n s l hn hi => ⟨xs, sqT_sub s (sqT_le l h), by rw [r.length, ← enumD_length]; exact hi⟩
  go := fun i G H n d s l hn hi => by
    rw [enumD_get] at hi
    cases hd : ds[i]? with
    | none =>
      rw [hd] at hi
      cases hi
    | some d0 =>
      rw [hd] at hi
      have e0 : D.tup [.int (i : Nat), d0] = d := Option.some.inj hi
      subst e0
      obtain ⟨v, e, rv⟩ := r.get hd
      have hq : SqT K H a xs := sqT_sub s (sqT_le l h)
      refine ⟨⟨xs, v, hq, e⟩, fun x H' y => ?_⟩
      obtain ⟨P, w, ex, np, eH, y⟩ := y
      have ew : v = w := Option.some.inj (e.symm.trans (y xs hq))
      subst ex eH ew
      have g : Gw T 0 G H _ _ := .alloc (o := .tup [.int (i : Nat), v]) s np
      exact ⟨_, g, .tup (SqT.of upd_same) (.cons (.int _) (.cons ((rv.up l (by omega)).up g.le (Nat.le_refl _)) .nil))⟩
section
variable {c : Ct} {X : Cx}
/-- enumerate of a tuple -/
def dEnumT (da : DA) : DI := fun S Q => da S fun ds S1 => ∃ l, ds = [.tup l] ∧ Q (enumD l) S1
theorem pdi_enumT {e : Expr} {da : DA} {p pos tpos : Pos} {elts : List Expr} {kk : Nat} (hg : Gl X "enumerate") (hm : X.mg "enumerate" = none) (ha : PDA c X [e] da) (hs : starEach [e] X.env = [(false, eval e X.env)] := by rfl) :
    PDI c X (.Tuple elts kk tpos) (.Call (.Name "enumerate" p) [e] [] pos) (dEnumT da) := by
  obtain ⟨ta, a1, a2⟩ := ha
  refine ⟨_, pi_enumT hg hm a1 hs, fun σ G H S Qd R Rr hR h => ?_⟩
  refine a2 σ G H S _ _ Rr (fun vs H1 ⟨G1, S1, ds, A, r, q⟩ => ?_) h
  obtain ⟨l, e, q⟩ := q
  subst e
  obtain ⟨v, ev, rv⟩ := rep1 r
  subst ev
  cases rv with
  | tup h a => exact ⟨_, _, rfl, sqT_sub A.rp.sub h, hR _ _ ⟨G1, S1, _, A, yl_enumT h a, q⟩⟩
/-! ### x[::-1] -/
def dRevL (de : DE) : DE := fun S Q => de S fun x S1 => ∃ l, x = .lst l ∧ Q (.lst l.reverse) S1
theorem pd_revL {e : Expr} {de : DE} {k : Nat} {p1 p2 p3 pos : Pos} (he : PDE c X e de) : PDE c X (.Subscript e (.Slice none none (some (.UnaryOp .USub (.Constant (.int 1) k p1) p2)) p3) pos) (dRevL de) := by
  obtain ⟨te, e1, e2⟩ := he
  refine ⟨_, pe_revL e1, fun σ G H S Qd Q R hQ h => ?_⟩
  refine e2 σ G H S _ _ R (fun v H1 ⟨G1, S1, d, A, r, q⟩ => ?_) h
  obtain ⟨l, e, q⟩ := q
  subst e
  cases r with
  | @lst a xs ds hr ra =>
    refine ⟨a, xs, rfl, sqL_sub A.rp.sub hr, fun p np => ?_⟩
    have g : Gw c.T 0 G1 H1 _ _ := .alloc (o := .lst xs.reverse) A.rp.sub np
    exact hQ _ _ ⟨_, S1, _, A.trans (Aft.gw0 A.rp g), .lst (.inl (.inl upd_same)) (ra.reverse.up g.le (Nat.le_refl _)), q⟩
end
end DL
set_option maxHeartbeats 1000000
namespace DL
open PySem PySem.Spec PyProof.Rows HT
section
variable {prog : Program} {w : World} {A : Around} {E : Value → Shared → Prop} {s : Shared}
theorem fm_some {α : Type} {f : Nat → Option α} {g : Nat → α} : ∀ l : List Nat, (∀ k ∈ l, f k = some (g k)) → l.filterMap f = l.map g
  | [], _ => rfl
  | k :: l, h => by rw [List.filterMap_cons, h k List.mem_cons_self, fm_some l fun j hj => h j (List.mem_cons_of_mem _ hj), List.map_cons]
theorem rev_sel (xs : Array Value) : ((List.range xs.size).filterMap fun (k : Nat) => xs[(((xs.size : Int) - 1) + (k : Int) * (-1)).toNat]?).toArray = xs.toList.reverse.toArray := by
  have e : ((List.range xs.size).filterMap fun (k : Nat) => xs[(((xs.size : Int) - 1) + (k : Int) * (-1)).toNat]?) = xs.toList.reverse := by
    apply List.ext_getElem?
    intro i
    have e1 : ((List.range xs.size).filterMap fun (k : Nat) => xs[(((xs.size : Int) - 1) + (k : Int) * (-1)).toNat]?) = (List.range xs.size).map fun k => xs.getD (xs.size - 1 - k) .none := by
      refine fm_some _ fun k hk => ?_
      have hk' : k < xs.size := List.mem_range.mp hk
      have e2 : (((xs.size : Int) - 1) + (k : Int) * (-1)).toNat = xs.size - 1 - k := by omega
      rw [e2]
      have h3 : xs.size - 1 - k < xs.size := by omega
      simp [Array.getD, h3]
    rw [e1, List.getElem?_map]
    by_cases hi : i < xs.size
    · rw [List.getElem?_eq_getElem (by simpa using hi), List.getElem_range, List.getElem?_reverse (by simpa using hi)]
      have h3 : xs.size - 1 - i < xs.size := by omega
      simp [Array.getD, h3]
    · rw [List.getElem?_eq_none (by simpa using hi), List.getElem?_eq_none (by simpa using hi)]
      rfl
  rw [e]
theorem getItem_tuple_rev {t sl : Addr} {items : Array Value} {vs : Value} {Q : Value → Shared → Prop} (ht : IsTup s.heap t items) (hs : s.heap.IsSliceOf sl .none .none vs) (ps : IsPart vs (some (-1)))
    (h : Q (.ref s.heap.objs.size) { s with heap := s.heap.push { cls := .type "tuple", data := .seq items.toList.reverse.toArray } }) (hsz : items.size ≤ sizeLine) : wpAny (model prog w) A (getItem (.ref t) (.ref sl)) Q E s := by
  obtain ⟨os, hos, hcs, hds⟩ := id hs
  have hTs : s.TypeIs (.ref sl) "slice" := ⟨os, hos, hcs⟩
  have hz : sizeOk (.seq items.toList.reverse.toArray) := by
    show items.toList.reverse.toArray.size ≤ sizeLine
    simpa using hsz
  unfold getItem
  try with_reducible refine wpAny_holding ?_
  first | refine wpAny_bind (wpAny_pure ?_) | skip
  refine wpAny_bind (wpAny_sequenceKey ht.typeIs (by decide) (wpAny_bind (wpAny_callSpecial?_slot (name := Str.ofString "__getitem__") ht.typeIs PyProof.Rows.slot_tuple_getitem
    (wpAny_call_entry PyProof.Rows.slot_tuple_getitem ht.typeIs entry_tuple_getitem ?_ (args_tuple_getitem _ _)))))
  show wpAny _ _ (Builtin.Tuple.tupleItemsOf (.ref t) >>= _) _ _ s
  refine wpAny_bind (tupleItemsOf_ ht (wpAny_bind (wpAny_typeOf hTs ?_)))
  rw [if_pos (by decide)]
  have ap : ∀ {Q : Int × Int × Nat → Shared → Prop} {A : Around} {E : Value → Shared → Prop}, Q ((items.size : Int) - 1, -1, items.size) s → wpAny (model prog w) A (Builtin.Slice.sliceApplied (.ref sl) (pure (items.size : Int))) Q E s := fun {Q A E} q => by
    unfold Builtin.Slice.sliceApplied Builtin.Slice.sliceFields
    refine wpAny_bind (wpAny_bind (wpAny_field hos hds (x := .none) rfl (wpAny_bind (wpAny_field hos hds (x := .none) rfl (wpAny_bind (wpAny_field hos hds (x := vs) rfl (wpAny_pure ?_)))))))
    refine wpAny_bind (slicePart_ ps ?_)
    show wpAny _ _ (if ((-1 : Int) == 0) = true then _ else _) _ _ s
    rw [if_neg (by decide)]
    refine wpAny_bind (slicePart_ .none (wpAny_bind (slicePart_ .none (wpAny_bind (wpAny_pure ?_)))))
    have adj : Builtin.Slice.sliceAdjust none none (-1) (items.size : Int) = ((items.size : Int) - 1, -1) := by
      unfold Builtin.Slice.sliceAdjust
      simp
    have pl : Builtin.Slice.slicePlaces ((items.size : Int) - 1) (-1) (-1) = items.size := by
      unfold Builtin.Slice.slicePlaces
      simp
      try split
      all_goals try omega
    show wpAny _ _ (match Builtin.Slice.sliceAdjust none none (-1) (items.size : Int) with | (lo, hi) => pure (lo, (-1 : Int), Builtin.Slice.slicePlaces lo hi (-1))) _ _ s
    rw [adj]
    show wpAny _ _ (pure ((items.size : Int) - 1, (-1 : Int), Builtin.Slice.slicePlaces ((items.size : Int) - 1) (-1) (-1))) _ _ s
    rw [pl]
    exact wpAny_pure q
  refine wpAny_bind (ap ?_)
  have hno : ¬ ((((items.size : Int) - 1) == 0 && (-1 : Int) == 1 && items.size == items.size) = true) := by simp
  show wpAny _ _ (if ((((items.size : Int) - 1) == 0 && (-1 : Int) == 1 && items.size == items.size)) = true then _ else _) _ _ s
  rw [if_neg hno, rev_sel]
  first
    | exact wpAny_bind (m := Builtin.Tuple.tupleExact _) (wpAny_newObj_type (wpAny_pure ⟨_, rfl, wpAny_pure h⟩) hz)
    | exact wpAny_bind (m := Builtin.Tuple.tupleExact _) (wpAny_newObj_type (wpAny_bind (wpAny_pure (wpAny_pure ⟨_, rfl, wpAny_pure h⟩))) hz)
    | exact wpAny_bind (wpAny_bind (m := Builtin.Tuple.tupleExact _) (wpAny_newObj_type (wpAny_pure (wpAny_pure ⟨_, rfl, wpAny_pure h⟩)) hz))
    | exact wpAny_bind (wpAny_bind (m := Builtin.Tuple.tupleExact _) (wpAny_newObj_type (wpAny_pure ⟨_, rfl, wpAny_pure h⟩) hz))
end
end DL
namespace DL
open PySem PySem.Spec PyProof.Rows L2
/-- t[::-1] -/
def tRevT (K : PySem.W.Frag) (te : TE) : TE := fun σ H Q => te σ H fun x H1 => ∃ a xs, x = .ref a ∧ SqT K H1 a xs ∧ ∀ p, H1 p = none → Q (.ref p) (upd H1 p (.tup xs.reverse))
theorem pe_revT {X : Cx} {e : Expr} {te : TE} {k : Nat} {p1 p2 p3 pos : Pos} (he : PE X e te) : PE X (.Subscript e (.Slice none none (some (.UnaryOp .USub (.Constant (.int 1) k p1) p2)) p3) pos) (tRevT X.K te) := by
  refine ⟨fun pins s σ H Q I h => ?_⟩
  refine Subscript_ (thn (he.run pins s σ H _ I h) fun v s1 ⟨x, H1, I1, r1, a, xs, ex, hx, q⟩ => ?_)
  subst ex
  cases r1
  have hst : PO X (some (.UnaryOp .USub (.Constant (.int 1) k p1) p2)) (tPart (tUn (rU fun i => .int (-i)) (tC (.int 1)))) := po_some (pe_un un_neg pe_int)
  refine wpAny_Slice (thn (po_none.run pins s1 σ H1 (fun o H2 => o = none ∧ H2 = H1) I1 ⟨rfl, rfl⟩) fun vl s2 ⟨l, H2, I2, pl, el, e2⟩ => ?_)
  subst el e2
  refine thn (po_none.run pins s2 σ H2 (fun o H3 => o = none ∧ H3 = H2) I2 ⟨rfl, rfl⟩) fun vu s3 ⟨u, H3, I3, pu, eu, e3⟩ => ?_
  subst eu e3
  refine thn (hst.run pins s3 σ H3 (fun o H4 => o = some (-1) ∧ H4 = H3) I3 ⟨1, rfl, -1, rfl, rfl, rfl⟩) fun vs s4 ⟨o, H4, I4, ps, eo, e4⟩ => ?_
  subst eo e4
  cases pl
  cases pu
  have I5 : Inv X pins σ H4 { s4 with heap := s4.heap.push { cls := .type "slice", data := .fields #[.none, .none, vs] } } := I4.kept (t' := s4.toks) fun b ob q => Heap.get?_push_of_some _ q
  obtain ⟨its, r, ht, hz⟩ := I5.tuple hx
  have hlen := r.length
  show wpAny (model X.prog X.w) X.A (subscriptTail e (.Slice none none (some (.UnaryOp .USub (.Constant (.int 1) k p1) p2)) p3) (.ref a) (.ref s4.heap.objs.size)) (EP X pins σ Q) X.xe { s4 with heap := s4.heap.push { cls := .type "slice", data := .fields #[.none, .none, vs] } }
  refine tail_any (ops := [.ref a, .ref s4.heap.objs.size]) ht.typeIs PyProof.Rows.slot_tuple_getitem.lookup ?_ (by with_unfolding_all rfl)
  refine getItem_tuple_rev ht (Heap.IsSliceOf.new _ .none .none vs) ps ?_ (by rw [List.size_toArray]; omega)
  refine ⟨.ref _, _, I5.laid (t' := s4.toks) (o := .tup xs.reverse) (fun b ob q => Heap.get?_push_of_some _ q) (Nat.le_refl _) ?_, rfl, q _ (I5.hok.fresh (Nat.le_refl _))⟩
  exact ⟨by rw [List.length_reverse]; exact hz, _, r.reverse, IsTup.new _ _⟩
section
variable {c : Ct} {X : Cx}
def dRevT (de : DE) : DE := fun S Q => de S fun x S1 => ∃ l, x = .tup l ∧ Q (.tup l.reverse) S1
theorem pd_revT {e : Expr} {de : DE} {k : Nat} {p1 p2 p3 pos : Pos} (he : PDE c X e de) : PDE c X (.Subscript e (.Slice none none (some (.UnaryOp .USub (.Constant (.int 1) k p1) p2)) p3) pos) (dRevT de) := by
  obtain ⟨te, e1, e2⟩ := he
  refine ⟨_, pe_revT e1, fun σ G H S Qd Q R hQ h => ?_⟩
  refine e2 σ G H S _ _ R (fun v H1 ⟨G1, S1, d, A, r, q⟩ => ?_) h
  obtain ⟨l, e, q⟩ := q
  subst e
  cases r with
  | @tup a xs ds hr ra =>
    refine ⟨a, xs, rfl, sqT_sub A.rp.sub hr, fun p np => ?_⟩
    have g : Gw c.T 0 G1 H1 _ _ := .alloc (o := .tup xs.reverse) A.rp.sub np
    exact hQ _ _ ⟨_, S1, _, A.trans (Aft.gw0 A.rp g), .tup (SqT.of upd_same) (ra.reverse.up g.le (Nat.le_refl _)), q⟩
end
end DL
set_option maxHeartbeats 4000000
namespace DL
open PySem PySem.Spec PyProof.Rows L2
/-! ### tuple * 1 -/
theorem tuple_mul1 (l : Addr) (items : Array Value) (n : Nat) (dd : Option Addr) (sl : Array (Option Value)) (u : Tok) :
    Meets (Builtin.«tuple.__mul__» ⟨[.ref l, .int 1 u], []⟩) (fun _ R s => s.heap.get? l = some { cls := .type "tuple", dict := dd, data := .seq items n, slots := sl } ∧ R (.ok (.ret (Value.ref l))) s) :=
  .of_wp fun prog w A R s h => by
    obtain ⟨hp, g, d, tk, os⟩ := s
    obtain ⟨hl, h⟩ := h
    have f1 := AutoSeq1.idx_int
    wp_walk using AutoSeq1.wpAny_loadPart' hl
    all_goals first
      | exact ⟨_, rfl, h⟩
      | (simp; done)
      | skip
def rRep1 (K : PySem.W.Frag) : R2 := fun x y H Q => ∃ l xs, x = .ref l ∧ y = .int 1 ∧ SqT K H l xs ∧ Q (.ref l) H
theorem op_rep1 {X : Cx} : OpR X (binaryOp .Mult) (rRep1 X.K) := by
  intro pins s σ H x y v u Q I rx ry h
  obtain ⟨l, xs, rfl, rfl, hT, q⟩ := h
  cases rx
  obtain ⟨t, rfl⟩ := ry
  obtain ⟨its, r, ⟨⟨cls, dd, data, sl⟩, ho, hc, n, hd⟩, hs⟩ := I.tuple hT
  simp only at hc hd
  subst hc hd
  refine wpAny_binaryOp_repeat_ref (T := "tuple") (U := "int") (by decide) ⟨_, ho, rfl⟩ (fun s' => typeIs_int s' 1 t) noFill_tuple_mul F.fills_int_mul F.slot_int_rmul repeat_tuple F.slot_int_index.lookup
    (call_meets F.slot_int_rmul (typeIs_int s 1 t) F.entry_int_rmul (F.args_int_rmul_2 _ _) (int_rmul_tuple 1 t l its.toArray n dd sl)
      ⟨ho, rfl, ⟨_, ho, rfl⟩, call_meets F.slot_tuple_mul ⟨_, ho, rfl⟩ F.entry_tuple_mul (F.args_tuple_mul_2 _ _) (tuple_mul1 l its.toArray n dd sl t) ⟨ho, ?_⟩⟩)
  exact ⟨.ref l, H, I, rfl, q⟩
def gMulT1 : D → D → Option D
  | .tup a, .int k => if k = 1 then some (.tup a) else none
  | _, _ => none
section
variable {c : Ct} {X : Cx}
theorem od_mulT1 : OpD c X (binaryOp .Mult) gMulT1 := ⟨_, op_rep1, fun G H n x y dx dy z Q s rx ry q hq => by
  unfold gMulT1 at q
  split at q
  · split at q
    · rename_i hk
      subst hk
      cases q
      cases rx with
      | @tup p1 xs ds1 t1 a1 =>
        cases ry
        exact ⟨p1, xs, rfl, rfl, sqT_sub s t1, hq _ G H (.refl s) (.tup t1 a1)⟩
    · cases q
  · cases q⟩
def gMulT2 : D → D → Option D := fun x y => (gMulT x y).or (gMulT1 x y)
theorem od_mulT2 : OpD c X (binaryOp .Mult) gMulT2 := OpD.or od_mulT od_mulT1 fun x y z h => by
  unfold gMulT2 at h
  cases e : gMulT x y with
  | none => rw [e] at h; exact .inr h
  | some w => rw [e] at h; exact .inl h
theorem gMulT2_eq {a : List D} {k : Int} (ha : a ≠ []) (h1 : 1 ≤ k) (h2 : k ≤ 1000) (h3 : a.length ≤ 1000) : gMulT2 (.tup a) (.int k) = some (.tup (List.replicate k.toNat a).flatten) := by
  unfold gMulT2 gMulT gMulT1
  by_cases e : k = 1
  · subst e
    simp
  · have e2 : a ≠ [] ∧ 2 ≤ k ∧ k ≤ 1000 ∧ a.length ≤ 1000 := ⟨ha, by omega, h2, h3⟩
    simp [e2]
end
end DL
set_option maxHeartbeats 1000000
namespace DL
open PySem PySem.Spec PyProof.Rows L2
/-! ### words on data, unfolded -/
theorem w_ite {α : Type} {p : Prop} [Decidable p] {x : α} {Q : α → Prop} : (∃ z, (if p then some x else none) = some z ∧ Q z) ↔ p ∧ Q x := by
  constructor
  · rintro ⟨z, h, q⟩
    split at h
    · cases h
      exact ⟨by assumption, q⟩
    · cases h
  · rintro ⟨h, q⟩
    exact ⟨x, if_pos h, q⟩
theorem w_iteA {α : Type} {p : Prop} [Decidable p] {x : α} {Q : α → Prop} : (∃ z, (if p then some x else none) = some z ∧ Q z) = (p ∧ Q x) := propext w_ite
theorem w_some {α : Type} {x : α} {Q : α → Prop} : (∃ z, some x = some z ∧ Q z) = Q x := by
  apply propext
  constructor
  · rintro ⟨z, h, q⟩
    cases h
    exact q
  · intro q
    exact ⟨x, rfl, q⟩
theorem w_none {α : Type} {Q : α → Prop} : (∃ z, (none : Option α) = some z ∧ Q z) = False := by
  apply propext
  constructor
  · rintro ⟨z, h, q⟩
    cases h
  · exact False.elim
theorem w_bl {b : Bool} {Q : Bool → Prop} : (∃ k, D.bl b = .bl k ∧ Q k) = Q b := by
  apply propext
  constructor
  · rintro ⟨z, h, q⟩
    cases h
    exact q
  · intro q
    exact ⟨b, rfl, q⟩
theorem w_bl2 {b : Bool} {Q : Bool → Prop} : (∃ k, some (D.bl b) = some (.bl k) ∧ Q k) = Q b := by
  apply propext
  constructor
  · rintro ⟨z, h, q⟩
    cases h
    exact q
  · intro q
    exact ⟨b, rfl, q⟩
theorem w_int {i : Int} {Q : Int → Prop} : (∃ k, D.int i = .int k ∧ Q k) = Q i := by
  apply propext
  constructor
  · rintro ⟨z, h, q⟩
    cases h
    exact q
  · intro q
    exact ⟨i, rfl, q⟩
theorem w_lst {l : List D} {Q : List D → Prop} : (∃ k, D.lst l = .lst k ∧ Q k) = Q l := by
  apply propext
  constructor
  · rintro ⟨z, h, q⟩
    cases h
    exact q
  · intro q
    exact ⟨l, rfl, q⟩
theorem w_tup {l : List D} {Q : List D → Prop} : (∃ k, D.tup l = .tup k ∧ Q k) = Q l := by
  apply propext
  constructor
  · rintro ⟨z, h, q⟩
    cases h
    exact q
  · intro q
    exact ⟨l, rfl, q⟩
theorem w_eq {α : Type} {x : α} {Q : α → Prop} : (∃ k, x = k ∧ Q k) = Q x := by
  apply propext
  constructor
  · rintro ⟨z, h, q⟩
    cases h
    exact q
  · intro q
    exact ⟨x, rfl, q⟩
theorem w_g2I {p : Int → Int → Bool} {f : Int → Int → D} {i j : Int} : g2I p f (.int i) (.int j) = if p i j = true then some (f i j) else none := rfl
theorem w_g2T {f : Int → Int → D} {i j : Int} : g2I bTrue f (.int i) (.int j) = some (f i j) := rfl
theorem w_addI {i j : Int} : gAdd (.int i) (.int j) = some (.int (i + j)) := rfl
theorem w_addL {a b : List D} : gAdd (.lst a) (.lst b) = if a.length + b.length ≤ 16777216 then some (.lst (a ++ b)) else none := rfl
theorem w_addT {a b : List D} : gAdd (.tup a) (.tup b) = if a.length + b.length ≤ 16777216 then some (.tup (a ++ b)) else none := rfl
theorem w_addS {a b : Str} : gAdd (.str a) (.str b) = if a.length + b.length ≤ 16777216 then some (.str (a ++ b)) else none := rfl
theorem w_mul {i j : Int} : gMul (.int i) (.int j) = if bMul i j = true then some (.int (i * j)) else none := rfl
theorem w_mulL {i j : Int} (h : -(2 ^ 64) < i ∧ i < 2 ^ 64) : gMul (.int i) (.int j) = some (.int (i * j)) := by
  rw [w_mul, if_pos]
  unfold bMul
  simp only [Bool.or_eq_true, Bool.and_eq_true, decide_eq_true_eq]
  exact .inl h
theorem w_mulR {i j : Int} (h : -(2 ^ 64) < j ∧ j < 2 ^ 64) : gMul (.int i) (.int j) = some (.int (i * j)) := by
  rw [w_mul, if_pos]
  unfold bMul
  simp only [Bool.or_eq_true, Bool.and_eq_true, decide_eq_true_eq]
  exact .inr h
theorem w_mod {f : Int → Int → D} {i j : Int} (h : 0 < j) : g2I (fun _ j => decide (0 < j)) f (.int i) (.int j) = some (f i j) := by
  rw [w_g2I, if_pos (decide_eq_true h)]
theorem w_div {f : Int → Int → D} {i j : Int} (h : 0 < j) (h2 : j < 1073741824) : g2I bDiv f (.int i) (.int j) = some (f i j) := by
  rw [w_g2I, if_pos (by unfold bDiv; rw [decide_eq_true h, decide_eq_true h2]; rfl)]
theorem w_lenT {l : List D} : gLen [.tup l] = some (.int l.length) := rfl
theorem w_lenL {l : List D} : gLen [.lst l] = some (.int l.length) := rfl
theorem w_intI {i : Int} : gInt [.int i] = some (.int i) := rfl
theorem w_intB {b : Bool} : gInt [.bl b] = some (.int (if b then 1 else 0)) := rfl
theorem w_all {l : List Bool} : gAll [.lst (l.map .bl)] = some (.bl (l.all id)) := by
  show (blsOf (l.map .bl)).map (fun bs => D.bl (bs.all id)) = _
  rw [blsOf_map]
  rfl
/-- of a known type -/
def D.isv : D → Bool
  | .fn _ => false
  | .ty _ => false
  | .dice => false
  | .dn _ => false
  | _ => true
def D.isInt : D → Bool
  | .int _ => true
  | .bl _ => true
  | _ => false
def D.isBl : D → Bool
  | .bl _ => true
  | _ => false
def D.isTup : D → Bool
  | .tup _ => true
  | _ => false
def D.isStr : D → Bool
  | .str _ => true
  | _ => false
theorem w_isInt {d : D} (h : d.isv = true) : gIsi [d, .ty "int"] = some (.bl d.isInt) := by
  cases d <;> first | (cases h; done) | simp [gIsi, D.isTy, D.isInt]
theorem w_isBl {d : D} (h : d.isv = true) : gIsi [d, .ty "bool"] = some (.bl d.isBl) := by
  cases d <;> first | (cases h; done) | simp [gIsi, D.isTy, D.isBl]
theorem w_isTup {d : D} (h : d.isv = true) : gIsi [d, .ty "tuple"] = some (.bl d.isTup) := by
  cases d <;> first | (cases h; done) | simp [gIsi, D.isTy, D.isTup]
theorem w_isStr {d : D} (h : d.isv = true) : gIsi [d, .ty "str"] = some (.bl d.isStr) := by
  cases d <;> first | (cases h; done) | simp [gIsi, D.isTy, D.isStr]
theorem w_inI {neg : Bool} {i : Int} {ns : List Int} : gInI neg (.int i) (.tup (ns.map .int)) = some (.bl (if neg then !decide (i ∈ ns) else decide (i ∈ ns))) := by
  show (match (some (ns.map D.int)).bind intsOf with | some ns => some (D.bl (if neg then !decide (i ∈ ns) else decide (i ∈ ns))) | none => none) = _
  rw [Option.bind_some, intsOf_map]
theorem w_inL {neg : Bool} {i : Int} {ns : List Int} : gInI neg (.int i) (.lst (ns.map .int)) = some (.bl (if neg then !decide (i ∈ ns) else decide (i ∈ ns))) := by
  show (match (some (ns.map D.int)).bind intsOf with | some ns => some (D.bl (if neg then !decide (i ∈ ns) else decide (i ∈ ns))) | none => none) = _
  rw [Option.bind_some, intsOf_map]
theorem w_all1 {i : Nat} {p : Nat → Prop} : (∀ v ∈ [i], p v) = p i := by
  apply propext
  exact ⟨fun h => h i (by simp), fun h v hv => by rw [List.mem_singleton.mp hv]; exact h⟩
theorem w_all2 {i j : Nat} {p : Nat → Prop} : (∀ v ∈ [i, j], p v) = (p i ∧ p j) := by
  apply propext
  exact ⟨fun h => ⟨h i (by simp), h j (by simp)⟩, fun h v hv => by
    rcases (show v = i ∨ v = j by simpa using hv) with e | e
    · rw [e]; exact h.1
    · rw [e]; exact h.2⟩
theorem w_own0 : (ownB (some none) = false) = True := propext ⟨fun _ => trivial, fun _ => rfl⟩
theorem w_ownP {d : D} : (ownB (some (some (.p d))) = false) = True := propext ⟨fun _ => trivial, fun _ => rfl⟩
/-! ### comprehensions of what is looked at one by one -/
theorem comp_spec {gd : D → Option (List (Nat × D))} {dt : DT} {de : DE} {sl0 : List (Option SV)} {Q : List D → Nat → Prop} (f : D → Option D) {n : Nat} : ∀ (items acc : List D),
    (∀ d ∈ items, ∃ l, gd d = some l ∧ ∀ K : Option D → Nat → Prop, K (f d) n → dt ⟨setsD sl0 l, n⟩ fun b S2 => S2.sl = setsD sl0 l ∧ if b = true then de S2 fun y S3 => S3.sl = setsD sl0 l ∧ K (some y) S3.n else K none S2.n) →
    acc.length + items.length ≤ 16777216 → Q (acc ++ items.filterMap f) n → dComp gd dt de sl0 items acc n Q
  | [], acc, _, _, q => by
    show Q acc n
    simpa using q
  | d :: items, acc, h, hz, q => by
    obtain ⟨l, e, hl⟩ := h d List.mem_cons_self
    have hz' : acc.length + (items.length + 1) ≤ 16777216 := hz
    refine ⟨by omega, l, e, hl (fun o n' => match o with | some y => dComp gd dt de sl0 items (acc ++ [y]) n' Q | none => dComp gd dt de sl0 items acc n' Q) ?_⟩
    have hr : ∀ d ∈ items, ∃ l, gd d = some l ∧ ∀ K : Option D → Nat → Prop, K (f d) n → dt ⟨setsD sl0 l, n⟩ fun b S2 => S2.sl = setsD sl0 l ∧ if b = true then de S2 fun y S3 => S3.sl = setsD sl0 l ∧ K (some y) S3.n else K none S2.n := fun d' hd => h d' (List.mem_cons_of_mem _ hd)
    cases ef : f d with
    | none =>
      rw [List.filterMap_cons, ef] at q
      exact comp_spec f items acc hr (by omega) q
    | some y =>
      rw [List.filterMap_cons, ef] at q
      exact comp_spec f items (acc ++ [y]) hr (by rw [List.length_append]; simp; omega) (by rw [List.append_assoc]; exact q)
/-- ints from lo on -/
theorem rgD_len (lo : Int) (n : Nat) : (rgD lo n).length = n := by simp [rgD]
theorem rgD_mem {lo : Int} {n : Nat} {d : D} (h : d ∈ rgD lo n) : ∃ k : Nat, k < n ∧ d = .int (lo + k) := by
  unfold rgD at h
  obtain ⟨k, hk, e⟩ := List.mem_map.mp h
  exact ⟨k, List.mem_range.mp hk, e.symm⟩
theorem rgD_map {α : Type} (f : D → α) (lo : Int) (n : Nat) : (rgD lo n).map f = (List.range n).map fun k => f (.int (lo + (k : Nat))) := by
  unfold rgD
  rw [List.map_map]
  rfl
theorem rgD_fm {α : Type} (f : D → Option α) (lo : Int) (n : Nat) : (rgD lo n).filterMap f = (List.range n).filterMap fun k => f (.int (lo + (k : Nat))) := by
  unfold rgD
  rw [List.filterMap_map]
  rfl
theorem fm_map {α β : Type} (f : α → β) (l : List α) : l.filterMap (fun x => some (f x)) = l.map f := by
  rw [← List.filterMap_eq_map]
  rfl
/-! ### calls of one of several -/
def fsL : List (Str × MT) → Str → MT
  | [], _ => fun _ _ _ _ => False
  | (x, m) :: r, y => if y = x then m else fsL r y
theorem can_nil {P : Program} {w : World} {K : PySem.W.Frag} {mg : MG} {base : Heap} {T : TT0} {CX : CXT} {k np : Nat} {ks : List Str} {perm : List (Bool × Nat)} : ∀ y ∈ ([] : List Str), CanK P w K mg base T CX k y np ks perm (fsL [] y) := fun y h => absurd h List.not_mem_nil
theorem can_cons {P : Program} {w : World} {K : PySem.W.Frag} {mg : MG} {base : Heap} {T : TT0} {CX : CXT} {k np : Nat} {ks : List Str} {perm : List (Bool × Nat)} {x : Str} {m : MT} {r : List (Str × MT)} {xs : List Str} (h : CanK P w K mg base T CX k x np ks perm m)
    (hr : ∀ y ∈ xs, CanK P w K mg base T CX k y np ks perm (fsL r y)) : ∀ y ∈ x :: xs, CanK P w K mg base T CX k y np ks perm (fsL ((x, m) :: r) y) := fun y hy => by
  unfold fsL
  by_cases e : y = x
  · rw [if_pos e, e]
    exact h
  · rw [if_neg e]
    exact hr y ((List.mem_cons.mp hy).resolve_left e)
end DL
set_option maxHeartbeats 1000000
namespace DL
open PySem PySem.Spec PyProof.Rows L2
/-! ### data that may be compared -/
structure Ok (k : Nat) (d : D) : Prop where
  plain : d.plain = true
  lay : d.py.canLay0 = true
  dep : d.py.depth ≤ k
theorem Ok.ok {k : Nat} {d : D} (h : Ok k d) (hk : k ≤ 64) : d.ok = true := by
  unfold D.ok SeqAt.shaped
  have h2 : d.py.depth ≤ 64 := Nat.le_trans h.dep hk
  rw [h.plain, h.lay, decide_eq_true h2]
  rfl
theorem Ok.mono {j k : Nat} {d : D} (h : Ok j d) (hk : j ≤ k) : Ok k d := ⟨h.plain, h.lay, Nat.le_trans h.dep hk⟩
theorem Ok.non {k : Nat} : Ok k .non := ⟨rfl, by simp [D.py, PyData.canLay0], by simp [D.py, PyData.depth]⟩
theorem Ok.bl {k : Nat} (b : Bool) : Ok k (.bl b) := ⟨rfl, by simp [D.py, PyData.canLay0], by simp [D.py, PyData.depth]⟩
theorem Ok.int {k : Nat} (i : Int) : Ok k (.int i) := ⟨rfl, by simp [D.py, PyData.canLay0], by simp [D.py, PyData.depth]⟩
theorem ok_all {k : Nat} : ∀ {l : List D}, (∀ d ∈ l, Ok k d) → D.plains l = true ∧ PyData.canLayAll0 (D.pys l) = true ∧ PyData.depthAll (D.pys l) ≤ k
  | [], _ => ⟨rfl, by simp [D.pys, PyData.canLayAll0], by simp [D.pys, PyData.depthAll]⟩
  | d :: l, h => by
    obtain ⟨a, b, c⟩ := ok_all (l := l) fun x hx => h x (List.mem_cons_of_mem _ hx)
    have hd := h d List.mem_cons_self
    refine ⟨?_, ?_, ?_⟩
    · rw [D.plains, hd.plain, a]
      rfl
    · rw [D.pys, PyData.canLayAll0, hd.lay, b]
      rfl
    · rw [D.pys, PyData.depthAll]
      have := hd.dep
      omega
theorem Ok.tup {k : Nat} {l : List D} (h : ∀ d ∈ l, Ok k d) : Ok (k + 1) (.tup l) := by
  obtain ⟨a, b, c⟩ := ok_all h
  refine ⟨by rw [D.plain]; exact a, by rw [D.py, PyData.canLay0]; exact b, ?_⟩
  rw [D.py, PyData.depth]
  omega
theorem Ok.lst {k : Nat} {l : List D} (h : ∀ d ∈ l, Ok k d) : Ok (k + 1) (.lst l) := by
  obtain ⟨a, b, c⟩ := ok_all h
  refine ⟨by rw [D.plain]; exact a, by rw [D.py, PyData.canLay0]; exact b, ?_⟩
  rw [D.py, PyData.depth]
  omega
theorem Ok.ints {k : Nat} (l : List Int) : ∀ d ∈ l.map D.int, Ok k d := fun d hd => by
  obtain ⟨i, _, e⟩ := List.mem_map.mp hd
  rw [← e]
  exact .int i
theorem Ok.tupI (l : List Int) : Ok 1 (.tup (l.map .int)) := .tup (Ok.ints l)
theorem Ok.lstI (l : List Int) : Ok 1 (.lst (l.map .int)) := .lst (Ok.ints l)
theorem deq_refl {k : Nat} {d : D} (h : Ok k d) : deq d d = true := SeqAt.eqv_refl d.py h.lay
theorem deq_int {i j : Int} : deq (.int i) (.int j) = decide (i = j) := by
  unfold deq D.py PyData.eqv
  rw [Bool.eq_iff_iff]
  simp
theorem deq_bl {i j : Bool} : deq (.bl i) (.bl j) = decide (i = j) := by
  unfold deq D.py PyData.eqv
  rw [Bool.eq_iff_iff]
  simp
theorem eqv_ints : ∀ a b : List Int, PyData.eqvAll (D.pys (a.map .int)) (D.pys (b.map .int)) = decide (a = b)
  | [], [] => by simp [D.pys, PyData.eqvAll]
  | [], y :: b => by simp [D.pys, PyData.eqvAll]
  | x :: a, [] => by simp [D.pys, PyData.eqvAll]
  | x :: a, y :: b => by
    rw [List.map_cons, List.map_cons, D.pys, D.pys, PyData.eqvAll, eqv_ints a b, D.py, D.py, PyData.eqv]
    rw [Bool.eq_iff_iff]
    simp
theorem deq_tupI {a b : List Int} : deq (.tup (a.map .int)) (.tup (b.map .int)) = decide (a = b) := by
  unfold deq
  rw [D.py, D.py, PyData.eqv]
  exact eqv_ints a b
theorem deq_lstI {a b : List Int} : deq (.lst (a.map .int)) (.lst (b.map .int)) = decide (a = b) := by
  unfold deq
  rw [D.py, D.py, PyData.eqv]
  exact eqv_ints a b
theorem deq_lstN {a : List D} : deq (.lst a) (.lst []) = decide (a = []) := by
  unfold deq
  rw [D.py, D.py, PyData.eqv]
  cases a with
  | nil => simp [D.pys, PyData.eqvAll]
  | cons x a => simp [D.pys, PyData.eqvAll]
theorem w_eqI {i j : Int} : gEq (.int i) (.int j) = some (.bl (decide (i = j))) := by
  show (if D.ok (.int i) = true ∧ D.ok (.int j) = true then some (D.bl (deq (.int i) (.int j))) else none) = _
  rw [if_pos ⟨(Ok.int (k := 0) i).ok (by omega), (Ok.int (k := 0) j).ok (by omega)⟩, deq_int]
theorem w_neI {i j : Int} : gNe (.int i) (.int j) = some (.bl (!decide (i = j))) := by
  show (if D.ok (.int i) = true ∧ D.ok (.int j) = true then some (D.bl (!deq (.int i) (.int j))) else none) = _
  rw [if_pos ⟨(Ok.int (k := 0) i).ok (by omega), (Ok.int (k := 0) j).ok (by omega)⟩, deq_int]
theorem w_eqB {i j : Bool} : gEq (.bl i) (.bl j) = some (.bl (decide (i = j))) := by
  show (if D.ok (.bl i) = true ∧ D.ok (.bl j) = true then some (D.bl (deq (.bl i) (.bl j))) else none) = _
  rw [if_pos ⟨(Ok.bl (k := 0) i).ok (by omega), (Ok.bl (k := 0) j).ok (by omega)⟩, deq_bl]
theorem w_neB {i j : Bool} : gNe (.bl i) (.bl j) = some (.bl (!decide (i = j))) := by
  show (if D.ok (.bl i) = true ∧ D.ok (.bl j) = true then some (D.bl (!deq (.bl i) (.bl j))) else none) = _
  rw [if_pos ⟨(Ok.bl (k := 0) i).ok (by omega), (Ok.bl (k := 0) j).ok (by omega)⟩, deq_bl]
theorem w_eqL {k : Nat} {a : List D} (h : ∀ d ∈ a, Ok k d) (hk : k ≤ 63) : gEq (.lst a) (.lst []) = some (.bl (decide (a = []))) := by
  show (if D.ok (.lst a) = true ∧ D.ok (.lst []) = true then some (D.bl (deq (.lst a) (.lst []))) else none) = _
  rw [if_pos ⟨(Ok.lst h).ok (by omega), (Ok.lst (k := 0) (l := []) fun d hd => absurd hd List.not_mem_nil).ok (by omega)⟩, deq_lstN]
theorem w_neL {k : Nat} {a : List D} (h : ∀ d ∈ a, Ok k d) (hk : k ≤ 63) : gNe (.lst a) (.lst []) = some (.bl (!decide (a = []))) := by
  show (if D.ok (.lst a) = true ∧ D.ok (.lst []) = true then some (D.bl (!deq (.lst a) (.lst []))) else none) = _
  rw [if_pos ⟨(Ok.lst h).ok (by omega), (Ok.lst (k := 0) (l := []) fun d hd => absurd hd List.not_mem_nil).ok (by omega)⟩, deq_lstN]
/-- == of what is no text -/
theorem w_eqO {j k : Nat} {a b : D} (ha : Ok j a) (hb : Ok k b) (hj : j ≤ 64) (hk : k ≤ 64) (hs : a.isStr = false) : gEq a b = some (.bl (deq a b)) := by
  unfold gEq
  split
  · cases hs
  · rw [if_pos ⟨ha.ok hj, hb.ok hk⟩]
theorem w_neO {j k : Nat} {a b : D} (ha : Ok j a) (hb : Ok k b) (hj : j ≤ 64) (hk : k ≤ 64) (hs : a.isStr = false) : gNe a b = some (.bl (!deq a b)) := by
  unfold gNe
  split
  · cases hs
  · rw [if_pos ⟨ha.ok hj, hb.ok hk⟩]
/-! ### subscripts -/
theorem w_ixT {l : List D} {i : Int} : gIx (.tup l) (.int i) = atI l i := rfl
theorem w_ixL {l : List D} {i : Int} : gIx (.lst l) (.int i) = atI l i := rfl
theorem atI_nat {α : Type} {l : List α} {k : Nat} (h : k < l.length) : atI l (k : Int) = some l[k] := by
  unfold atI ixN
  rw [if_pos (by omega), if_pos (by omega)]
  simp [h]
theorem atI_at {α : Type} {l : List α} {i : Int} (h0 : 0 ≤ i) (h : i < l.length) : atI l i = l[i.toNat]? := by
  unfold atI ixN
  rw [if_pos h0, if_pos h]
  rfl
theorem atI_neg {α : Type} {l : List α} {i : Int} (h0 : i < 0) (h : -(l.length : Int) ≤ i) : atI l i = l[(i + l.length).toNat]? := by
  unfold atI ixN
  rw [if_neg (by omega), if_pos h]
  rfl
theorem ixN_at {n : Nat} {i : Int} (h0 : 0 ≤ i) (h : i < n) : ixN n i = some i.toNat := by
  unfold ixN
  rw [if_pos h0, if_pos h]
theorem cutD_map {α β : Type} (f : α → β) (l : List α) (lo hi : Option Int) : cutD (l.map f) lo hi = (cutD l lo hi).map f := by
  unfold cutD
  rw [List.length_map, List.map_take, List.map_drop]
theorem cutD_len {α : Type} (l : List α) (lo hi : Option Int) : (cutD l lo hi).length ≤ l.length := by
  unfold cutD
  rw [List.length_take, List.length_drop]
  omega
theorem w_slL {l : List D} {lo hi : Option Int} : gSl (.lst l) lo hi = some (.lst (cutD l lo hi)) := rfl
theorem w_slT {l : List D} {lo hi : Option Int} : gSl (.tup l) lo hi = some (.tup (cutD l lo hi)) := rfl
theorem ite_own {c : Prop} [Decidable c] {q P : D → Prop} {e : Int} (h1 : c → ∃ x : Int, q (.int x)) (key : ∀ own : Int, P (.int own)) : if c then (∃ z, q z ∧ P z) else P (.int e) := by
  by_cases h : c
  · rw [if_pos h]
    obtain ⟨x, hx⟩ := h1 h
    exact ⟨_, hx, key x⟩
  · rw [if_neg h]
    exact key e
theorem w_keyI {i : Int} : keyOf (.int i) = some (.inl i) := rfl
theorem w_keyS {x : Str} : keyOf (.str x) = some (.inr x) := rfl
theorem w_ex {α : Type} {x : α} : (∃ l, some x = some l) = True := propext ⟨fun _ => trivial, fun _ => ⟨x, rfl⟩⟩
theorem w_two {α β : Type} {a : α} {b : β} {p : α → β → Prop} : (∃ l ky, some a = some l ∧ some b = some ky ∧ p l ky) = p a b := by
  apply propext
  constructor
  · rintro ⟨l, ky, h1, h2, q⟩
    cases h1
    cases h2
    exact q
  · exact fun q => ⟨a, b, rfl, rfl, q⟩
theorem w_three {α β γ : Type} {a : α} {b : β} {p : α → β → γ → Prop} : (∃ l ky d, some a = some l ∧ some b = some ky ∧ p l ky d) = ∃ d, p a b d := by
  apply propext
  constructor
  · rintro ⟨l, ky, d, h1, h2, q⟩
    cases h1
    cases h2
    exact ⟨d, q⟩
  · rintro ⟨d, q⟩
    exact ⟨a, b, d, rfl, rfl, q⟩
/-! ### dicts of ints by ints -/
def sD (s : List (Int × Int)) : List (Key × D) := s.map fun p => (.inl p.1, .int p.2)
def sSet (s : List (Int × Int)) (x p : Int) : List (Int × Int) := s.map fun q => if q.1 = x then (q.1, p) else q
def sGet (s : List (Int × Int)) (x : Int) : Option Int := (s.find? fun q => decide (q.1 = x)).map (·.2)
theorem sGet_cons (q : Int × Int) (s : List (Int × Int)) (x : Int) : sGet (q :: s) x = if q.1 = x then some q.2 else sGet s x := by
  unfold sGet
  rw [List.find?_cons]
  by_cases h : q.1 = x
  · rw [if_pos h, decide_eq_true h]
    rfl
  · rw [if_neg h, decide_eq_false h]
theorem inl_inj {a b : Int} : ((Sum.inl a : Key) = .inl b) ↔ a = b := ⟨fun h => Sum.inl.inj h, fun h => by rw [h]⟩
theorem sD_look : ∀ (s : List (Int × Int)) (x : Int), lookD (sD s) (.inl x) = (sGet s x).map .int
  | [], x => rfl
  | q :: s, x => by
    rw [sGet_cons]
    have e : lookD (sD (q :: s)) (.inl x) = if q.1 = x then some (.int q.2) else lookD (sD s) (.inl x) := by
      unfold lookD sD
      rw [List.map_cons, List.find?_cons]
      by_cases h : q.1 = x
      · rw [if_pos h]
        simp [h]
      · rw [if_neg h]
        have h2 : ¬ ((Sum.inl q.1 : Key) = .inl x) := fun z => h (Sum.inl.inj z)
        simp [h2]
    rw [e, sD_look s x]
    split <;> rfl
theorem sD_any (s : List (Int × Int)) (x : Int) : ((sD s).any fun p => decide (p.1 = (Sum.inl x : Key))) = (sGet s x).isSome := by
  induction s with
  | nil => rfl
  | cons q s ih =>
    rw [sGet_cons]
    unfold sD at ih ⊢
    rw [List.map_cons, List.any_cons, ih]
    by_cases h : q.1 = x
    · rw [if_pos h]
      simp [h]
    · rw [if_neg h]
      have h2 : ¬ ((Sum.inl q.1 : Key) = .inl x) := fun z => h (Sum.inl.inj z)
      simp [h2]
theorem sD_put_old {s : List (Int × Int)} {x p y : Int} (h : sGet s x = some y) : putD (sD s) (.inl x) (.int p) = sD (sSet s x p) := by
  unfold putD
  rw [sD_any, h, if_pos (by rfl)]
  unfold sD sSet
  rw [List.map_map, List.map_map]
  apply List.map_congr_left
  intro q _
  by_cases e : q.1 = x
  · simp [e]
  · have h2 : ¬ ((Sum.inl q.1 : Key) = .inl x) := fun z => e (Sum.inl.inj z)
    simp [e, h2]
theorem sD_put_new {s : List (Int × Int)} {x p : Int} (h : sGet s x = none) : putD (sD s) (.inl x) (.int p) = sD (s ++ [(x, p)]) := by
  unfold putD
  rw [sD_any, h, if_neg (by simp)]
  unfold sD
  rw [List.map_append]
  rfl
theorem fsL_hd {x : Str} {m : MT} {r : List (Str × MT)} : fsL ((x, m) :: r) x = m := by
  unfold fsL
  rw [if_pos rfl]
theorem fsL_tl {x y : Str} {m : MT} {r : List (Str × MT)} (h : y ≠ x) : fsL ((x, m) :: r) y = fsL r y := by
  rw [fsL, if_neg h]
theorem w_fn {x : Str} {p : Str → Prop} : (∃ y, D.fn x = .fn y ∧ p y) = p x := by
  apply propext
  constructor
  · rintro ⟨y, h, q⟩
    cases h
    exact q
  · exact fun q => ⟨x, rfl, q⟩
theorem pick1 {a : D} {ws : List D} : pickG .non [(true, 0)] [a] ws = [a] := rfl
theorem pick2 {a b : D} {ws : List D} : pickG .non [(true, 0), (true, 1)] [a, b] ws = [a, b] := rfl
theorem pickK {a : D} {us : List D} : pickG .non [(false, 0)] us [a] = [a] := rfl
theorem pick1K {a b : D} : pickG .non [(true, 0), (false, 0)] [a] [b] = [a, b] := rfl
/-! ### ranges -/
def rgI (lo : Int) (n : Nat) : List Int := (List.range n).map fun k => lo + (k : Nat)
theorem rgD_eq (lo : Int) (n : Nat) : rgD lo n = (rgI lo n).map .int := by
  unfold rgD rgI
  rw [List.map_map]
  rfl
theorem rgI_mem {lo : Int} {n : Nat} {t : Int} : t ∈ rgI lo n ↔ lo ≤ t ∧ t < lo + n := by
  unfold rgI
  simp only [List.mem_map, List.mem_range]
  constructor
  · rintro ⟨k, hk, rfl⟩
    omega
  · rintro ⟨h1, h2⟩
    exact ⟨(t - lo).toNat, by omega, by omega⟩
theorem rgI_len (lo : Int) (n : Nat) : (rgI lo n).length = n := by simp [rgI]
/-! ### comprehensions over the images of plain things -/
theorem comp_on {α : Type} (c : α → D) (g : α → Option D) {gd : D → Option (List (Nat × D))} {dt : DT} {de : DE} {sl0 : List (Option SV)} {Q : List D → Nat → Prop} {n : Nat} : ∀ (xs : List α) (acc : List D),
    (∀ x ∈ xs, ∃ l, gd (c x) = some l ∧ ∀ K : Option D → Nat → Prop, K (g x) n → dt ⟨setsD sl0 l, n⟩ fun b S2 => S2.sl = setsD sl0 l ∧ if b = true then de S2 fun y S3 => S3.sl = setsD sl0 l ∧ K (some y) S3.n else K none S2.n) →
    acc.length + xs.length ≤ 16777216 → Q (acc ++ xs.filterMap g) n → dComp gd dt de sl0 (xs.map c) acc n Q
  | [], acc, _, _, q => by
    show Q acc n
    simpa using q
  | x :: xs, acc, h, hz, q => by
    obtain ⟨l, e, hl⟩ := h x List.mem_cons_self
    have hz' : acc.length + (xs.length + 1) ≤ 16777216 := hz
    refine ⟨by omega, l, e, hl (fun o n' => match o with | some y => dComp gd dt de sl0 (xs.map c) (acc ++ [y]) n' Q | none => dComp gd dt de sl0 (xs.map c) acc n' Q) ?_⟩
    have hr : ∀ x ∈ xs, ∃ l, gd (c x) = some l ∧ ∀ K : Option D → Nat → Prop, K (g x) n → dt ⟨setsD sl0 l, n⟩ fun b S2 => S2.sl = setsD sl0 l ∧ if b = true then de S2 fun y S3 => S3.sl = setsD sl0 l ∧ K (some y) S3.n else K none S2.n := fun x' hx => h x' (List.mem_cons_of_mem _ hx)
    cases ef : g x with
    | none =>
      rw [List.filterMap_cons, ef] at q
      exact comp_on c g xs acc hr (by omega) q
    | some y =>
      rw [List.filterMap_cons, ef] at q
      exact comp_on c g xs (acc ++ [y]) hr (by rw [List.length_append]; simp; omega) (by rw [List.append_assoc]; exact q)
theorem fm_filter {α β : Type} (p : α → Bool) (f : α → β) : ∀ l : List α, l.filterMap (fun x => if p x = true then some (f x) else none) = (l.filter p).map f
  | [] => rfl
  | x :: l => by
    rw [List.filterMap_cons, List.filter_cons]
    by_cases h : p x = true
    · rw [if_pos h, if_pos h, List.map_cons, fm_filter p f l]
    · rw [if_neg h, if_neg h, fm_filter p f l]
theorem w_in2 {neg : Bool} {i a b : Int} : gInI neg (.int i) (.tup [.int a, .int b]) = some (.bl (if neg then !decide (i ∈ [a, b]) else decide (i ∈ [a, b]))) := w_inI (ns := [a, b])
/-- [e for t in range(lo, hi)] -/
theorem comp_rg {lo hi : Int} (g : Int → D) {gd : D → Option (List (Nat × D))} {dt : DT} {de : DE} {sl0 : List (Option SV)} {Q : List D → Nat → Prop} {n : Nat}
    (h : ∀ t, lo ≤ t → t < hi → ∃ l, gd (.int t) = some l ∧ ∀ K : Option D → Nat → Prop, K (some (g t)) n → dt ⟨setsD sl0 l, n⟩ fun b S2 => S2.sl = setsD sl0 l ∧ if b = true then de S2 fun y S3 => S3.sl = setsD sl0 l ∧ K (some y) S3.n else K none S2.n)
    (hz : (hi - lo).toNat ≤ 16777216) (q : Q ((rgI lo (hi - lo).toNat).map g) n) : dComp gd dt de sl0 (rgD lo (hi - lo).toNat) [] n Q := by
  rw [rgD_eq]
  refine comp_on D.int (fun t => some (g t)) _ [] (fun t ht => h t (rgI_mem.mp ht).1 (by have h1 := (rgI_mem.mp ht).1; have h2 := (rgI_mem.mp ht).2; omega)) (by rw [rgI_len]; simpa using hz) ?_
  rw [fm_map]
  exact q
/-- [e for t in range(lo, hi) if p] -/
theorem comp_rgf {lo hi : Int} (p : Int → Bool) (g : Int → D) {gd : D → Option (List (Nat × D))} {dt : DT} {de : DE} {sl0 : List (Option SV)} {Q : List D → Nat → Prop} {n : Nat}
    (h : ∀ t, lo ≤ t → t < hi → ∃ l, gd (.int t) = some l ∧ ∀ K : Option D → Nat → Prop, K (if p t = true then some (g t) else none) n → dt ⟨setsD sl0 l, n⟩ fun b S2 => S2.sl = setsD sl0 l ∧ if b = true then de S2 fun y S3 => S3.sl = setsD sl0 l ∧ K (some y) S3.n else K none S2.n)
    (hz : (hi - lo).toNat ≤ 16777216) (q : Q (((rgI lo (hi - lo).toNat).filter p).map g) n) : dComp gd dt de sl0 (rgD lo (hi - lo).toNat) [] n Q := by
  rw [rgD_eq]
  refine comp_on D.int (fun t => if p t = true then some (g t) else none) _ [] (fun t ht => h t (rgI_mem.mp ht).1 (by have h1 := (rgI_mem.mp ht).1; have h2 := (rgI_mem.mp ht).2; omega)) (by rw [rgI_len]; simpa using hz) ?_
  rw [fm_filter]
  exact q
theorem w_cons {a : D} {l : List D} {p : D → List D → Prop} : (∃ d r, a :: l = d :: r ∧ p d r) = p a l := by
  apply propext
  constructor
  · rintro ⟨d, r, h, q⟩
    cases h
    exact q
  · exact fun q => ⟨a, l, rfl, q⟩
theorem w_set {x : List D} {a : Int} {p : List D → Int → Nat → Prop} : (∃ (l : List D) (ix : Int) (j : Nat), some x = some l ∧ D.int a = D.int ix ∧ p l ix j) = ∃ j, p x a j := by
  apply propext
  constructor
  · rintro ⟨l, ix, j, h1, h2, q⟩
    cases h1
    cases h2
    exact ⟨j, q⟩
  · rintro ⟨j, q⟩
    exact ⟨x, a, j, rfl, rfl, q⟩
theorem w_lrange {lo hi : Int} {p : Int → Int → Prop} : (∃ i j, [D.int lo, D.int hi] = [D.int i, D.int j] ∧ p i j) = p lo hi := by
  apply propext
  constructor
  · rintro ⟨i, j, h, q⟩
    cases h
    exact q
  · exact fun q => ⟨lo, hi, rfl, q⟩
theorem w_lrange1 {hi : Int} {p : Int → Prop} : (∃ j, [D.int hi] = [D.int j] ∧ p j) = p hi := by
  apply propext
  constructor
  · rintro ⟨j, h, q⟩
    cases h
    exact q
  · exact fun q => ⟨hi, rfl, q⟩
theorem w_ltup {x : List D} {p : List D → Prop} : (∃ l, [D.tup x] = [D.tup l] ∧ p l) = p x := by
  apply propext
  constructor
  · rintro ⟨j, h, q⟩
    cases h
    exact q
  · exact fun q => ⟨x, rfl, q⟩
theorem w_llst {x : List D} {p : List D → Prop} : (∃ l, [D.lst x] = [D.lst l] ∧ p l) = p x := by
  apply propext
  constructor
  · rintro ⟨j, h, q⟩
    cases h
    exact q
  · exact fun q => ⟨x, rfl, q⟩
theorem w_par {a b : D} {p : D → D → Prop} : (∃ x y, [a, b] = [x, y] ∧ p x y) = p a b := by
  apply propext
  constructor
  · rintro ⟨x, y, h, q⟩
    cases h
    exact q
  · exact fun q => ⟨a, b, rfl, q⟩
theorem w_par3 {a b d : D} {p : D → D → D → Prop} : (∃ x y z, [a, b, d] = [x, y, z] ∧ p x y z) = p a b d := by
  apply propext
  constructor
  · rintro ⟨x, y, z, h, q⟩
    cases h
    exact q
  · exact fun q => ⟨a, b, d, rfl, q⟩
theorem w_tupL {l : List D} : gTupleF [.lst l] = some (.tup l) := rfl
theorem w_tupT {l : List D} : gTupleF [.tup l] = some (.tup l) := rfl
theorem w_listL {l : List D} : gListF [.lst l] = some (.lst l) := rfl
theorem w_listT {l : List D} : gListF [.tup l] = some (.lst l) := rfl
/-! ### loops -/
theorem loop_inv {α : Type} (c : α → D) {g : DG} {tb : DSt} {B : DEnds} (I : List α → DS → Prop)
    (step : ∀ x xs S, I (x :: xs) S → ∀ K : DS → Prop, (∀ S2, I xs S2 → K S2) → g (c x) S fun S1 => tb { nx := K, rt := B.rt, bk := B.nx, ct := K } S1) (fin : ∀ S, I [] S → B.nx S) :
    ∀ (xs : List α) (S : DS), I xs S → dLoop g tb (xs.map c) B S
  | [], S, h => fin S h
  | x :: xs, S, h => step x xs S h (fun S2 => dLoop g tb (xs.map c) B S2) fun S2 h2 => loop_inv c I step fin xs S2 h2
end DL
set_option maxHeartbeats 1000000
namespace DL
open PySem PySem.Spec PyProof.Rows L2
/-- a comprehension that keeps nothing, its test eats fuel -/
theorem comp_none {α : Type} (c : α → D) (I : List α → Nat → Prop) {gd : D → Option (List (Nat × D))} {dt : DT} {de : DE} {sl0 : List (Option SV)} {Q : List D → Nat → Prop} {acc : List D} (ha : acc.length < 16777216)
    (step : ∀ x xs n, I (x :: xs) n → ∃ l, gd (c x) = some l ∧ ∀ (K : Nat → Prop) (K2 : DS → Prop), (∀ n', I xs n' → K n') → dt ⟨setsD sl0 l, n⟩ fun b S2 => S2.sl = setsD sl0 l ∧ if b = true then K2 S2 else K S2.n)
    (fin : ∀ n, I [] n → Q acc n) : ∀ (xs : List α) (n : Nat), I xs n → dComp gd dt de sl0 (xs.map c) acc n Q
  | [], n, h => fin n h
  | x :: xs, n, h => by
    obtain ⟨l, e, hl⟩ := step x xs n h
    exact ⟨ha, l, e, hl (fun n' => dComp gd dt de sl0 (xs.map c) acc n' Q) _ fun n' h' => comp_none c I ha step fin xs n' h'⟩
end DL
set_option maxHeartbeats 1000000
namespace DL
open PySem PySem.Spec PyProof.Rows L2
/-! ### sorted, max of ints, list(range) -/
section
variable {c : Ct} {X : Cx} {a b e : Expr} {es : List Expr} {da db : DE} {ds : DA} {p p2 pos : Pos}
def dSortI (t : DA) : DE := fun S Q => t S fun xs S1 => ∃ ns : List Int, xs = [.lst (ns.map .int)] ∧ ∀ ns' : List Int, ns'.Perm ns → ns'.Pairwise (· ≤ ·) → Q (.lst (ns'.map .int)) S1
theorem pd_sorted {x : Str} (hg : Gl X x) (hm : X.mg x = none) (hv : bootBuiltins x = some (.builtin "sorted")) (ha : PDA c X (a :: es) ds) (hn : x ≠ "__name__" := by decide) (hdb : (x == ("__debug__" : Str)) = false := by decide)
    (he : starEach (a :: es) X.env = (false, eval a X.env) :: starEach es X.env := by rfl) (hpl : (backTo pos (starEach es X.env)).any (·.1) = false := by rfl) : PDE c X (.Call (.Name x p) (a :: es) [] pos) (dSortI ds) := by
  obtain ⟨ta, a1, a2⟩ := ha
  refine ⟨_, pe_callB cr_sortedI hg hm hv a1 hn hdb he hpl, fun σ G H S Qd Q R hQ h => ?_⟩
  refine a2 σ G H S _ _ R (fun vs H1 ⟨G1, S1, dx, A1, r1, h1⟩ => ?_) h
  obtain ⟨ns, e1, h1⟩ := h1
  subst e1
  obtain ⟨v, ev, rv⟩ := rep1 r1
  subst ev
  cases rv with
  | @lst a zs _ hs ra =>
    have ez := RepAll.ints_inv ra
    subst ez
    refine ⟨a, ns, rfl, sqL_sub A1.rp.sub hs, fun ns' q hp hw np => ?_⟩
    have A2 := Aft.gw0 A1.rp (.alloc (o := .lst (ns'.map V.int)) A1.rp.sub np)
    exact hQ _ _ ⟨_, S1, _, A1.trans A2, .lst (.inl (.inl upd_same)) (RepAll.ints ns'), h1 ns' hp hw⟩
def dMaxI (t : DA) : DE := fun S Q => t S fun xs S1 => ∃ ns : List Int, xs = [.lst (ns.map .int)] ∧ 0 < ns.length ∧ ∀ m, m ∈ ns → (∀ y, y ∈ ns → y ≤ m) → Q (.int m) S1
theorem pd_maxL {x : Str} (hc : X.calm = true) (hg : Gl X x) (hm : X.mg x = none) (hv : bootBuiltins x = some (.builtin "max")) (ha : PDA c X (a :: es) ds) (hn : x ≠ "__name__" := by decide) (hdb : (x == ("__debug__" : Str)) = false := by decide)
    (he : starEach (a :: es) X.env = (false, eval a X.env) :: starEach es X.env := by rfl) (hpl : (backTo pos (starEach es X.env)).any (·.1) = false := by rfl) : PDE c X (.Call (.Name x p) (a :: es) [] pos) (dMaxI ds) := by
  obtain ⟨ta, a1, a2⟩ := ha
  refine ⟨_, pe_callB (cr_max hc) hg hm hv a1 hn hdb he hpl, fun σ G H S Qd Q R hQ h => ?_⟩
  refine a2 σ G H S _ _ R (fun vs H1 ⟨G1, S1, dx, A1, r1, h1⟩ => ?_) h
  obtain ⟨ns, e1, hl, h1⟩ := h1
  subst e1
  obtain ⟨v, ev, rv⟩ := rep1 r1
  subst ev
  cases rv with
  | @lst a zs _ hs ra =>
    have ez := RepAll.ints_inv ra
    subst ez
    refine ⟨a, ns, rfl, sqL_sub A1.rp.sub hs, hl, fun m h2 h3 => ?_⟩
    exact hQ _ _ ⟨_, S1, _, A1, .int m, h1 m h2 h3⟩
def dLstRg (da db : DE) : DE := fun S Q => da S fun x S1 => db S1 fun y S2 => ∃ i j, x = .int i ∧ y = .int j ∧ bSm i ∧ bSm j ∧ (j - i).toNat ≤ 16777216 ∧ Q (.lst (rgD i (j - i).toNat)) S2
theorem rgV_rep {K : PySem.W.Frag} {mg : MG} {G : Hp} {n : Nat} (i j : Int) : RepAll K mg G n (rgV i j) (rgD i (j - i).toNat) := by
  have e1 : rgV i j = ((List.range (j - i).toNat).map fun k : Nat => i + (k : Int)).map V.int := by
    unfold rgV
    rw [List.map_map]
    rfl
  have e2 : rgD i (j - i).toNat = ((List.range (j - i).toNat).map fun k : Nat => i + (k : Int)).map D.int := by
    unfold rgD
    rw [List.map_map]
    rfl
  rw [e1, e2]
  exact RepAll.ints _
theorem pd_listRg2 (hc : X.calm = true) (hg : Gl X "list") (hm : X.mg "list" = none) (hg2 : Gl X "range") (hm2 : X.mg "range" = none) {q2 : Pos} (ha : PDE c X a da) (hb : PDE c X b db)
    (na : starEach [a, b] X.env = (false, eval a X.env) :: starEach [b] X.env := by rfl) (nb : starEach [b] X.env = (false, eval b X.env) :: starEach [] X.env := by rfl) (hp : (backTo q2 (starEach [b] X.env)).any (·.1) = false := by rfl)
    (nl : starEach [.Call (.Name "range" p2) [a, b] [] q2] X.env = (false, eval (.Call (.Name "range" p2) [a, b] [] q2) X.env) :: starEach [] X.env := by rfl) :
    PDE c X (.Call (.Name "list" p) [.Call (.Name "range" p2) [a, b] [] q2] [] pos) (dLstRg da db) := by
  obtain ⟨ta, a1, a2⟩ := ha
  obtain ⟨tb, b1, b2⟩ := hb
  refine ⟨_, pe_listRg hc hg hm (prg_2 hg2 hm2 a1 b1 na nb hp) nl, fun σ G H S Qd Q R hQ h => ?_⟩
  refine a2 σ G H S _ _ R (fun v H1 ⟨G1, S1, dx, A1, r1, h1⟩ => ?_) h
  refine b2 σ G1 H1 S1 _ _ A1.rp (fun u H2 ⟨G2, S2, dy, A2, r2, h2⟩ => ?_) h1
  obtain ⟨i, j, e1, e2, k1, k2, k3, h2⟩ := h2
  subst e1 e2
  cases r1
  cases r2
  refine ⟨i, j, rfl, rfl, ⟨k1.1, k1.2, k2.1, k2.2, k3⟩, fun q nq => ?_⟩
  have A3 := Aft.gw0 A2.rp (.alloc (o := .lst (rgV i j)) A2.rp.sub nq)
  exact hQ _ _ ⟨_, S2, _, (A1.trans A2).trans A3, .lst (.inl (.inl upd_same)) (rgV_rep i j), h2⟩
end
end DL
set_option maxHeartbeats 1000000
namespace DL
open PySem PySem.Spec PyProof.Rows L2
/-! ### how many there are, each once -/
def dst (ns : List Int) : Nat := (PyProof.Rows.firstMet (fun i => ns.getD i 0) ns.length).length
theorem ints_of : ∀ {ns : List Int} {us : List Value}, Vals (ns.map V.int) us → PyProof.Rows.IntsAre us ns
  | [], _, .nil => .nil
  | m :: _, _, .cons ⟨k, e⟩ t => by
    subst e
    exact .cons m k (ints_of t)
def tDst (K : PySem.W.Frag) (ta : TE) : TE := fun σ H Q => ta σ H fun x H1 => ∃ (l : Addr) (ns : List Int), x = .ref l ∧ SqL K H1 l (ns.map V.int) ∧ ns.length ≤ 4000 ∧ Q (.int (dst ns : Nat)) H1
theorem pe_dst {X : Cx} {a : Expr} {ta : TE} {p p2 q pos : Pos} (g1 : Gl X "len") (m1 : X.mg "len" = none) (g2 : Gl X "set") (m2 : X.mg "set" = none) (ha : PE X a ta) (hc : X.calm = true := by rfl)
    (na : starEach [a] X.env = (false, eval a X.env) :: starEach [] X.env := by rfl) : PE X (.Call (.Name "len" p) [.Call (.Name "set" p2) [a] [] q] [] pos) (tDst X.K ta) := ⟨fun pins s σ H Q I h => by
  refine Call_ (ld_blt I g1 m1 boot_len (PyProof.Rows.callWith_builtin1 (PyProof.Rows.args_cons (Call_ (ld_blt I g2 m2 boot_set ?_)) rfl) rfl rfl))
  refine PyProof.Rows.callWith_type1 (PyProof.Rows.args_cons (thn (ha.run pins s σ H _ I h) fun v s1 ⟨x, H1, J, rx, w⟩ => PyProof.Rows.args_nil ?_) na) na rfl
  obtain ⟨l, ns, ex, hq, hz, w⟩ := w
  subst ex
  cases rx
  obtain ⟨its, r, pl, _⟩ := J.list hq
  have en : its.toArray.size = ns.length := by
    rw [List.size_toArray, ← r.length]
    simp
  refine call_set_list (J.ok.hd hc) pl.isList (by simpa using ints_of r) (by rw [en]; unfold scanBound; omega) fun h' tk hS hk => PyProof.Rows.args_nil ?_
  rw [en] at hS
  obtain ⟨o, es, ep, t, ho, hex, hd, _, _, _, hf, hn⟩ := hS
  have J2 : Inv X pins σ H1 { s1 with heap := h', toks := tk } := J.kept fun b o e => hk b o (Heap.lt_size e) e
  have hle : dst ns ≤ ns.length := PyProof.Rows.firstMet_length_le _ _
  have hn2 : es.size = dst ns := hn
  exact call_len_set ho hex hd hf (by rw [hn2]; omega) ⟨.int (dst ns : Nat), H1, J2.tok _, ⟨_, by rw [hn2]⟩, w⟩⟩
def dDst (da : DE) : DE := fun S Q => da S fun x S1 => ∃ ns : List Int, x = .lst (ns.map .int) ∧ ns.length ≤ 4000 ∧ Q (.int (dst ns : Nat)) S1
theorem pd_lenSet {c : Ct} {X : Cx} {a : Expr} {da : DE} {p p2 q pos : Pos} (g1 : Gl X "len") (m1 : X.mg "len" = none) (g2 : Gl X "set") (m2 : X.mg "set" = none) (ha : PDE c X a da) (hc : X.calm = true := by rfl)
    (na : starEach [a] X.env = (false, eval a X.env) :: starEach [] X.env := by rfl) : PDE c X (.Call (.Name "len" p) [.Call (.Name "set" p2) [a] [] q] [] pos) (dDst da) := by
  obtain ⟨ta, a1, a2⟩ := ha
  refine ⟨_, pe_dst g1 m1 g2 m2 a1 hc na, fun σ G H S Qd Q R hQ h => ?_⟩
  refine a2 σ G H S _ _ R (fun v H1 ⟨G1, S1, d, A, r, h1⟩ => ?_) h
  obtain ⟨ns, ed, hz, h1⟩ := h1
  subst ed
  cases r with
  | @lst b zs _ hsq ra =>
    have ez := RepAll.ints_inv ra
    subst ez
    exact ⟨b, ns, rfl, sqL_sub A.rp.sub hsq, hz, hQ _ _ ⟨G1, S1, _, A, .int _, h1⟩⟩
/-! ### x, y = fresh, e where y is a cell: over a tuple that nobody keeps -/
theorem pl_tup {xs : List V} : Pl (.tup xs) := ⟨(fun _ z => by cases z), (fun _ _ z => by unfold LamX.CodeO at z; cases z)⟩
section
variable {c : Ct} {X : Cx} {a b : Expr} {da : DF} {eb : DE} {i j : Nat} {tg : Expr} {pos pt2 : Pos} {k2 : Nat}
theorem pds_parG (hg : PG X tg (gTup X.K 2 (gCons (gName i) (gCons (gName j) gNil)))) (ha : PDF c X a da) (hb : PDE c X b eb)
    (hs : swapsWithSole [tg] (.Tuple [a, b] k2 pt2) pos.line X.env = pure false := by rfl) (hw : swappedStores [tg] (.Tuple [a, b] k2 pt2) X.env = pure none := by rfl) (h1 : (assignEach [tg] X.env).map (·.2) = [assign tg X.env] := by rfl)
    (hs1 : starEach [a, b] X.env = (false, eval a X.env) :: starEach [b] X.env := by rfl) (hs2 : starEach [b] X.env = (false, eval b X.env) :: starEach [] X.env := by rfl) :
    PDS c X (.Assign [tg] (.Tuple [a, b] k2 pt2) pos) (dParFP i j da eb) := by
  obtain ⟨ta, a1, a2⟩ := ha
  obtain ⟨tb, b1, b2⟩ := hb
  refine ⟨_, ps_asg (pe_tup (pa_cons a1 (pa_cons b1 pa_nil hs2) hs1)) hg hs hw h1, fun σ G H S B E R h1 h2 h3 h4 h => ?_⟩
  refine a2 σ G H S _ _ R (fun v H' ⟨q, H1, o, u, G1, S1, ev, nq, eH, A, ho, hu, hq⟩ => ?_) h
  subst ev eH
  have R1 : Rp c X.K X.mg σ G1 (upd H1 q o) S1 := A.rp.hide nq (Owns.pl ho hu)
  refine b2 σ G1 _ S1 _ _ R1 (fun w H2 ⟨G2, S2, d, A2, r2, hq2⟩ => ?_) hq
  obtain ⟨k1, k2, k3⟩ := A2.hid q o upd_same (A.rp.gnone nq) (A.rp.fresh_loose nq)
  refine ⟨by rw [sizeLine_eq]; simp, fun t nt => ?_⟩
  have qt : q ≠ t := ne_of_none k1 nt
  have R5 := A2.rp.hide (p := t) (o := .tup [V.ref q, w]) nt pl_tup
  have o1 := Owns.aft A2 ho k2 (upd H2 t (.tup [V.ref q, w])) (by rw [upd_ne qt]; exact k1)
  have R6 := R5.take (i := i) k3 o1 hu
  have R7 := R6.set (i := j) (v := w) (d := d) r2
  exact ⟨t, _, rfl, .inl (.inl upd_same), rfl, .ref q, [w], rfl, w, [], rfl, rfl, h1 _ _ ⟨G2, _, R7, le_trans' A.le A.nle A2.le A2.nle, Nat.le_trans A2.nle A.nle, hq2⟩⟩
end
end DL
set_option maxHeartbeats 1000000
/-! DLy: the head's facts, the end -/
namespace DL
open PySem PySem.Spec PyProof.Rows L2 He
/-! ### an own __init__ with super() -/
abbrev FnQ : Type := Option (Str × Str × Arguments × FuncBody × Scope × Addr × List Str × Value × Addr)
def qObs (K : PySem.W.Frag) (C : Str) : FnQ := match K.lookup (ma K (ga K C) "__init__") with
  | some ⟨_, _, .func fd, _⟩ => some (fd.name, fd.qualname, fd.params, fd.body, fd.scope, fd.globals, fd.closure.map (·.1), fd.defaults, fd.builtins)
  | _ => none
structure DefQ where
  cls : Str
  qual : Str
  params : Arguments
  body : List Stmt
  scope : Scope
def DefQ.val (d : DefQ) : FnQ := some ("__init__", d.qual, d.params, .stmts d.body, d.scope, mainGlobals, ["__class__"], .none, builtinsNs)
/-- what the module's names reach, the statics of the world -/
def frY (g : Addr → Option Obj) (n : Nat) : PySem.W.Frag := frT g (asD g n ++ [cStatics])
abbrev AlY : Type := AlT × Bool × List FnQ
def obsY (n : Nat) (fa : List Fa) (fn : List DefD) (ts : List Tab) (tf : List Defn) (ex : PySem.W.Frag → Bool) (qs : List DefQ) (g : Addr → Option Obj) : AlY :=
  (obsT fa fn ts (frY g n), ex (frY g n) && tabsB g tf (frY g n), qs.map fun d => qObs (frY g n) d.cls)
theorem saysY_of {n : Nat} {fa : List Fa} {fn : List DefD} {ts : List Tab} {tf : List Defn} {ex : PySem.W.Frag → Bool} {qs : List DefQ} {w : World} {h : Heap} (e : obsY n fa fn ts tf ex qs h.get? = (valT fn ts w, true, qs.map DefQ.val)) :
    SaysX fa fn ts tf ex w h (frY h.get? n) ∧ (qs.map fun d => qObs (frY h.get? n) d.cls) = qs.map DefQ.val := by
  have e1 := congrArg (fun z : AlY => z.1) e
  have e2 : (ex (frY h.get? n) && tabsB h.get? tf (frY h.get? n)) = true := congrArg (fun z : AlY => z.2.1) e
  have e3 := congrArg (fun z : AlY => z.2.2) e
  obtain ⟨h1, h2⟩ := ba e2
  refine ⟨⟨e1, h1, fun p hp => (ba (List.all_eq_true.mp h2 p hp)).1, fun p hp => ?_, fun p hp => ?_⟩, e3⟩
  · have h4 := (ba (List.all_eq_true.mp h2 p hp)).2
    split at h4
    · rename_i o q
      exact frT_none q h4
    · cases h4
  · have h4 := (ba (List.all_eq_true.mp h2 p hp)).2
    split at h4
    · rename_i o q
      rw [q, emptyTab_eq h4]
    · cases h4
def hookY (n : Nat) (fa : List Fa) (fn : List DefD) (ts : List Tab) (tf : List Defn) (ex : PySem.W.Frag → Bool) (qs : List DefQ) : PySem.W.Hook where
  α := AlY
  obs := fun s => obsY n fa fn ts tf ex qs s.heap.get?
  val := fun w => (valT fn ts w, true, qs.map DefQ.val)
  says := fun w h => ∃ K : PySem.W.Frag, K.In h ∧ SaysX fa fn ts tf ex w h K ∧ (qs.map fun d => qObs K d.cls) = qs.map DefQ.val
  of := fun _ _ e => ⟨_, frT_in, saysY_of e⟩
  keeps := fun _ _ _ ⟨K, hK, c, q⟩ k => ⟨K, PySem.W.Frag.In.keeps hK k, ⟨c.t, c.more, c.hd, c.out, fun p hp => k _ _ (c.empty p hp)⟩, q⟩
theorem obsY_eq {n : Nat} {fa : List Fa} {fn : List DefD} {ts : List Tab} {tf : List Defn} {ex : PySem.W.Frag → Bool} {qs : List DefQ} {g : Addr → Option Obj} {s : Shared} (h : ∀ a, g a = s.heap.get? a) : obsY n fa fn ts tf ex qs g = (hookY n fa fn ts tf ex qs).obs s := by
  have e : g = s.heap.get? := funext h
  rw [e] <;> rfl
def oexB (K : PySem.W.Frag) (C : Addr) : Bool := match K.lookup C with
  | some ⟨.type "type", _, .cls cd, sl⟩ => (match cd.mro, sl.toList with
    | .ref C' :: bm, [_, _, _, _, some (.builtin n), _] => C' == C && n == "ValueError.__new__" && !cd.hasDel && cd.hasDict && PySem.HandSPX.refsVE bm
    | _, _ => false)
  | _ => false
theorem oexB_ok {K : PySem.W.Frag} {C : Addr} (q : oexB K C = true) : ∃ nm q N bs bm sn sub ab col dd k0 k1 k2 k3 k5, K.lookup C = some (excClassObj nm q C N bs bm true sn sub ab col dd k0 k1 k2 k3 k5 "ValueError.__new__") ∧ PySem.HandSPX.refsVE bm = true := by
  unfold oexB at q
  split at q
  · rename_i dd cd sl ho
    split at q
    · rename_i C' bm k0 k1 k2 k3 n k5 hm hs
      simp only [Bool.and_eq_true, beq_iff_eq, Bool.not_eq_true'] at q
      obtain ⟨⟨⟨⟨rfl, rfl⟩, hdel⟩, hdi⟩, ht⟩ := q
      obtain ⟨nm, bs, mro, ns, qn, hd, sn, sub, ab, col, del⟩ := cd
      dsimp only at hm hdel hdi
      subst hm hdel hdi
      have hsl : sl = #[k0, k1, k2, k3, some (.builtin "ValueError.__new__"), k5] := by
        obtain ⟨l⟩ := sl
        simp only at hs
        rw [hs]
      subst hsl
      exact ⟨nm, qn, ns, bs, bm, sn, sub, ab, col, dd, k0, k1, k2, k3, k5, ho, ht⟩
    · cases q
  · cases q
def fnQB (K : PySem.W.Frag) (C fI : Addr) (qual file : Str) : Bool := match K.lookup fI with
  | some ⟨_, _, .func fd, _⟩ => PySem.W.codeIn K fd.code qual && ((match fd.code with
    | .ref cda => (match K.lookup cda with
      | some ⟨_, _, .fields vs, _⟩ => (match (vs[2]? : Option Value) with
        | some (Value.str z _) => decide (z = file)
        | _ => false)
      | _ => false)
    | _ => false) && (match fd.closure with
    | [(_, cc)] => (match K.lookup cc with
      | some ⟨_, _, .cell (some (.ref C')), _⟩ => decide (C' = C)
      | _ => false)
    | _ => false))
  | _ => false
theorem fnQB_ok {K : PySem.W.Frag} {C : Addr} {d : DefQ} {file : Str} (e : qObs K d.cls = d.val) (hc : ga K d.cls = C) (h : fnQB K C (ma K C "__init__") d.qual file = true) :
    ∃ (oc : Value) (od : Option Addr) (kV doc pm ct : Value) (an : Option Addr) (osl : Array (Option Value)) (cda cc : Addr) (ccl cl : Value) (cdd cld : Option Addr) (vs : Array Value) (ccs csl : Array (Option Value)) (tf : Tok),
    K.lookup (ma K C "__init__") = some ⟨oc, od, .func (PySem.W.ksFn "__init__" d.qual d.params d.body d.scope .none kV doc pm an (.ref cda) ct cc), osl⟩ ∧ PySem.W.codeIn K (.ref cda) d.qual = true ∧
    K.lookup cda = some ⟨ccl, cdd, .fields vs, ccs⟩ ∧ vs[2]? = some (.str file tf) ∧ K.lookup cc = some ⟨cl, cld, .cell (some (.ref C)), csl⟩ := by
  unfold qObs at e
  rw [hc] at e
  unfold fnQB at h
  split at h
  · rename_i oc od fd osl ho
    rw [ho] at e
    obtain ⟨h1, h2⟩ := ba h
    obtain ⟨h3, h4⟩ := ba h2
    obtain ⟨n1, n2, n3, n4, n5, n6, n7, n8, n9, n10, n11, n12, n13, n14, n15⟩ := fd
    have e2 : (some (n1, n2, n3, n4, n5, n6, n7.map (·.1), n8, n15) : FnQ) = (some ("__init__", d.qual, d.params, .stmts d.body, d.scope, mainGlobals, ["__class__"], .none, builtinsNs) : FnQ) := e
    simp only [Option.some.injEq, Prod.mk.injEq] at e2
    obtain ⟨r1, r2, r3, r4, r5, r6, r7, r8, r9⟩ := e2
    simp only at h1 h3 h4
    split at h3
    · rename_i _ cda
      split at h3
      · rename_i ccl cdd vs ccs hlc
        split at h3
        · rename_i z tf hz
          split at h4
          · rename_i _ y cc
            split at h4
            · rename_i cl cld C' csl hcc
              have e3 : C' = C := of_decide_eq_true h4
              have e4 : z = file := of_decide_eq_true h3
              subst e3 e4 r1 r2 r3 r4 r5 r6 r8 r9
              have r7' : y = "__class__" := by simpa using r7
              subst r7'
              exact ⟨oc, od, n9, n10, n11, n14, n12, osl, cda, cc, ccl, cl, cdd, cld, vs, ccs, csl, tf, ho, h1, hlc, hz, hcc⟩
            · cases h4
          · cases h4
        · cases h3
      · cases h3
    · cases h3
  · cases h
def initB (x qual file f : Str) (K : PySem.W.Frag) : Bool :=
  oexB K (ga K x) && (eqO (PySem.W.findIn K (.ref (ga K x)) "__setattr__") (some (some (.builtin "object.__setattr__"))) && (decide (PySem.W.subIn K (.ref (ga K x)) (.type "BaseException") = some true) && (decide (PySem.W.typeIn K (.ref (ga K x)) = some (.type "type")) && (PySem.W.keepIn K (.ref (ga K x)) &&
  (eqO (PySem.W.findIn K (.ref (ga K x)) "__init__") (some (some (.ref (ma K (ga K x) "__init__")))) && (decide (PySem.W.typeIn K (.ref (ma K (ga K x) "__init__")) = some (.type "function")) && (fnQB K (ga K x) (ma K (ga K x) "__init__") qual file &&
  (eqO (PySem.W.ks_superIn K (ga K x) (ga K x) "__init__") (some (some (.builtin "ValueError.__init__"))) && (decide (PySem.W.subIn K (.ref (ga K x)) (.type "ValueError") = some true) && (decide (PySem.W.mroIn K (ga K x) (.ref (ga K x)) = some true) && (eqO (PySem.W.nsIn K cStatics "thirdparty.any") (some none) && eqO (PySem.W.findIn K (.ref (ga K x)) f) (some none))))))))))))
theorem initB_ok {P : Program} {K : PySem.W.Frag} {d : DefQ} {file f : Str} (e : qObs K d.cls = d.val) (h : initB d.cls d.qual file f K = true) (hP : P.main.file = file) : InitC P K (ga K d.cls) (ma K (ga K d.cls) "__init__") d.qual d.params d.body d.scope f := by
  obtain ⟨a1, h⟩ := ba h
  obtain ⟨a2, h⟩ := ba h
  obtain ⟨a3, h⟩ := ba h
  obtain ⟨a4, h⟩ := ba h
  obtain ⟨a5, h⟩ := ba h
  obtain ⟨a6, h⟩ := ba h
  obtain ⟨a7, h⟩ := ba h
  obtain ⟨a8, h⟩ := ba h
  obtain ⟨a9, h⟩ := ba h
  obtain ⟨a10, h⟩ := ba h
  obtain ⟨a11, h⟩ := ba h
  obtain ⟨a12, a13⟩ := ba h
  obtain ⟨oc, od, kV, doc, pm, ct, an, osl, cda, cc, ccl, cl, cdd, cld, vs, ccs, csl, tf, b1, b2, b3, b4, b5⟩ := fnQB_ok e rfl a8
  exact ⟨⟨oexB_ok a1, eqO_ok a2, of_decide_eq_true a3, of_decide_eq_true a4, a5⟩, eqO_ok a6, of_decide_eq_true a7, ⟨oc, od, kV, doc, pm, ct, an, osl, cda, cc, ccl, cl, cdd, cld, vs, ccs, csl, file, tf, b1, b2, b3, b4, hP, b5⟩, eqO_ok a9, of_decide_eq_true a10, of_decide_eq_true a11, eqO_ok a12, eqO_ok a13⟩
def refB (x f : Str) (K : PySem.W.Frag) : Bool := xfB K (ga K x) && (eqO (PySem.W.findIn K (.ref (ga K x)) f) (some none) && decide (PySem.W.exmOne K (.ref (ga K x)) (.ref (ga K x)) = some true))
/-! ### defs -/
section
variable {K : PySem.W.Frag} {mg : MG} {base : Heap} {T : TT0} {x : Str} {st : Stmt} {f : Addr} {fd : FuncData}
theorem fun_of (F : FunD K x x (defArgs st) (defBody st) (defScope st) [] [] f fd) : Fun K x x st f fd := by
  obtain ⟨⟨oc, od, dV, kV, doc, pm, an, cdv, ct, osl, rfl, lk, hcd, hd, hk⟩, kp⟩ := F
  have e : dV = .none := hd.elim (·.2) fun h => absurd rfl h.1
  subst e
  exact ⟨⟨oc, od, kV, doc, pm, an, cdv, ct, osl, rfl, lk, hcd⟩, kp⟩
theorem funL_of (F : FunD K x x (defArgs st) (defBody st) (defScope st) [] [] (fAd K (x, none)) fd) (TB : LamX.TabB base mg (cT K (x, none)).1 (cT K (x, none)).2) (hT : ((cT K (x, none)).2, (x ++ ".<locals>.") ++ "<lambda>") ∈ T)
    (hu : ∀ p ∈ T, p.1 = (cT K (x, none)).2 → p.2 = (x ++ ".<locals>.") ++ "<lambda>") : FunL K mg base T x st (fAd K (x, none)) := by
  obtain ⟨⟨oc, od, dV, kV, doc, pm, an, cdv, ct, osl, rfl, lk, hcd, hd, hk⟩, kp⟩ := F
  have e : dV = .none := hd.elim (·.2) fun h => absurd rfl h.1
  subst e
  obtain ⟨cda, rfl⟩ := codeIn_ref hcd
  have e2 : (cT K (x, none)).1 = cda := codeOf_eq lk rfl
  rw [e2] at TB
  exact ⟨⟨oc, od, kV, doc, pm, an, ct, osl, cda, _, lk, hcd, TB, hT, hu⟩, kp⟩
end
/-! ### the end -/
section
variable {l : PySem.W.OpenLaw} {w : World} {K : PySem.W.Frag} {mg : MG} {h : Heap} {fa : List Fa} {fn : List DefD} {ts : List Tab} {tf : List Defn} {ex : PySem.W.Frag → Bool}
def tbs (K : PySem.W.Frag) (tf : List Defn) : TT0 := tf.map fun p => ((cT K p).2, (p.1 ++ ".<locals>.") ++ "<lambda>")
theorem law_at {a : Addr} {k n N0 : Nat} {x : Str} {st : Stmt} {m : MT} {fd : FuncData} (KX : K.In h) (c : SaysX fa fn ts tf ex w h K) (hm : mg "law" = some (.ref a)) (F : Fun K "law" "law" st a fd) (hb : ∀ (s : Shared) (u : Value), BindsTo s fd ⟨[u], []⟩ [(x, u)])
    (hsp : ∀ (ns : List Int), ns.length ≤ n → (∀ z ∈ ns, Builtin.Int.intBits z ≤ 1048576) → m [.lst (ns.map .int)] N0 (fun d _ => d = .bl true) ED0)
    (hF : ∀ base : Heap, K.In base → base.Ns mainGlobals mg → (∀ p ∈ tf, LamX.TabB base mg (cT K p).1 (cT K p).2) → CalD l.prog w K mg base (tbs K tf) CX0 k "law" st [x] m) : LamX.LawAtS l w K CX0 k n x mg a h := by
  refine ⟨fd, tf.map (cT K), spD (tbs K tf) K mg 1 m, fun p hp => ?_, fun p hp => ?_, fun p hp => ?_, hb, fun H b ns hl hbits hH hS => ?_, fun base KB hg hT => ?_⟩
  · obtain ⟨q, hq, e⟩ := List.mem_map.mp hp
    rw [← e]
    exact c.empty q hq
  · obtain ⟨q, hq, e⟩ := List.mem_map.mp hp
    rw [← e]
    exact c.out q hq
  · obtain ⟨q, hq, e⟩ := List.mem_map.mp hp
    rw [← e]
    exact PySem.W.codeHd_of_K KX (c.hd q hq)
  · refine ⟨rfl, H, [.lst (ns.map .int)], N0, fun d _ => d = .bl true, ED0, .refl H, fun p hp => ?_, .cons (.lst hS (RepAll.ints ns)) .nil, hsp ns hl hbits, fun v d k' G' H' _ _ r q => ?_, fun x' f' d k' v C dd G' H' _ _ _ _ _ z => z.elim⟩
    · obtain ⟨q, hq, e⟩ := List.mem_map.mp hp
      rw [← e]
      exact ⟨#[], hH _ (List.mem_map.mpr ⟨q, hq, rfl⟩), by trivial, fun pos cv hc => nomatch (show (none : Option Value) = some cv from hc)⟩
    · subst q
      cases r
      rfl
  · obtain ⟨f, fd', F', ok, hm'⟩ := (hF base KB hg fun p hp => hT _ (List.mem_map.mpr ⟨p, hp, rfl⟩)).ex
    rw [hm] at hm'
    cases hm'
    obtain ⟨oc, od, kV, doc, pm, an, cdv, ct, osl, -, lk, -⟩ := F.ex
    obtain ⟨oc', od', kV', doc', pm', an', cdv', ct', osl', -, lk', -⟩ := F'.ex
    rw [lk] at lk'
    cases lk'
    exact ok
end
end DL
set_option maxHeartbeats 1000000
namespace DL
open PySem PySem.Spec PyProof.Rows L2
/-! ### keys (int, ints) -/
def nk (k : NK) : NestedKey := .tup [.num k.1, .tup (k.2.map .num)]
theorem num_inj : ∀ {a b : List Int}, a.map NestedKey.num = b.map NestedKey.num → a = b
  | [], [], _ => rfl
  | [], _ :: _, h => by cases h
  | _ :: _, [], h => by cases h
  | x :: a, y :: b, h => by
    rw [List.map_cons, List.map_cons] at h
    injection h with h1 h2
    injection h1 with h1
    rw [h1, num_inj h2]
theorem nk_inj {x y : NK} (h : nk x = nk y) : x = y := by
  unfold nk at h
  injection h with h
  injection h with h1 h2
  injection h1 with h1
  injection h2 with h2 _
  injection h2 with h2
  exact Prod.ext h1 (num_inj h2)
theorem hashes_num (w : World) : ∀ ks : List Int, NestedKey.hashes w (ks.map .num) = ks.map hashInt
  | [] => rfl
  | k :: ks => by
    rw [List.map_cons, List.map_cons, NestedKey.hashes, hashes_num w ks]
    rfl
theorem nk_hash (w : World) (k : NK) : (nk k).hash w = nkHash k := by
  unfold nk nkHash
  simp only [NestedKey.hash, NestedKey.hashes, hashes_num]
theorem depth_num : ∀ ks : List Int, NestedKey.depthAll (ks.map .num) = 0
  | [] => rfl
  | k :: ks => by
    rw [List.map_cons, NestedKey.depthAll, depth_num ks]
    rfl
theorem nk_depth (k : NK) : (nk k).depth ≤ 8 := by
  unfold nk
  simp [NestedKey.depth, NestedKey.depthAll, depth_num]
theorem nk_dec (x y : NK) : decide (nk x = nk y) = decide (x = y) := by
  by_cases h : x = y
  · rw [h, decide_eq_true rfl, decide_eq_true rfl]
  · rw [decide_eq_false h, decide_eq_false fun z => h (nk_inj z)]
def nkKind (P : Program) (w : World) : HeapKind P w NK where
  is := fun h k a => (nestedKind P w).is h (nk k) a
  hash := nkHash
  draws := fun k => (nestedKind P w).draws (nk k)
  room := (nestedKind P w).room
  inj := fun hx hy => nk_inj ((nestedKind P w).inj hx hy)
  keeps := fun x ho hd hs => (nestedKind P w).keeps x ho hd hs
  pyHash := fun hu hk h => (nestedKind P w).pyHash hu hk (by
    show _
    rw [show (nestedKind P w).hash (nk _) = nkHash _ from nk_hash w _]
    exact h)
  eqBool := fun hu hx hy h => (nestedKind P w).eqBool hu hx hy (by rw [nk_dec]; exact h)
  quiet := fun hk h => (nestedKind P w).quiet hk h
theorem nk_entry (P : Program) (w : World) (xs : List NE) : xs.map (entryOfKey (nkKind P w)) = xs.map entN := rfl
theorem nested_ints {h : Heap} : ∀ {ks : List Int} {its : List Value}, Vals (ks.map V.int) its → NestedAll h (ks.map .num) its
  | [], _, r => by
    rw [List.map_nil] at r
    cases r
    exact .nil
  | k :: ks, _, r => by
    rw [List.map_cons] at r
    cases r with
    | cons a b =>
      obtain ⟨t, e⟩ := a
      subst e
      exact .cons (.int _ _) (nested_ints b)
section
variable {X : Cx} {pins : List (Addr × Obj)} {σ : L2.St} {H : Hp} {s : Shared}
theorem key_nk (I : Inv X pins σ H s) {p b : Addr} {k : NK} (h1 : SqT X.K H p [.int k.1, .ref b]) (h2 : SqT X.K H b (k.2.map V.int)) : (nkKind X.prog X.w).is s.heap k p := by
  obtain ⟨its, r, ⟨o, e1, e2, n, e3⟩, _⟩ := I.tuple h1
  obtain ⟨its2, r2, ⟨o2, f1, f2, n2, f3⟩, _⟩ := I.tuple h2
  obtain ⟨u, v, e, ru, rv⟩ := vals2 r
  subst e
  obtain ⟨t, e⟩ := ru
  subst e
  cases rv
  exact ⟨.tup e1 e2 e3 (.cons (.int _ _) (.cons (.tup f1 f2 f3 (by simpa using nested_ints r2)) .nil)), nk_depth k⟩
/-- the keys stand, the values are told -/
def KN (K : PySem.W.Frag) (H : Hp) (xs : List NE) : Prop := ∀ x ∈ xs, (∃ b, SqT K H x.2.1 [.int x.1.1, .ref b] ∧ SqT K H b (x.1.2.map V.int)) ∧ ∃ v, RelV v x.2.2
theorem dn_of (I : Inv X pins σ H s) {a : Addr} {xs : List NE} (e : Rd H a (DnO a xs)) (kn : KN X.K H xs) : xs.length ≤ sizeLine ∧ (a == sysModules) = false ∧ s.heap.DictOfH (nkKind X.prog X.w) a xs := by
  obtain ⟨⟨z, hs, o, es, ep, h1, h2, h3, h4, h5⟩, _, _⟩ := (show ObjOk X.prog X.w H s.heap a (DnO a xs) from e.ok I.hok)
  exact ⟨z, hs, o, es, ep, h1, h2, h3, h4, fun x hx => let ⟨⟨b, q1, q2⟩, _⟩ := kn x hx; key_nk I q1 q2, h5⟩
theorem dn_ok {P : Program} {w : World} {H : Hp} {h : Heap} {a : Addr} {xs : List NE} (z : xs.length ≤ sizeLine) (hs : (a == sysModules) = false) (d : h.DictOfH (nkKind P w) a xs) : ObjOk P w H h a (DnO a xs) := by
  obtain ⟨o, es, ep, h1, h2, h3, h4, _, h5⟩ := d
  exact ⟨⟨z, hs, o, es, ep, h1, h2, h3, h4, h5⟩, ⟨o, h1⟩, fun g1 g2 ⟨_, _, o, es, ep, k1, k2, k3, k4, k5⟩ st => ⟨z, hs, o, es, ep, st _ k1, k2, k3, k4, k5⟩⟩
theorem dn_mut {a : Addr} {xs : List NE} (e : H a = some (DnO a xs)) : Mut (H a) := by
  rw [e]
  exact True.intro
theorem dn_empty {P : Program} {w : World} {H : Hp} (h : Heap) (hb : sysModules < h.objs.size) : ObjOk P w H (h.push { cls := .type "dict", data := .dict #[] }) h.objs.size (DnO h.objs.size []) :=
  dn_ok (Nat.zero_le _) (beq_eq_false_iff_ne.mpr (Ne.symm (Nat.ne_of_lt hb))) (Heap.DictOfH.new h)
/-- {} -/
def tNNew : TE := fun _ H Q => ∀ p, H p = none → Q (.ref p) (upd H p (DnO p []))
theorem pe_nnew {pos : Pos} : PE X (.Dict [] [] pos) tNNew := ⟨fun pins s σ H Q I h =>
  wpAny_Dict_empty ⟨.ref s.heap.objs.size, _, I.laid (a := s.heap.objs.size) (o := DnO s.heap.objs.size []) (t' := s.toks) (fun _ _ q => Heap.get?_push_of_some _ q) (Nat.le_refl _) (dn_empty s.heap I.big), rfl, h _ (I.hok.fresh (Nat.le_refl _))⟩⟩
/-- x.get(k, e) -/
def tNGet2 (K : PySem.W.Frag) (td tk tx : TE) : TE := fun σ H Q => td σ H fun x H1 => ∃ a, x = .ref a ∧ (∃ xs, H1 a = some (DnO a xs) ∧ KN K H1 xs) ∧ tk σ H1 fun y H2 => tx σ H2 fun z H3 => ∃ (xs : List NE) (k : NK) (p b : Addr) (r : V),
  H3 a = some (DnO a xs) ∧ KN K H3 xs ∧ y = .ref p ∧ SqT K H3 p [.int k.1, .ref b] ∧ SqT K H3 b (k.2.map V.int) ∧ ((∃ u, (atKey xs k).map (·.2) = some u ∧ RelV r u) ∨ ((atKey xs k).map (·.2) = none ∧ r = z)) ∧ Q r H3
theorem pe_nget2 {o e f : Expr} {apos cpos : Pos} {td tk tx : TE} (hu : X.A.units + 64 < cLine) (ho : PE X o td) (he : PE X e tk) (hf : PE X f tx) (m : M2 X o "get" apos e f cpos) : PE X (.Call (.Attribute o "get" apos) [e, f] [] cpos) (tNGet2 X.K td tk tx) := by
  refine ⟨fun pins s σ H Q I h => ?_⟩
  refine wpAny_Call_method m.base m.few m.line PySem.F.plainAttrs_dict PySem.F.slot_dict_get PySem.F.type_dict_get (thn (ho.run pins s σ H _ I h) fun u s1 ⟨x, H1, I1, rx, a, ex, ⟨xs0, d, kn0⟩, q1⟩ => ?_)
  subst ex
  obtain rfl : u = Value.ref a := rx
  obtain ⟨z0, hs0, dd0⟩ := dn_of I1 (.inl d) kn0
  refine ⟨dd0.typeIs, fun b q => ?_, ?_⟩
  · cases q
    obtain ⟨ob, _, _, h1, h2, _⟩ := dd0
    exact ⟨ob, h1, h2.2.1⟩
  rw [m.trees]
  refine Calls.callWith_builtin rfl (Calls.evalArgs_plain (Calls.spliced_cons (thn (he.run pins s1 σ H1 _ I1 q1) fun iv s2 ⟨y, H2, I2, ry, q2⟩ =>
    Calls.spliced_cons (thn (hf.run pins s2 σ H2 _ I2 q2) fun fv s3 ⟨z, H3, I3, rz, xs, k, p, b, r, e1, kn, ey, k1, k2, hr, q3⟩ => Calls.spliced_nil ?_))))
  subst ey
  cases (show iv = Value.ref p from ry)
  obtain ⟨z1, hs1, dd⟩ := dn_of I3 (.inl e1) kn
  refine call_meetsIn PySem.F.slot_dict_get dd.typeIs PySem.F.entry_dict_get (PySem.F.args_dict_get_3 _ _ _) (meetsH_dict_get_default (nkKind X.prog X.w) a p hs1 fv) ⟨show X.A.in1.units + 8 < cLine by simp only [Around.in1_units]; omega, k, xs, key_nk I3 k1 k2, dd, ?_⟩
  refine ⟨r, H3, I3.tok _, ?_, q3⟩
  rcases hr with ⟨u, eu, ru⟩ | ⟨en, er⟩
  · rw [eu]
    exact ru
  · rw [en, er]
    exact rz
/-- x[k] = e -/
def sNPut (K : PySem.W.Frag) (td tk tv : TE) : TS := fun D σ H => tv σ H fun v H1 => td σ H1 fun x H2 => tk σ H2 fun y H3 => ∃ (a : Addr) (xs : List NE) (k : NK) (p b : Addr), x = .ref a ∧ H3 a = some (DnO a xs) ∧ KN K H3 xs ∧ y = .ref p ∧
  SqT K H3 p [.int k.1, .ref b] ∧ SqT K H3 b (k.2.map V.int) ∧ xs.length < sizeLine ∧ ∀ u, RelV v u → D.nx σ (upd H3 a (DnO a (storedH xs k p u)))
theorem ps_nput {o i value : Expr} {pos pos' : Pos} {td tk tv : TE} (hu : X.A.units + 64 < cLine) (ho : PE X o td) (hi : PE X i tk) (hv : PE X value tv) (hs : swapsWith value (some (.Subscript o i pos')) pos.line X.env = pure false) :
    PS X (.Assign [.Subscript o i pos'] value pos) (sNPut X.K td tk tv) := by
  refine ⟨fun pins s σ H D I h => ?_⟩
  refine wpAny_Assign_Subscript (thn (hv.run pins s σ H _ I h) fun r s1 ⟨v, H1, I1, rv, q1⟩ => thn (ho.run pins s1 σ H1 _ I1 q1) fun u s2 ⟨x, H2, I2, rx, q2⟩ => thn (hi.run pins s2 σ H2 _ I2 q2) fun iv s3 ⟨y, H3, I3, ry, a, xs, k, p, b, ex, e, kn, ey, k1, k2, hz, q3⟩ => ?_) hs
  subst ex ey
  obtain rfl : u = Value.ref a := rx
  cases (show iv = Value.ref p from ry)
  obtain ⟨z1, hs1, dd⟩ := dn_of I3 (.inl e) kn
  refine wpAny_setItem_heap (hsz := z1) (show X.A.in1.units + 8 < cLine by simp only [Around.in1_units]; omega) (key_nk I3 k1 k2) dd fun h' dd' sb => ?_
  refine ⟨σ, _, d_write I3 (dn_mut e) sb (let ⟨q, _, _, hq, _⟩ := dd'; ⟨q, hq⟩) (dn_ok ?_ hs1 dd'), q3 r rv⟩
  have l := storedH_length xs k p r
  omega
/-- {k: e} -/
def tNDisp (K : PySem.W.Frag) (tk tv : TE) : TE := fun σ H Q => ∀ p, H p = none → tk σ (upd H p (DnO p [])) fun y H1 => tv σ H1 fun v H2 => H2 p = some (DnO p []) ∧ ∃ (k : NK) (q b : Addr), y = .ref q ∧ SqT K H2 q [.int k.1, .ref b] ∧ SqT K H2 b (k.2.map V.int) ∧
  ∀ u, RelV v u → Q (.ref p) (upd H2 p (DnO p [(k, q, u)]))
theorem dict_pairsN {P : Program} {w : World} {A : Around} {E : Value → Shared → Prop} {s : Shared} {env : Env} {keys : List (Option Expr)} {values : List Expr} {pos : Pos} {pairs : List (Sem Value × Sem Value)} {Q : Value → Shared → Prop} (hu : (nkKind P w).room A)
    (hshape : (evalEachOpt keys env).zip ((evalEach values env).map fun v => do let x ← v; standAt pos; pure x) = pairs.map fun p => (some p.1, p.2)) (h0 : pairs ≠ []) (hlen : pairs.length ≤ 15)
    (h : wpAny (model P w) A (evalPairs pairs) (fun vs s₁ => ∃ ps, CarriesH (nkKind P w) s₁.heap vs ps ∧ s₁.heap.DictOfH (nkKind P w) s.heap.objs.size [] ∧
      ∀ h' tk, h'.DictOfH (nkKind P w) s.heap.objs.size (storedAllH [] ps) → Heap.SameBut s.heap.objs.size s₁.heap h' → Q (.ref s.heap.objs.size) { s₁ with heap := h', toks := tk }) E
      { s with heap := s.heap.push { cls := .type "dict", data := .dict #[] } }) :
    wpAny (model P w) A (eval (.Dict keys values pos) env) Q E s := by
  rw [arm_eval_Dict, hshape, dictDisplay_pairs pairs h0 (by omega)]
  exact wpAny_bind (wpAny_standAt (wpAny_bind (wpAny_subDictH (knd := nkKind P w) (Q := fun d s' => wpAny (model P w) A (pure (Value.ref d)) Q E s') hu hlen
    (wpAny_mono h (fun vs s₁ h₁ => by obtain ⟨ps, hc, hm, hq⟩ := h₁; exact ⟨ps, hc, hm, fun h' tk a b => wpAny_pure (hq h' tk a b)⟩) fun _ _ e => e))))
theorem pe_ndisp {k v : Expr} {pos : Pos} {tk tv : TE} (hu : X.A.units + 64 < cLine) (hk : PE X k tk) (hv : PE X v tv) : PE X (.Dict [some k] [v] pos) (tNDisp X.K tk tv) := by
  refine ⟨fun pins s σ H Q I q => ?_⟩
  have hn := I.hok.fresh (Nat.le_refl s.heap.objs.size)
  have I1 := I.laid (a := s.heap.objs.size) (o := DnO s.heap.objs.size []) (h' := s.heap.push { cls := .type "dict", data := .dict #[] }) (t' := s.toks) (fun _ _ q => Heap.get?_push_of_some _ q) (Nat.le_refl _) (dn_empty s.heap I.big)
  refine dict_pairsN (pairs := pairTrees [some k] [v] X.env pos) (show X.A.units + 8 < cLine by omega) (zip_pairTrees [some k] [v] X.env pos rfl rfl) ?_ ?_ ?_
  · intro z
    have := pairTrees_length [some k] [v] X.env pos rfl rfl
    rw [z] at this
    cases this
  · rw [pairTrees_length [some k] [v] X.env pos rfl rfl]
    show 1 ≤ 15
    decide
  · refine pairTrees_cons_walk (thn (hk.run pins _ σ _ _ I1 (q _ hn)) fun u s1 ⟨y, H1, I1', rx, q1⟩ => thn (hv.run pins s1 σ H1 _ I1' q1) fun w2 s2 ⟨v, H2, I2, rv, e, kk, qa, b, ey, k1, k2, q2⟩ => pairTrees_nil_walk ?_)
    subst ey
    cases (show u = Value.ref qa from rx)
    obtain ⟨z1, hs1, dd⟩ := dn_of I2 (.inl e) (fun x hx => absurd hx List.not_mem_nil)
    refine ⟨[(kk, qa, w2)], ⟨rfl, rfl, key_nk I2 k1 k2, True.intro⟩, dd, fun h' tk dk sb => ?_⟩
    have dd' : h'.DictOfH (nkKind X.prog X.w) s.heap.objs.size [(kk, qa, w2)] := dk
    exact ⟨.ref s.heap.objs.size, _, d_write I2 (dn_mut e) sb (let ⟨q, _, _, hq, _⟩ := dd'; ⟨q, hq⟩) (dn_ok (by rw [sizeLine_eq]; simp) hs1 dd'), rfl, q2 w2 rv⟩
/-! ### walked -/
theorem frzN {d : Addr} {o : Obj} {xs : List NE} (I : Inv X pins σ H s) (h : H d = some (.frz o (DnO d xs))) : (d == sysModules) = false ∧ ∃ (es : Array DictEntry) (ep : Nat), o.data = .dict es ep ∧ s.heap.DictRaw d es ep ∧ es.size = xs.length ∧
    ∀ (i : Nat) (hi : i < es.size), ∃ x, xs[i]? = some x ∧ es[i].key = .ref x.2.1 ∧ es[i].val = x.2.2 := by
  obtain ⟨hd, ⟨z, hs, o', es, ep, h1, h2, h3, h4, h5⟩, _, _⟩ := I.hok d _ h
  rw [hd] at h1
  cases h1
  have hsz : es.size = xs.length := by
    rw [← Array.length_toList, h4, List.length_map]
  refine ⟨hs, es, ep, h3, ⟨o, hd, h2, h3⟩, hsz, fun i hi => ?_⟩
  have hx : i < xs.length := by omega
  have e : es[i]? = (xs[i]?).map entN := by rw [← Array.getElem?_toList, h4, List.getElem?_map]
  rw [Array.getElem?_eq_getElem hi, List.getElem?_eq_getElem hx, Option.map_some] at e
  have e' := Option.some.inj e
  exact ⟨xs[i], List.getElem?_eq_getElem hx, by rw [e']; rfl, by rw [e']; rfl⟩
/-- the values of the locked dict at d -/
def Idv (d : Addr) (o : Obj) (xs : List NE) : It :=
  ⟨fun i H => H d = some (.frz o (DnO d xs)) ∧ i < xs.length ∧ ∀ x ∈ xs, ∃ v, RelV v x.2.2, fun i H x H' => H' = H ∧ ∃ e, xs[i]? = some e ∧ RelV x e.2.2, fun i H => H d = some (.frz o (DnO d xs)) ∧ xs.length ≤ i⟩
/-- its pairs, each a new tuple -/
def Idn (d : Addr) (o : Obj) (xs : List NE) : It :=
  ⟨fun i H => H d = some (.frz o (DnO d xs)) ∧ i < xs.length ∧ ∀ x ∈ xs, ∃ v, RelV v x.2.2, fun i H x H' => ∃ T e v, xs[i]? = some e ∧ RelV v e.2.2 ∧ x = .ref T ∧ H T = none ∧ H' = upd H T (.tup [.ref e.2.1, v]), fun i H => H d = some (.frz o (DnO d xs)) ∧ xs.length ≤ i⟩
end
section
variable {P : Program} {w : World} {K : PySem.W.Frag} {tg : Expr} {d : Addr} {o : Obj} {es : Array DictEntry} {ep : Nat}
theorem turn_nvals {xs : List NE} (it : Addr) (hod : o.data = .dict es ep) : Turn P w K tg (Idv d o xs) [it] it (fun i h => h.IsValIter it d i xs.length ep) where
  mem := by simp
  obj := fun i h st b hb => by
    have e : b = it := by simpa using hb
    subst e
    obtain ⟨oi, e, c, dd⟩ := st
    exact ⟨oi, e, fun v z => by rw [dd] at z; cases z⟩
  keep := fun i h h' st k => st.at fun oi e => k it (by simp) oi e
  item := by
    intro X hP hw hK hc i pins s σ H E I hf st hg
    subst hP hw hK
    obtain ⟨hd, hi, hv⟩ := hg
    obtain ⟨f0, f1, f2, f3, f4, f5⟩ := hf it (by simp)
    obtain ⟨hs, es', ep', hdt, hm, hsz, ent⟩ := frzN I hd
    obtain ⟨rfl, rfl⟩ := dict_ep hod hdt
    have hlt : i < es'.size := by omega
    obtain ⟨x, hx, _, ev⟩ := ent i hlt
    obtain ⟨v, rv⟩ := hv x (List.mem_of_getElem? hx)
    rw [← hsz] at st
    refine wpAny_pyNext_values_item_raw st hm hlt fun h' st' sb => ?_
    have I1 : Inv X pins σ H { s with heap := h' } := I.turned (t' := s.toks) (fun b ob hb e => (sb.2 b hb).trans e) f0 f1 f3 f4 f5
    obtain ⟨oi, e, c, dd⟩ := id st'
    refine ⟨es'[i].val, rfl, go_of (s := { s with heap := h' }) e c dd (by decide) ⟨v, H, I1, by rw [ev]; exact rv, ⟨rfl, x, hx, rv⟩, ?_, fun b hb => (hf b hb).1⟩⟩
    show h'.IsValIter it d (i + 1) xs.length _
    rw [← hsz]
    exact st'
  done := by
    intro X hP hw hK hc i pins s σ H E I hf st hg
    subst hP hw hK
    obtain ⟨hd, hi⟩ := hg
    obtain ⟨f0, f1, f2, f3, f4, f5⟩ := hf it (by simp)
    obtain ⟨hs, es', ep', hdt, hm, hsz, ent⟩ := frzN I hd
    obtain ⟨rfl, rfl⟩ := dict_ep hod hdt
    rw [← hsz] at st
    exact wpAny_pyNext_values_end_raw (I.ok.hd hc) st hm (by omega) fun h' eb => ⟨rfl, I.turned (t' := s.toks) (fun b ob hb e => eb b ob hb e) f0 f1 f3 f4 f5⟩
  self := fun A i s Q E st h => wpAny_pyIter_valiter st h
theorem turn_nitems {xs : List NE} {elts : List Expr} {kk : Nat} {tpos : Pos} (it : Addr) (hod : o.data = .dict es ep) :
    Turn P w K (.Tuple elts kk tpos) (Idn d o xs) [it] it (fun i h => ∃ ok ov, IsItemIter h it d i xs.length ep ok ov) where
  mem := by simp
  obj := fun i h st b hb => by
    have e : b = it := by simpa using hb
    subst e
    obtain ⟨ok, ov, e⟩ := st
    exact ⟨_, e, fun v z => nomatch z⟩
  keep := fun i h h' st k => let ⟨ok, ov, e⟩ := st; ⟨ok, ov, k it (by simp) _ e⟩
  item := by
    intro X hP hw hK hc i pins s σ H E I hf st hg
    subst hP hw hK
    obtain ⟨hd, hi, hv⟩ := hg
    obtain ⟨hs, es', ep', hdt, hm, hsz, ent⟩ := frzN I hd
    obtain ⟨rfl, rfl⟩ := dict_ep hod hdt
    have hlt2 : i < es'.size := by omega
    obtain ⟨x, hx, ek, ev⟩ := ent i hlt2
    obtain ⟨v, rv⟩ := hv x (List.mem_of_getElem? hx)
    obtain ⟨ok, ov, he⟩ := st
    rw [← hsz] at he
    have hlt : it < s.heap.objs.size := Heap.lt_size he
    refine wpAny_pyNext_items_item_raw he hm hlt2 fun h' ho hT hz hk => ?_
    refine ⟨_, rfl, wpAny_letOwnedTupleGo_items (s := { s with heap := h' }) ho fun h'' he' sb => ?_⟩
    have hT2 : h''.get? s.heap.objs.size = some { cls := .type "tuple", data := .seq #[es'[i].key, es'[i].val] } := (sb.2 _ (Nat.ne_of_gt hlt)).trans hT
    have new : ObjOk X.prog X.w (upd H s.heap.objs.size (.tup [.ref x.2.1, v])) h'' s.heap.objs.size (.tup [.ref x.2.1, v]) :=
      ⟨by show 2 ≤ sizeLine; decide, [es'[i].key, es'[i].val], .cons ek (.cons (by rw [ev]; exact rv) .nil), ⟨_, hT2, rfl, _, rfl⟩⟩
    have I1 : Inv X pins σ (upd H s.heap.objs.size (.tup [.ref x.2.1, v])) { s with heap := h'' } :=
      I.turnedNew (t' := s.toks) (ch := [it]) (fun b ob hb e => (sb.2 b (by simpa using hb)).trans (hk b ob (by simpa using hb) e)) hf (Nat.le_refl _) new
    refine ⟨.ref s.heap.objs.size, _, I1, rfl, ⟨_, x, v, hx, rv, rfl, I.hok.fresh (Nat.le_refl _), rfl⟩, ⟨es'[i].key, es'[i].val, ?_⟩, fun b hb => ?_⟩
    · rw [← hsz]; exact he'
    · have e : b = it := by simpa using hb
      rw [e, upd_ne (Nat.ne_of_lt hlt)]
      exact (hf it (by simp)).1
  done := by
    intro X hP hw hK hc i pins s σ H E I hf st hg
    subst hP hw hK
    obtain ⟨hd, hi⟩ := hg
    obtain ⟨f0, f1, f2, f3, f4, f5⟩ := hf it (by simp)
    obtain ⟨hs, es', ep', hdt, hm, hsz, ent⟩ := frzN I hd
    obtain ⟨rfl, rfl⟩ := dict_ep hod hdt
    obtain ⟨ok, ov, he⟩ := st
    rw [← hsz] at he
    exact wpAny_pyNext_items_end_raw (I.ok.hd hc) he hm (by omega) fun h' eb => ⟨rfl, I.turned (t' := s.toks) (fun b ob hb e => eb b ob hb e) f0 f1 f3 f4 f5⟩
  self := fun A i s Q E st h => let ⟨_, _, e⟩ := st; PySem.W.kcp_self e h
end
def iNVals (td : TE) : TI := fun σ H R => td σ H fun x H1 => ∃ d o xs, x = .ref d ∧ H1 d = some (.frz o (DnO d xs)) ∧ R (Idv d o xs) H1
def iNItems (td : TE) : TI := fun σ H R => td σ H fun x H1 => ∃ d o xs, x = .ref d ∧ H1 d = some (.frz o (DnO d xs)) ∧ R (Idn d o xs) H1
section
variable {X : Cx} {tg e : Expr} {td : TE} {apos cpos : Pos}
theorem pi_nvalues (he : PE X e td) (hbase : attributeBase e "values" X.env (eval e X.env) = eval e X.env := by rfl) (hline : (apos.endLine == cpos.line) = true := by rfl) : PI X tg (.Call (.Attribute e "values" apos) [] [] cpos) (iNVals td) := by
  refine ⟨fun pins s σ H R I h => ?_⟩
  refine wpAny_Call_method (T := "dict") (id := "dict.values") hbase rfl hline F.plainAttrs_dict F.slot_dict_values F.type_dict_values (thn (he.run pins s σ H _ I h) fun u s1 ⟨x, H1, I1, rx, d, o, xs, ex, hd, q⟩ => ?_)
  subst ex
  obtain rfl : u = Value.ref d := rx
  obtain ⟨hs, es, ep, hdt, hm, hsz, ent⟩ := frzN I1 hd
  refine ⟨hm.typeIs, fun b q => ?_, ?_⟩
  · cases q
    obtain ⟨ob, h1, h2, _⟩ := hm
    exact ⟨ob, h1, h2.2.1⟩
  have I2 : Inv X pins σ H1 { s1 with heap := s1.heap.push { cls := .type "dict_values", data := .fields #[.ref d] } } := I1.kept (t' := s1.toks) fun b ob q => Heap.get?_push_of_some _ q
  have fin : wpAny (model X.prog X.w) X.A (pyIter (.ref s1.heap.objs.size)) (PIE X pins σ tg R) X.xe { s1 with heap := s1.heap.push { cls := .type "dict_values", data := .fields #[.ref d] } } := by
    refine wpAny_pyIter_values_raw (d := d) ⟨_, Heap.get?_push_size _ rfl, rfl, rfl⟩ (hm.at fun _ e => Heap.get?_push_of_some _ e) (pi_one (tk := s1.toks) I2 _ (turn_nvals _ hdt) ⟨_, Heap.get?_push_size _ rfl, rfl, ?_⟩ q)
    rw [hsz] <;> rfl
  show wpAny _ _ (callWith cpos (.builtin "dict.values") [.ref d] [] []) _ X.xe s1
  exact method_meetsIn F.slot_dict_values F.entry_dict_values rfl (PySem.evalArgs_none ⟨rfl, hm.typeIs, F.args_dict_values_1 _, _, meets_dict_values_raw d hs, ⟨es, ep, hm⟩, fin⟩)
theorem pi_nitems {elts : List Expr} {kk : Nat} {tpos : Pos} (he : PE X e td) (hbase : attributeBase e "items" X.env (eval e X.env) = eval e X.env := by rfl) (hline : (apos.endLine == cpos.line) = true := by rfl) :
    PI X (.Tuple elts kk tpos) (.Call (.Attribute e "items" apos) [] [] cpos) (iNItems td) := by
  refine ⟨fun pins s σ H R I h => ?_⟩
  refine wpAny_Call_method (T := "dict") (id := "dict.items") hbase rfl hline F.plainAttrs_dict F.slot_dict_items F.type_dict_items (thn (he.run pins s σ H _ I h) fun u s1 ⟨x, H1, I1, rx, d, o, xs, ex, hd, q⟩ => ?_)
  subst ex
  obtain rfl : u = Value.ref d := rx
  obtain ⟨hs, es, ep, hdt, hm, hsz, ent⟩ := frzN I1 hd
  refine ⟨hm.typeIs, fun b q => ?_, ?_⟩
  · cases q
    obtain ⟨ob, h1, h2, _⟩ := hm
    exact ⟨ob, h1, h2.2.1⟩
  have I2 : Inv X pins σ H1 { s1 with heap := s1.heap.push { cls := .type "dict_items", data := .fields #[.ref d] } } := I1.kept (t' := s1.toks) fun b ob q => Heap.get?_push_of_some _ q
  have fin : wpAny (model X.prog X.w) X.A (pyIter (.ref s1.heap.objs.size)) (PIE X pins σ (.Tuple elts kk tpos) R) X.xe { s1 with heap := s1.heap.push { cls := .type "dict_items", data := .fields #[.ref d] } } := by
    refine wpAny_pyIter_items_raw (d := d) ⟨_, Heap.get?_push_size _ rfl, rfl, rfl⟩ (hm.at fun _ e => Heap.get?_push_of_some _ e) (pi_one (tk := s1.toks) I2 _ (turn_nitems _ hdt) ⟨.none, .none, ?_⟩ q)
    rw [← hsz]
    exact Heap.get?_push_size _ rfl
  show wpAny _ _ (callWith cpos (.builtin "dict.items") [.ref d] [] []) _ X.xe s1
  exact method_meetsIn F.slot_dict_items F.entry_dict_items rfl (PySem.evalArgs_none ⟨rfl, hm.typeIs, F.args_dict_items_1 _, _, meets_dict_items_raw d hs, ⟨es, ep, hm⟩, fin⟩)
end
end DL
set_option maxHeartbeats 1000000
namespace DL
open PySem PySem.Spec PyProof.Rows L2
/-! ### dicts of nested keys as data -/
def nkOf : D → Option NK
  | .tup [.int i, .tup l] => (intsOf l).map fun ns => (i, ns)
  | _ => none
def nkD (k : NK) : D := .tup [.int k.1, .tup (k.2.map .int)]
theorem nkOf_D (k : NK) : nkOf (nkD k) = some k := by
  show (intsOf (k.2.map D.int)).map (fun ns => (k.1, ns)) = some k
  rw [intsOf_map]
  rfl
def lookN (l : List (NK × D)) (k : NK) : Option D := (l.find? fun p => decide (p.1 = k)).map (·.2)
def putN (l : List (NK × D)) (k : NK) (d : D) : List (NK × D) := if (lookN l k).isSome then l.map (fun p => if p.1 = k then (p.1, d) else p) else l ++ [(k, d)]
def otAt (S : DS) (i : Nat) : Option (List (NK × D)) := match S.sl[i]? with
  | some (some (.ot l)) => some l
  | _ => none
section
variable {K : PySem.W.Frag} {mg : MG} {G H : Hp} {n : Nat}
theorem rep_nk {v : V} {d : D} {k : NK} (r : Rep K mg G n v d) (h : nkOf d = some k) : ∃ p b, v = .ref p ∧ SqT K G p [.int k.1, .ref b] ∧ SqT K G b (k.2.map V.int) := by
  unfold nkOf at h
  split at h
  · rename_i i l
    cases hi : intsOf l with
    | none =>
      rw [hi] at h
      cases h
    | some ns =>
      rw [hi] at h
      have e := Option.some.inj h
      subst e
      have el := intsOf_eq hi
      subst el
      cases r with
      | @tup p xs ds h1 a =>
        obtain ⟨v1, v2, ex, r1, r2⟩ := rep2 a
        subst ex
        cases r1
        cases r2 with
        | @tup b ys ds h2 a2 =>
          rw [RepAll.ints_inv a2] at h2
          exact ⟨p, b, rfl, h1, h2⟩
  · cases h
theorem repT_kn (s : Sub G H) : ∀ {xs : List NE} {l : List (NK × D)}, RepT K mg G n xs l → KN K H xs
  | _, _, .nil => fun x hx => absurd hx List.not_mem_nil
  | _, _, .cons h1 h2 r a b => fun x hx => by
    rcases List.mem_cons.mp hx with e | hx
    · subst e
      exact ⟨⟨_, sqT_sub s h1, sqT_sub s h2⟩, _, r⟩
    · exact repT_kn s b x hx
theorem atKey_cons {x : NE} {xs : List NE} {k : NK} : atKey (x :: xs) k = if x.1 = k then some x.2 else atKey xs k := by
  unfold atKey
  rw [List.find?_cons]
  by_cases e : x.1 = k
  · rw [decide_eq_true e, if_pos e]
    rfl
  · rw [decide_eq_false e, if_neg e]
theorem lookN_cons {x : NK × D} {xs : List (NK × D)} {k : NK} : lookN (x :: xs) k = if x.1 = k then some x.2 else lookN xs k := by
  unfold lookN
  rw [List.find?_cons]
  by_cases e : x.1 = k
  · rw [decide_eq_true e, if_pos e]
    rfl
  · rw [decide_eq_false e, if_neg e]
theorem repN_look {k : NK} : ∀ {xs : List NE} {l : List (NK × D)}, RepT K mg G n xs l → (lookN l k = none ∧ (atKey xs k).map (·.2) = none) ∨ ∃ d u v, lookN l k = some d ∧ (atKey xs k).map (·.2) = some u ∧ RelV v u ∧ Rep K mg G n v d
  | _, _, .nil => .inl ⟨rfl, rfl⟩
  | _, _, .cons (k := k') (u := u) (v := v) (d := d) h1 h2 r a b => by
    rw [lookN_cons, atKey_cons]
    by_cases e : k' = k
    · rw [if_pos e, if_pos e]
      exact .inr ⟨d, u, v, rfl, rfl, r, a⟩
    · rw [if_neg e, if_neg e]
      exact repN_look b
theorem repN_len : ∀ {xs : List NE} {l : List (NK × D)}, RepT K mg G n xs l → xs.length = l.length
  | _, _, .nil => rfl
  | _, _, .cons _ _ _ a b => by rw [List.length_cons, List.length_cons, repN_len b]
theorem repN_some {k : NK} {xs : List NE} {l : List (NK × D)} (r : RepT K mg G n xs l) : (atKey xs k).isSome = (lookN l k).isSome := by
  rcases repN_look (k := k) r with ⟨h1, h2⟩ | ⟨d, u, v, h1, h2, _⟩
  · rw [h1]
    cases q : atKey xs k with
    | none => rfl
    | some p =>
      rw [q] at h2
      cases h2
  · rw [h1]
    cases q : atKey xs k with
    | none =>
      rw [q] at h2
      cases h2
    | some p => rfl
theorem repN_app : ∀ {xs ys : List NE} {l m : List (NK × D)}, RepT K mg G n xs l → RepT K mg G n ys m → RepT K mg G n (xs ++ ys) (l ++ m)
  | _, _, _, _, .nil, h => h
  | _, _, _, _, .cons h1 h2 r a b, h => .cons h1 h2 r a (repN_app b h)
theorem repN_map {k : NK} {v : V} {u : Value} {d : D} (ru : RelV v u) (r : Rep K mg G n v d) : ∀ {xs : List NE} {l : List (NK × D)}, RepT K mg G n xs l → RepT K mg G n (xs.map (putAt k u)) (l.map fun p => if p.1 = k then (p.1, d) else p)
  | _, _, .nil => .nil
  | _, _, .cons (k := k') h1 h2 r' a b => by
    rw [List.map_cons, List.map_cons]
    unfold putAt
    by_cases e : k' = k
    · rw [if_pos e, if_pos e]
      exact .cons h1 h2 ru r (repN_map ru r b)
    · rw [if_neg e, if_neg e]
      exact .cons h1 h2 r' a (repN_map ru r b)
theorem repN_put {k : NK} {p b : Addr} {v : V} {u : Value} {d : D} (h1 : SqT K G p [.int k.1, .ref b]) (h2 : SqT K G b (k.2.map V.int)) (ru : RelV v u) (r : Rep K mg G n v d) {xs : List NE} {l : List (NK × D)} (h : RepT K mg G n xs l) :
    RepT K mg G n (storedH xs k p u) (putN l k d) := by
  unfold storedH putN
  rw [repN_some h]
  by_cases e : (lookN l k).isSome = true
  · rw [if_pos e, if_pos e]
    exact repN_map ru r h
  · rw [if_neg e, if_neg e]
    exact repN_app h (.cons h1 h2 ru r .nil)
end
section
variable {c : Ct} {K : PySem.W.Frag} {mg : MG} {σ : Sig} {G H : Hp} {S : DS} {i : Nat}
theorem ot_get (R : Rp c K mg σ G H S) {l : List (NK × D)} (h : otAt S i = some l) : ∃ a xs, S.sl[i]? = some (some (.ot l)) ∧ σ[i]? = some (some (.ref a)) ∧ G a = none ∧ (c.G0 a = none → c.H0 a = none) ∧ H a = some (DnO a xs) ∧ RepT K mg G S.n xs l := by
  unfold otAt at h
  split at h
  · rename_i e
    cases h
    have z := R.slots i
    rw [e] at z
    obtain ⟨a, e', h1, h2, xs, h3, h4⟩ := z
    exact ⟨a, xs, e, e', h1, h2, h3, h4⟩
  · cases h
theorem nOt {l : List (NK × D)} : ∀ d, SV.ot l ≠ .p d := fun _ z => nomatch z
theorem Aft.putT (R : Rp c K mg σ G H S) {a : Addr} {l l' : List (NK × D)} {xs : List NE} (hs : S.sl[i]? = some (some (.ot l))) (hσ : σ[i]? = some (some (.ref a))) (g : G a = none) (h0 : c.G0 a = none → c.H0 a = none) (r : RepT K mg G S.n xs l') :
    Aft c K mg σ G H S (upd H a (DnO a xs)) G { S with sl := S.sl.set i (some (.ot l')) } := by
  refine ⟨by show Le c.T (S.n - S.n) G G; rw [Nat.sub_self]; exact .refl _ _, Nat.le_refl _, R.put hs (fun _ z => nomatch z) (fun _ z => nomatch z) hσ fun H' e => ⟨g, h0, xs, e, r⟩, fun b o h1 h2 h3 => ?_⟩
  have ne : b ≠ a := fun z => by
    subst z
    exact h3 i (by rw [hs]; exact True.intro) hσ
  refine ⟨by rw [upd_ne ne]; exact h1, h2, fun j o e => ?_⟩
  have o' : isOwn (S.sl.set i (some (SV.ot l')))[j]? := o
  by_cases hj : i = j
  · subst hj
    rw [hσ] at e
    cases e
    exact ne rfl
  · rw [List.getElem?_set_ne hj] at o'
    exact h3 j o' e
end
section
variable {c : Ct} {X : Cx} {i : Nat} {x : Str} {p apos cpos pos : Pos} {kE : Expr} {dk : DE}
def dfDictT : DF := fun S Q => Q (.ot []) S
theorem pdf_dictT : PDF c X (.Dict [] [] pos) dfDictT :=
  ⟨_, pe_nnew, fun σ G H S Qd Q R hQ h p np => hQ _ _ ⟨p, H, _, .ot [], G, S, rfl, np, rfl, .refl R, fun H2 e => ⟨R.gnone np, R.old np, [], e, .nil⟩, nOt, h⟩⟩
/-- x.get(k, v) -/
def dDGetN (i : Nat) (dk : DE) (dv : DE) : DE := fun S Q => (∃ l0, otAt S i = some l0) ∧ dk S fun kd S1 => dv S1 fun v S2 => ∃ l ky, otAt S2 i = some l ∧ nkOf kd = some ky ∧ Q ((lookN l ky).getD v) S2
theorem pd_dgetN {f : Expr} {dv : DE} (hu : X.A.units + 64 < cLine) (hN : X.N[i]? = some x) (hv : Vis X.env.scope x) (hk : PDE c X kE dk) (hf : PDE c X f dv) (m : M2 X (.Name x p) "get" apos kE f cpos) (hd : (x == ("__debug__" : Str)) = false := by decide) (hcd : (x == ("__classdict__" : Str)) = false := by decide) :
    PDE c X (.Call (.Attribute (.Name x p) "get" apos) [kE, f] [] cpos) (dDGetN i dk dv) := by
  obtain ⟨tk, k1, k2⟩ := hk
  obtain ⟨tf, f1, f2⟩ := hf
  refine ⟨_, pe_nget2 hu (pe_var hN hv hd hcd) k1 f1 m, fun σ G H S Qd Q R hQ h => ?_⟩
  obtain ⟨⟨l0, h0⟩, h⟩ := h
  obtain ⟨a, xs0, _, q2, _, _, q5, q6⟩ := ot_get R h0
  refine ⟨.ref a, q2, a, rfl, ⟨xs0, q5, repT_kn R.sub q6⟩, ?_⟩
  refine k2 σ G H S _ _ R (fun v H1 ⟨G1, S1, kd, A, r, h1⟩ => ?_) h
  refine f2 σ G1 H1 S1 _ _ A.rp (fun u H2 ⟨G2, S2, dv, A3, r3, h2⟩ => ?_) h1
  obtain ⟨l, ky, hl, ek, h2⟩ := h2
  obtain ⟨a', xs, _, p2, _, _, p5, p6⟩ := ot_get A3.rp hl
  rw [q2] at p2
  cases p2
  obtain ⟨q, b, ev, s1, s2⟩ := rep_nk (A3.rep r) ek
  subst ev
  rcases repN_look (k := ky) p6 with ⟨z1, z2⟩ | ⟨d', w, v, z1, z2, z3, z4⟩
  · refine ⟨xs, ky, q, b, u, p5, repT_kn A3.rp.sub p6, rfl, sqT_sub A3.rp.sub s1, sqT_sub A3.rp.sub s2, .inr ⟨z2, rfl⟩, ?_⟩
    refine hQ _ _ ⟨G2, S2, _, A.trans A3, ?_, h2⟩
    rw [z1]
    exact r3
  · refine ⟨xs, ky, q, b, v, p5, repT_kn A3.rp.sub p6, rfl, sqT_sub A3.rp.sub s1, sqT_sub A3.rp.sub s2, .inl ⟨w, z2, z3⟩, ?_⟩
    refine hQ _ _ ⟨G2, S2, _, A.trans A3, ?_, h2⟩
    rw [z1]
    exact z4
/-- x[k] = v -/
def dDPutN (i : Nat) (dk : DE) (dv : DE) : DSt := fun B S => dv S fun d S1 => (∃ l0, otAt S1 i = some l0) ∧ dk S1 fun kd S2 => ∃ l ky, otAt S2 i = some l ∧ nkOf kd = some ky ∧ l.length < 16777216 ∧ B.nx { S2 with sl := S2.sl.set i (some (.ot (putN l ky d))) }
theorem pds_dputN {v : Expr} {dv : DE} (hu : X.A.units + 64 < cLine) (hN : X.N[i]? = some x) (hv : Vis X.env.scope x) (hk : PDE c X kE dk) (hval : PDE c X v dv) (hs : swapsWith v (some (.Subscript (.Name x p) kE apos)) pos.line X.env = pure false := by rfl) (hd : (x == ("__debug__" : Str)) = false := by decide) (hcd : (x == ("__classdict__" : Str)) = false := by decide) :
    PDS c X (.Assign [.Subscript (.Name x p) kE apos] v pos) (dDPutN i dk dv) := by
  obtain ⟨tk, k1, k2⟩ := hk
  obtain ⟨tv, v1, v2⟩ := hval
  refine ⟨_, ps_nput hu (pe_var hN hv hd hcd) k1 v1 hs, fun σ G H S B E R h1 h2 h3 h4 h => ?_⟩
  refine v2 σ G H S _ _ R (fun w H1 ⟨G1, S1, d, A, r, q⟩ => ?_) h
  obtain ⟨⟨l0, e0⟩, q⟩ := q
  obtain ⟨a, xs0, _, q2, _, _, q5, _⟩ := ot_get A.rp e0
  refine ⟨.ref a, q2, ?_⟩
  refine k2 σ G1 H1 S1 _ _ A.rp (fun u H2 ⟨G2, S2, kd, A2, r2, q'⟩ => ?_) q
  obtain ⟨l, ky, el, ek, hz2, q'⟩ := q'
  obtain ⟨a', xs, p1, p2, p3, p4, p5, p6⟩ := ot_get A2.rp el
  rw [q2] at p2
  cases p2
  obtain ⟨t, b, ev, s1, s2⟩ := rep_nk r2 ek
  subst ev
  refine ⟨a, xs, ky, t, b, rfl, p5, repT_kn A2.rp.sub p6, rfl, sqT_sub A2.rp.sub s1, sqT_sub A2.rp.sub s2, by rw [repN_len p6, sizeLine_eq]; exact hz2, fun uu ru => ?_⟩
  have B2 := Aft.putT A2.rp p1 q2 p3 p4 (repN_put s1 s2 ru (A2.rep r) p6)
  exact h1 _ _ ⟨_, _, B2.rp, ((A.trans A2).trans B2).le, ((A.trans A2).trans B2).nle, q'⟩
/-- {k: v} -/
def dDisp (dk dv : DE) : DE := fun S Q => dk S fun kd S1 => dv S1 fun v S2 => ∃ ky, nkOf kd = some ky ∧ Q (.dn [(ky, v)]) S2
theorem pd_disp {v : Expr} {dv : DE} (hu : X.A.units + 64 < cLine) (hk : PDE c X kE dk) (hv : PDE c X v dv) : PDE c X (.Dict [some kE] [v] pos) (dDisp dk dv) := by
  obtain ⟨tk, k1, k2⟩ := hk
  obtain ⟨tv, v1, v2⟩ := hv
  refine ⟨_, pe_ndisp hu k1 v1, fun σ G H S Qd Q R hQ h P nP => ?_⟩
  have gP : G P = none := R.gnone nP
  have hP0 := R.old nP
  have loP : Loose σ S P := R.fresh_loose nP
  have R0 := R.hide (o := DnO P []) nP pl_dN
  have A0 : Aft c X.K X.mg σ G H S (upd H P (DnO P [])) G S := ⟨by rw [Nat.sub_self]; exact .refl _ _, Nat.le_refl _, R0, fun b o h n l => ⟨by rw [upd_ne (ne_of_none h nP)]; exact h, n, l⟩⟩
  refine k2 σ G _ S _ _ R0 (fun kv H1 ⟨G1, S1, kd, A1, r1, q1⟩ => ?_) h
  refine v2 σ G1 H1 S1 _ _ A1.rp (fun vv H2 ⟨G2, S2, d, A2, r2, q2⟩ => ?_) q1
  obtain ⟨ky, ek, q2⟩ := q2
  obtain ⟨t, b, ev, s1, s2⟩ := rep_nk (A2.rep r1) ek
  subst ev
  obtain ⟨hP2, gP2, loP2⟩ := (A1.trans A2).hid P _ upd_same gP loP
  refine ⟨hP2, ky, t, b, rfl, sqT_sub A2.rp.sub s1, sqT_sub A2.rp.sub s2, fun u ru => ?_⟩
  have R3 := A2.rp.poke (o := DnO P [(ky, t, u)]) gP2 hP0 pl_dN loP2
  have R4 := R3.adopt gP2 hP0 loP2 upd_same
  have sm : Same G2 (upd G2 P (DnO P [(ky, t, u)])) := fun b w e => by
    rw [upd_ne (ne_of_none e gP2)]
    exact e
  have A3 := (A0.trans A1).trans A2
  refine hQ _ _ ⟨upd G2 P (DnO P [(ky, t, u)]), S2, .dn [(ky, d)], ⟨?_, A3.nle, R4, fun b o h1 h2 h3 => ?_⟩, .dn (.inl upd_same) (.cons (sqT_le (Le.same (T := c.T) sm) s1) (sqT_le (Le.same (T := c.T) sm) s2) ru (r2.same sm) .nil), q2⟩
  · exact A3.le.trans (Le.same (T := c.T) sm)
  · obtain ⟨j1, j2, j3⟩ := A3.hid b o h1 h2 h3
    have ne : b ≠ P := ne_of_none h1 nP
    exact ⟨by rw [upd_ne ne]; exact j1, by rw [upd_ne ne]; exact j2, j3⟩
end
end DL
set_option maxHeartbeats 1000000
namespace DL
open PySem PySem.Spec PyProof.Rows L2
/-! ### a dict of nested keys locked, one's own objects kept -/
/-- what stands for data in G stands so in G' -/
structure Tr (G G' : Hp) : Prop where
  rd : ∀ b u, (∀ o w, u ≠ .frz o w) → Rd G b u → Rd G' b u
  di : ∀ b B, G b = some (DiceO b B) → G' b = some (DiceO b B)
section
variable {K : PySem.W.Frag} {mg : MG} {G G' H : Hp} {n : Nat}
theorem Tr.l (t : Tr G G') {a : Addr} {xs : List V} (h : SqL K G a xs) : SqL K G' a xs := h.elim (fun h => .inl (t.rd _ _ (fun _ _ z => nomatch z) h)) .inr
theorem Tr.t (t : Tr G G') {a : Addr} {xs : List V} (h : SqT K G a xs) : SqT K G' a xs := by
  rcases h with h | h
  · exact .inl (t.rd _ _ (fun _ _ z => nomatch z) h)
  · exact .inr h
theorem dn_ne_frz {a : Addr} {xs : List NE} {o : Obj} {w : HO} : DnO a xs ≠ .frz o w := fun z => by
  unfold DnO at z
  cases z
theorem Tr.k (t : Tr G G') {a : Addr} {xs : List (Key × V)} (h : Rd G a (.dK xs)) : Rd G' a (.dK xs) := t.rd _ _ (fun _ _ z => nomatch z) h
theorem Tr.dn (t : Tr G G') {a : Addr} {xs : List NE} (h : Rd G a (DnO a xs)) : Rd G' a (DnO a xs) := t.rd _ _ (fun _ _ => dn_ne_frz) h
mutual
theorem Rep.tr (t : Tr G G') : ∀ {v : V} {d : D}, Rep K mg G n v d → Rep K mg G' n v d
  | _, _, .non => .non
  | _, _, .bl b => .bl b
  | _, _, .int i => .int i
  | _, _, .str x => .str x
  | _, _, .lst r q => .lst (t.l r) (RepAll.tr t q)
  | _, _, .tup r q => .tup (t.t r) (RepAll.tr t q)
  | _, _, .dct r q => .dct (t.k r) (RepK.tr t q)
  | _, _, .fn r => .fn r
  | _, _, .ty x => .ty x
  | _, _, .dice r hb => .dice (t.di _ _ r) hb
  | _, _, .dn r q => .dn (t.dn r) (RepT.tr t q)
theorem RepAll.tr (t : Tr G G') : ∀ {vs : List V} {ds : List D}, RepAll K mg G n vs ds → RepAll K mg G' n vs ds
  | _, _, .nil => .nil
  | _, _, .cons p q => .cons (Rep.tr t p) (RepAll.tr t q)
theorem RepK.tr (t : Tr G G') : ∀ {vs : List (Key × V)} {ds : List (Key × D)}, RepK K mg G n vs ds → RepK K mg G' n vs ds
  | _, _, .nil => .nil
  | _, _, .cons p q => .cons (Rep.tr t p) (RepK.tr t q)
theorem RepT.tr (t : Tr G G') : ∀ {vs : List NE} {ds : List (NK × D)}, RepT K mg G n vs ds → RepT K mg G' n vs ds
  | _, _, .nil => .nil
  | _, _, .cons h1 h2 r p q => .cons (t.t h1) (t.t h2) r (Rep.tr t p) (RepT.tr t q)
end
theorem tr_lock {a : Addr} {xs : List NE} {od : Obj} (h : G a = some (DnO a xs)) : Tr G (upd G a (.frz od (DnO a xs))) where
  rd := fun b u hu r => by
    by_cases e : b = a
    · subst e
      rcases r with r | ⟨o, r⟩
      · rw [h] at r
        cases r
        exact .inr ⟨od, upd_same⟩
      · rw [h] at r
        exact absurd (Option.some.inj r) dn_ne_frz
    · rcases r with r | ⟨o, r⟩
      · exact .inl (by rw [upd_ne e]; exact r)
      · exact .inr ⟨o, by rw [upd_ne e]; exact r⟩
  di := fun b B r => by
    rw [upd_ne (fun e => by rw [e, h] at r; exact dn_ne_dice (Option.some.inj r).symm)]
    exact r
theorem tr_unlock {a : Addr} {xs : List NE} {od : Obj} (h : G a = some (.frz od (DnO a xs))) : Tr G (upd G a (DnO a xs)) where
  rd := fun b u hu r => by
    by_cases e : b = a
    · subst e
      rcases r with r | ⟨o, r⟩
      · rw [h] at r
        exact absurd (Option.some.inj r).symm (hu _ _)
      · rw [h] at r
        cases r
        exact .inl upd_same
    · rcases r with r | ⟨o, r⟩
      · exact .inl (by rw [upd_ne e]; exact r)
      · exact .inr ⟨o, by rw [upd_ne e]; exact r⟩
  di := fun b B r => by
    rw [upd_ne (fun e => by rw [e, h] at r; exact dice_ne_frz (Option.some.inj r).symm)]
    exact r
theorem Owns.tr {c c' : Ct} {a : Addr} {u : SV} {H' : Hp} (t : Tr G G') (g : G a = none → G' a = none) (h0 : (c.G0 a = none → c.H0 a = none) → G a = none → (c'.G0 a = none → c'.H0 a = none)) (hh : ∀ o, G a = none → H a = some o → H' a = some o) (h : Owns K mg c G H n a u) : Owns K mg c' G' H' n a u := by
  cases u with
  | p d => exact h
  | ol l =>
    obtain ⟨h1, h2, xs, h3, h4⟩ := h
    exact ⟨g h1, h0 h2 h1, xs, hh _ h1 h3, h4.tr t⟩
  | od l =>
    obtain ⟨h1, h2, xs, h3, h4⟩ := h
    exact ⟨g h1, h0 h2 h1, xs, hh _ h1 h3, h4.tr t⟩
  | ot l =>
    obtain ⟨h1, h2, xs, h3, h4⟩ := h
    exact ⟨g h1, h0 h2 h1, xs, hh _ h1 h3, h4.tr t⟩
theorem SlotOk.tr {c c' : Ct} {H' : Hp} {v : Option (Option V)} {u : Option (Option SV)} (t : Tr G G') (own : isOwn u → ∀ a, v = some (some (.ref a)) → (G a = none → G' a = none) ∧ ((c.G0 a = none → c.H0 a = none) → G a = none → (c'.G0 a = none → c'.H0 a = none)) ∧ (∀ o, G a = none → H a = some o → H' a = some o))
    (h : SlotOk K mg c G H n v u) : SlotOk K mg c' G' H' n v u := by
  cases u with
  | none => exact True.intro
  | some w =>
    cases w with
    | none => exact True.intro
    | some w =>
      cases w with
      | p d =>
        obtain ⟨x, e, r⟩ := h
        exact ⟨x, e, r.tr t⟩
      | ol l =>
        obtain ⟨a, e, o⟩ := h
        obtain ⟨q1, q2, q3⟩ := own True.intro a e
        exact ⟨a, e, o.tr t q1 q2 q3⟩
      | od l =>
        obtain ⟨a, e, o⟩ := h
        obtain ⟨q1, q2, q3⟩ := own True.intro a e
        exact ⟨a, e, o.tr t q1 q2 q3⟩
      | ot l =>
        obtain ⟨a, e, o⟩ := h
        obtain ⟨q1, q2, q3⟩ := own True.intro a e
        exact ⟨a, e, o.tr t q1 q2 q3⟩
end
theorem SlotOk.own {c : Ct} {K : PySem.W.Frag} {mg : MG} {G H : Hp} {n : Nat} {v : Option (Option V)} {u : Option (Option SV)} (h : SlotOk K mg c G H n v u) (o : isOwn u) {a : Addr} (e : v = some (some (.ref a))) : G a = none ∧ (c.G0 a = none → c.H0 a = none) := by
  cases u with
  | none => exact o.elim
  | some w =>
    cases w with
    | none => exact o.elim
    | some w =>
      cases w with
      | p d => exact o.elim
      | ol l =>
        obtain ⟨a', e', h1, h2, _⟩ := h
        rw [e] at e'
        cases e'
        exact ⟨h1, h2⟩
      | od l =>
        obtain ⟨a', e', h1, h2, _⟩ := h
        rw [e] at e'
        cases e'
        exact ⟨h1, h2⟩
      | ot l =>
        obtain ⟨a', e', h1, h2, _⟩ := h
        rw [e] at e'
        cases e'
        exact ⟨h1, h2⟩
open Classical in
/-- the heap at the entry of a locked block: one's own objects are not told -/
noncomputable def lkH (σ : Sig) (S : DS) (H : Hp) : Hp := fun b => if Loose σ S b then H b else none
noncomputable abbrev lkCt (c : Ct) (σ : Sig) (G H : Hp) (S : DS) (a : Addr) (o : HO) : Ct := ⟨c.T, upd G a o, lkH σ S (upd H a o), S.n, c.E, c.ED⟩
section
variable {c : Ct} {K : PySem.W.Frag} {mg : MG} {σ σ' : Sig} {G H G' H' : Hp} {S S' : DS} {a : Addr} {xs : List NE} {od : Obj}
theorem lkH_some {b : Addr} {o : HO} (h : lkH σ S H b = some o) : Loose σ S b ∧ H b = some o := by
  unfold lkH at h
  split at h
  · exact ⟨by assumption, h⟩
  · cases h
theorem lkH_loose {b : Addr} (h : Loose σ S b) : lkH σ S H b = H b := if_pos h
theorem lkH_tied {b : Addr} (h : ¬ Loose σ S b) : lkH σ S H b = none := if_neg h
theorem tied {b : Addr} (h : ¬ Loose σ S b) : ∃ i : Nat, isOwn S.sl[i]? ∧ σ[i]? = some (some (V.ref b)) := by
  unfold Loose at h
  apply Classical.byContradiction
  intro z
  exact h fun i o e => z ⟨i, o, e⟩
theorem Rp.lockS (R : Rp c K mg σ G H S) (ha : G a = some (DnO a xs)) : Rp (lkCt c σ G H S a (.frz od (DnO a xs))) K mg σ (upd G a (.frz od (DnO a xs))) (upd H a (.frz od (DnO a xs))) S := by
  refine ⟨⟨fun b o e => ?_, fun b o e n => ?_⟩, Nat.le_refl _, by show Le c.T (S.n - S.n) _ _; rw [Nat.sub_self]; exact .refl _ _, fun b o h1 h2 => ⟨(lkH_some h1).2, h2⟩, fun b o h1 h2 => ?_, tabs_upd R.tabs ha (fun _ z => by unfold DnO at z; cases z) (fun _ _ => dn_ne_code), R.len, fun i => ?_, R.apart⟩
  · by_cases hb : b = a
    · subst hb
      rw [upd_same] at e ⊢
      exact e
    · rw [upd_ne hb] at e ⊢
      exact R.sub b o e
  · by_cases hb : b = a
    · subst hb
      rw [upd_same] at n
      cases n
    · rw [upd_ne hb] at e n
      exact R.sub.hd b o e n
  · have h2' : upd G a (.frz od (DnO a xs)) b = none := h2
    rw [h2'] at h1
    cases h1
  · refine (R.slots i).tr (tr_lock ha) fun o b e => ⟨fun g => ?_, fun h0 g g0 => ?_, fun o' g h => ?_⟩
    · rw [upd_ne (fun z => by rw [z, ha] at g; cases g)]
      exact g
    · refine lkH_tied fun lo => lo i o e
    · rw [upd_ne (fun z => by rw [z, ha] at g; cases g)]
      exact h
theorem Rp.unlockS (R : Rp c K mg σ G H S) (ha : G a = some (DnO a xs)) (R' : Rp (lkCt c σ G H S a (.frz od (DnO a xs))) K mg σ' G' H' S') :
    Rp c K mg σ' (upd G' a (DnO a xs)) (upd H' a (DnO a xs)) S' ∧ Le c.T (S.n - S'.n) G (upd G' a (DnO a xs)) ∧ S'.n ≤ S.n ∧ H' a = some (.frz od (DnO a xs)) := by
  have hn : S'.n ≤ S.n := R'.nle
  have l' : Le c.T (S.n - S'.n) (upd G a (.frz od (DnO a xs))) G' := R'.le
  have hG : G' a = some (.frz od (DnO a xs)) := l'.keep a _ upd_same firm_frz
  have hH : H' a = some (.frz od (DnO a xs)) := R'.sub _ _ hG
  have l : Le c.T (S.n - S'.n) G (upd G' a (DnO a xs)) := by
    refine ⟨fun b o e f => ?_, fun b B e => ?_, fun t => tabs_upd R'.tabs hG (fun _ z => by cases z) frz_code⟩
    · by_cases hb : b = a
      · subst hb
        rw [ha] at e
        cases e
        exact upd_same
      · rw [upd_ne hb]
        exact l'.keep b o (by rw [upd_ne hb]; exact e) f
    · have hb : b ≠ a := fun z => by
        rw [z, ha] at e
        exact dn_ne_dice (Option.some.inj e).symm
      obtain ⟨B', h1, h2⟩ := l'.roll b B (by rw [upd_ne hb]; exact e)
      exact ⟨B', h1, by rw [upd_ne hb]; exact h2⟩
  have key : ∀ b, b ≠ a → lkH σ S (upd H a (.frz od (DnO a xs))) b = none → c.G0 b = none → c.H0 b = none := fun b hb h0 g0 => by
    by_cases lo : Loose σ S b
    · rw [lkH_loose lo, upd_ne hb] at h0
      exact R.old h0 g0
    · obtain ⟨i, o, e⟩ := tied lo
      exact ((R.slots i).own o e).2 g0
  have gn : ∀ {b}, b ≠ a → G b = none → upd G a (HO.frz od (DnO a xs)) b = none := fun {b} ne h => by rw [upd_ne ne]; exact h
  refine ⟨⟨⟨fun b o e => ?_, fun b o e n => ?_⟩, Nat.le_trans hn R.nle, ?_, fun b o h1 h2 => ?_, fun b o h1 h2 => ?_, l.tabs R.tabs, R'.len, fun i => ?_, R'.apart⟩, l, hn, hH⟩
  · by_cases hb : b = a
    · subst hb
      rw [upd_same] at e ⊢
      exact e
    · rw [upd_ne hb] at e ⊢
      exact R'.sub b o e
  · by_cases hb : b = a
    · subst hb
      rw [upd_same] at n
      cases n
    · rw [upd_ne hb] at e n
      exact R'.sub.hd b o e n
  · have z := R.le.trans l
    have := R.nle
    have e : c.n0 - S.n + (S.n - S'.n) = c.n0 - S'.n := by omega
    rw [e] at z
    exact z
  · obtain ⟨h3, h4⟩ := R.hid b o h1 h2
    have hb : b ≠ a := fun z => by
      rw [z, ha] at h4
      cases h4
    have lo : Loose σ S b := Classical.byContradiction fun z => by
      obtain ⟨i, o', e⟩ := tied z
      have q := ((R.slots i).own o' e).2 h2
      rw [q] at h1
      cases h1
    obtain ⟨k1, k2⟩ := R'.hid b o (by show lkH σ S _ b = _; rw [lkH_loose lo, upd_ne hb]; exact h3) (gn hb h4)
    exact ⟨by rw [upd_ne hb]; exact k1, by rw [upd_ne hb]; exact k2⟩
  · by_cases hb : b = a
    · rw [hb] at h2 ⊢
      exact R.new a _ ha h2
    · rw [upd_ne hb] at h1
      cases e : G b with
      | some u => exact R.new b u e h2
      | none => exact key b hb (R'.new b o h1 (gn hb e)) h2
  · refine (R'.slots i).tr (tr_unlock hG) fun o b e => ?_
    have ne : ∀ {g : G' b = none}, b ≠ a := fun {g} z => by
      rw [z, hG] at g
      cases g
    refine ⟨fun g => ?_, fun h0 g g0 => ?_, fun o' g h => ?_⟩
    · rw [upd_ne (ne (g := g))]
      exact g
    · have hb := ne (g := g)
      cases q : G b with
      | some u => exact R.new b u q g0
      | none => exact key b hb (h0 (gn hb q)) g0
    · rw [upd_ne (ne (g := g))]
      exact h
end
/-! ### the weakest readings of statements and targets -/
def canS (c : Ct) (K : PySem.W.Frag) (mg : MG) (ds : DSt) : TS := fun E σ H => ∃ G S B, Rp c K mg σ G H S ∧ (∀ σ' H', WN c K mg G S.n B.nx σ' H' → E.nx σ' H') ∧ (∀ v H', WR c K mg B.rt v H' → E.rt v H') ∧ (∀ σ' H', WN c K mg G S.n B.bk σ' H' → E.bk σ' H') ∧ (∀ σ' H', WN c K mg G S.n B.ct σ' H' → E.ct σ' H') ∧ ds B S
def canG (c : Ct) (K : PySem.W.Frag) (mg : MG) (g : DG) : TG := fun v σ H Q => ∃ G S d Qd, Rp c K mg σ G H S ∧ Rep K mg G S.n v d ∧ (∀ σ' H', (∃ G' S', Rp c K mg σ' G' H' S' ∧ Le c.T (S.n - S'.n) G G' ∧ S'.n ≤ S.n ∧ Qd S') → Q σ' H') ∧ g d S Qd
section
variable {c : Ct} {X : Cx}
theorem PDSs.can {st : List Stmt} {ds : DSt} (h : PDSs c X st ds) : PSs X st (canS c X.K X.mg ds) := by
  obtain ⟨t, h1, h2⟩ := h
  refine ⟨fun pins s σ H E I hq => ?_⟩
  obtain ⟨G, S, B, R, q1, q2, q3, q4, q5⟩ := hq
  exact h1.run pins s σ H E I (h2 σ G H S B E R q1 q2 q3 q4 q5)
theorem PDG.can {tg : Expr} {g : DG} (h : PDG c X tg g) : PG X tg (canG c X.K X.mg g) := by
  obtain ⟨t, h1, h2⟩ := h
  refine ⟨fun pins s σ H v u Q I r hq => ?_⟩
  obtain ⟨G, S, d, Qd, R, q1, q2, q3⟩ := hq
  exact h1.run pins s σ H v u Q I r (h2 σ G H S v d Qd Q R q1 q2 q3)
def anyS (T : TT0) (K : PySem.W.Frag) (mg : MG) (E : XK) (ED : Exc → Nat → Prop) (ds : DSt) : TS := fun D σ H => ∃ G0 H0 n0, canS ⟨T, G0, H0, n0, E, ED⟩ K mg ds D σ H
def anyG (T : TT0) (K : PySem.W.Frag) (mg : MG) (E : XK) (ED : Exc → Nat → Prop) (g : DG) : TG := fun v σ H Q => ∃ G0 H0 n0, canG ⟨T, G0, H0, n0, E, ED⟩ K mg g v σ H Q
theorem sim_anyS {T : TT0} {K : PySem.W.Frag} {mg : MG} {E : XK} {ED : Exc → Nat → Prop} {ds : DSt} {G0 H0 : Hp} {n0 : Nat} : SimS ⟨T, G0, H0, n0, E, ED⟩ K mg (anyS T K mg E ED ds) ds := fun σ G H S B D R h1 h2 h3 h4 h => ⟨G0, H0, n0, G, S, B, R, h1, h2, h3, h4, h⟩
theorem sim_anyG {T : TT0} {K : PySem.W.Frag} {mg : MG} {E : XK} {ED : Exc → Nat → Prop} {g : DG} {G0 H0 : Hp} {n0 : Nat} : SimG ⟨T, G0, H0, n0, E, ED⟩ K mg (anyG T K mg E ED g) g := fun σ G H S v d Qd Q R r hQ h => ⟨G0, H0, n0, G, S, d, Qd, R, r, hQ, h⟩
theorem anyS_of {st : List Stmt} {ds : DSt} (h : ∀ G0 H0 n0, PDSs (ctW c G0 H0 n0) X st ds) : PSs X st (anyS c.T X.K X.mg c.E c.ED ds) := by
  refine ⟨fun pins s σ H D I hq => ?_⟩
  obtain ⟨G0, H0, n0, hq⟩ := hq
  exact (h G0 H0 n0).can.run pins s σ H D I hq
theorem anyG_of {tg : Expr} {g : DG} (h : ∀ G0 H0 n0, PDG (ctW c G0 H0 n0) X tg g) : PG X tg (anyG c.T X.K X.mg c.E c.ED g) := by
  refine ⟨fun pins s σ H v u Q I r hq => ?_⟩
  obtain ⟨G0, H0, n0, hq⟩ := hq
  exact (h G0 H0 n0).can.run pins s σ H v u Q I r hq
end
/-! ### the loop from a state -/
theorem simForAt {c : Ct} {K : PySem.W.Frag} {mg : MG} {wi : TI} {t : TG} {tt : TS} {g : DG} {tb : DSt} {σ : Sig} {G H : Hp} {S : DS} (R : Rp c K mg σ G H S) {J : It} {items : List D} (Y : Yl c.T K mg J G S.n items)
    (g2 : SimG c K mg t g) (b2 : SimS c K mg tt tb) {B : DEnds} {E : Ends}
    (h1 : ∀ σ' H', WN c K mg G S.n B.nx σ' H' → E.nx σ' H') (h2 : ∀ v H', WR c K mg B.rt v H' → E.rt v H') (q : dLoop g tb items B S) :
    ∃ W : Nat → Nat → L2.St → Hp → Prop, (∃ m, W 0 m σ H) ∧ ∀ i m σ H, W i m σ H →
      (J.stop i H ∧ E.nx σ H) ∨ (J.go i H ∧ ∃ N : L2.St → Hp → Prop, (∀ σ' H', N σ' H' → ∃ m', m' < m ∧ W (i + 1) m' σ' H') ∧ ∀ x H', J.yld i H x H' → t x σ H' fun σ2 H2 => tt { E with nx := N, ct := N, bk := E.nx } σ2 H2) := by
  refine ⟨fun i m σ' H' => m = items.length - i ∧ i ≤ items.length ∧ ∃ G' S', Rp c K mg σ' G' H' S' ∧ Le c.T (S.n - S'.n) G G' ∧ S'.n ≤ S.n ∧ dLoop g tb (items.drop i) B S',
    ⟨items.length, by omega, Nat.zero_le _, G, S, R, by rw [Nat.sub_self]; exact .refl _ _, Nat.le_refl _, q⟩, fun i m σ' H' hW => ?_⟩
  obtain ⟨em, hi, G', S', R', l', n', q'⟩ := hW
  by_cases hlt : i < items.length
  · have hd : items[i]? = some items[i] := List.getElem?_eq_getElem hlt
    have ed : items.drop i = items[i] :: items.drop (i + 1) := List.drop_eq_getElem_cons hlt
    rw [ed] at q'
    obtain ⟨go, y⟩ := Y.go i G' H' S'.n _ R'.sub l' n' hd
    have wrap : ∀ {σ2 H2} {G2 : Hp} {S2 : DS}, Rp c K mg σ2 G2 H2 S2 → Le c.T (S'.n - S2.n) G' G2 → S2.n ≤ S'.n → dLoop g tb (items.drop (i + 1)) B S2 →
        ∃ G' S', Rp c K mg σ2 G' H2 S' ∧ Le c.T (S.n - S'.n) G G' ∧ S'.n ≤ S.n ∧ dLoop g tb (items.drop (i + 1)) B S' := fun {σ2 H2 G2 S2} R2 l2 n2 q2 =>
      ⟨G2, S2, R2, le_trans' l' n' l2 n2, Nat.le_trans n2 n', q2⟩
    refine .inr ⟨go, fun σ2 H2 => ∃ G' S', Rp c K mg σ2 G' H2 S' ∧ Le c.T (S.n - S'.n) G G' ∧ S'.n ≤ S.n ∧ dLoop g tb (items.drop (i + 1)) B S', fun σ2 H2 hN => ⟨items.length - (i + 1), by omega, rfl, hlt, hN⟩, fun x H2 hy => ?_⟩
    obtain ⟨G2, gw, rx⟩ := y x H2 hy
    have R2 := R'.gw0 gw
    have lx : Le c.T (S'.n - S'.n) G' G2 := by
      rw [Nat.sub_self]
      exact gw.le
    refine g2 σ' G2 H2 S' x _ _ _ R2 rx (fun σ3 H3 ⟨G3, S3, R3, l3, n3, q3⟩ => ?_) q'
    have l23 : Le c.T (S'.n - S3.n) G' G3 := le_trans' lx (Nat.le_refl _) l3 n3
    refine b2 σ3 G3 H3 S3 { nx := fun S2 => dLoop g tb (items.drop (i + 1)) B S2, rt := B.rt, bk := B.nx, ct := fun S2 => dLoop g tb (items.drop (i + 1)) B S2 } _ R3 (fun σ4 H4 ⟨G4, S4, R4, l4, n4, q4⟩ => ?_) (fun v H4 z => h2 v H4 z) (fun σ4 H4 ⟨G4, S4, R4, l4, n4, q4⟩ => ?_) (fun σ4 H4 ⟨G4, S4, R4, l4, n4, q4⟩ => ?_) q3
    · exact wrap R4 (le_trans' l23 n3 l4 n4) (Nat.le_trans n4 n3) q4
    · exact h1 σ4 H4 ⟨G4, S4, R4, le_trans' l' n' (le_trans' l23 n3 l4 n4) (Nat.le_trans n4 n3), Nat.le_trans (Nat.le_trans n4 n3) n', q4⟩
    · exact wrap R4 (le_trans' l23 n3 l4 n4) (Nat.le_trans n4 n3) q4
  · have e : i = items.length := by omega
    subst e
    refine .inl ⟨Y.stop _ G' H' S'.n R'.sub l' n' rfl, ?_⟩
    rw [List.drop_length] at q'
    exact h1 σ' H' ⟨G', S', R', l', n', q'⟩
/-! ### for over a dict of nested keys -/
def dnAt (S : DS) (i : Nat) : Option (List (NK × D)) := match S.sl[i]? with
  | some (some (.p (.dn l))) => some l
  | _ => none
def itemN (p : NK × D) : D := .tup [nkD p.1, p.2]
section
variable {T : TT0} {K : PySem.W.Frag} {mg : MG} {a : Addr} {od : Obj} {xs : List NE} {l : List (NK × D)} {G0 : Hp} {n0 : Nat}
theorem repN_get : ∀ {xs : List NE} {l : List (NK × D)} {G : Hp} {n i : Nat} {k : NK} {d : D}, RepT K mg G n xs l → l[i]? = some (k, d) → ∃ p b u v, xs[i]? = some (k, p, u) ∧ SqT K G p [.int k.1, .ref b] ∧ SqT K G b (k.2.map V.int) ∧ RelV v u ∧ Rep K mg G n v d
  | _, _, _, _, _, _, _, .nil, h => by simp at h
  | _, _, _, _, 0, _, _, .cons h1 h2 r a b, h => by
    have e := Option.some.inj h
    cases e
    exact ⟨_, _, _, _, rfl, h1, h2, r, a⟩
  | _, _, _, _, i + 1, k, d, .cons h1 h2 r a b, h => by
    obtain ⟨p, b', u, v, q1, q2⟩ := repN_get (i := i) (k := k) (d := d) b h
    exact ⟨p, b', u, v, q1, q2⟩
def vOf : Value → V
  | .none => .non
  | .bool b => .bl b
  | .int i _ => .int i
  | .str x _ => .str x
  | .bytes b _ => .byt b
  | .float b _ => .flt b
  | .ref a => .ref a
  | .type n => .ty n
  | _ => .non
theorem relV_of : ∀ {v : V} {u : Value}, L2.RelV v u → v = vOf u
  | .non, _, h => by
    have h : _ = Value.none := h
    rw [h]
    rfl
  | .bl b, _, h => by
    have h : _ = Value.bool b := h
    rw [h]
    rfl
  | .int i, _, ⟨t, h⟩ => by
    rw [h]
    rfl
  | .str x, _, ⟨t, h⟩ => by
    rw [h]
    rfl
  | .byt x, _, ⟨t, h⟩ => by
    rw [h]
    rfl
  | .flt x, _, ⟨t, h⟩ => by
    rw [h]
    rfl
  | .ref a, _, h => by
    have h : _ = Value.ref a := h
    rw [h]
    rfl
  | .ty n, _, h => by
    have h : _ = Value.type n := h
    rw [h]
    rfl
theorem relV_inj {v w : V} {u : Value} (h : L2.RelV v u) (h' : L2.RelV w u) : v = w := (relV_of h).trans (relV_of h').symm
theorem nk_rep {G : Hp} {n : Nat} {k : NK} {p b : Addr} (h1 : SqT K G p [.int k.1, .ref b]) (h2 : SqT K G b (k.2.map V.int)) : Rep K mg G n (.ref p) (nkD k) :=
  .tup h1 (.cons (.int _) (.cons (.tup h2 (RepAll.ints k.2)) .nil))
theorem yl_nitems (h : G0 a = some (.frz od (DnO a xs))) (r : RepT K mg G0 n0 xs l) : Yl T K mg (Idn a od xs) G0 n0 (l.map itemN) where
  stop := fun i G H n s le hn hi => ⟨s _ _ (le.keep _ _ h firm_frz), by rw [repN_len r, ← List.length_map (f := itemN)]; exact Nat.le_of_eq hi⟩
  go := fun i G H n d s le hn hi => by
    rw [List.getElem?_map] at hi
    cases q : l[i]? with
    | none =>
      rw [q] at hi
      cases hi
    | some kd =>
      rw [q] at hi
      have e : itemN kd = d := Option.some.inj hi
      subst e
      obtain ⟨k, d⟩ := kd
      obtain ⟨p, b, u, v, q1, q2, q3, q4, q5⟩ := repN_get r q
      have hl : i < xs.length := (List.getElem?_eq_some_iff.mp q1).1
      refine ⟨⟨s _ _ (le.keep _ _ h firm_frz), hl, fun x hx => (repT_kn (Sub.refl G0) r x hx).2⟩, fun x H' y => ?_⟩
      obtain ⟨P, e, w, e1, e2, ex, np, eH⟩ := y
      rw [q1] at e1
      cases e1
      subst ex eH
      have ew := relV_inj q4 e2
      subst ew
      have g : Gw T 0 G H _ _ := .alloc (o := .tup [.ref p, v]) s np
      have u1 : Rep K mg G0 n0 (.ref p) (nkD k) := nk_rep q2 q3
      exact ⟨_, g, .tup (SqT.of upd_same) (.cons ((u1.up le (by omega)).up g.le (Nat.le_refl _)) (.cons ((q5.up le (by omega)).up g.le (Nat.le_refl _)) .nil))⟩
theorem yl_nvals (h : G0 a = some (.frz od (DnO a xs))) (r : RepT K mg G0 n0 xs l) : Yl T K mg (Idv a od xs) G0 n0 (l.map (·.2)) where
  stop := fun i G H n s le hn hi => ⟨s _ _ (le.keep _ _ h firm_frz), by rw [repN_len r, ← List.length_map (f := fun (p : NK × D) => p.2)]; exact Nat.le_of_eq hi⟩
  go := fun i G H n d s le hn hi => by
    rw [List.getElem?_map] at hi
    cases q : l[i]? with
    | none =>
      rw [q] at hi
      cases hi
    | some kd =>
      rw [q] at hi
      have e : kd.2 = d := Option.some.inj hi
      subst e
      obtain ⟨k, d⟩ := kd
      obtain ⟨p, b, u, v, q1, q2, q3, q4, q5⟩ := repN_get r q
      have hl : i < xs.length := (List.getElem?_eq_some_iff.mp q1).1
      refine ⟨⟨s _ _ (le.keep _ _ h firm_frz), hl, fun x hx => (repT_kn (Sub.refl G0) r x hx).2⟩, fun x H' y => ?_⟩
      obtain ⟨eH, e, e1, e2⟩ := y
      rw [q1] at e1
      cases e1
      subst eH
      have ew := relV_inj q4 e2
      subst ew
      exact ⟨G, .refl s, q5.up le (by omega)⟩
end
def dForN (f : NK × D → D) (i : Nat) (g : DG) (tb : DSt) : DSt := fun B S => ∃ l, dnAt S i = some l ∧ dLoop g tb (l.map f) B S
/-- locked here, or by a caller -/
def tForW (wi : TI) (g : TG) (tb : TS) : TS := fun D σ H => tLock (tFor wi g tb) D σ H ∨ tFor wi g tb D σ H
section
variable {c : Ct} {X : Cx}
theorem ps_forW {st : Stmt} {wi : TI} {g : TG} {tb : TS} (h : PS X st (tFor wi g tb)) : PS X st (tForW wi g tb) := by
  refine ⟨fun pins s σ H D I hq => ?_⟩
  rcases hq with hq | hq
  · exact (ps_lock h).run pins s σ H D I hq
  · exact h.run pins s σ H D I hq
theorem simForN {K : PySem.W.Frag} {mg : MG} {f : NK × D → D} {i : Nat} {wi : TI} {g : DG} {tb : DSt} {It0 : Addr → Obj → List NE → It}
    (hw : ∀ (σ : Sig) (H : Hp) (Rr : It → Hp → Prop) (a : Addr) (od : Obj) (xs : List NE), σ[i]? = some (some (.ref a)) → H a = some (.frz od (DnO a xs)) → Rr (It0 a od xs) H → wi σ H Rr)
    (hy : ∀ {G0 : Hp} {n0 : Nat} {a : Addr} {od : Obj} {xs : List NE} {l : List (NK × D)}, G0 a = some (.frz od (DnO a xs)) → RepT K mg G0 n0 xs l → Yl c.T K mg (It0 a od xs) G0 n0 (l.map f)) :
    SimS c K mg (tForW wi (anyG c.T K mg c.E c.ED g) (anyS c.T K mg c.E c.ED tb)) (dForN f i g tb) := by
  intro σ G H S B E R h1 h2 h3 h4 h
  obtain ⟨l, hl, h⟩ := h
  unfold dnAt at hl
  split at hl
  · rename_i hs
    cases hl
    obtain ⟨v, hv, r⟩ := (by have z := R.slots i; rw [hs] at z; exact z : ∃ x, σ[i]? = some (some x) ∧ Rep K mg G S.n x (.dn l))
    cases r with
    | @dn a xs ds rd rt =>
      rcases rd with rd | ⟨o, rd⟩
      · refine .inl ⟨a, DnO a xs, R.sub _ _ rd, by unfold DnO; exact True.intro, fun od => ?_⟩
        have RL := R.lockS (od := od) rd
        refine hw σ _ _ a od xs hv upd_same ?_
        refine simForAt (wi := wi) (c := lkCt c σ G H S a (.frz od (DnO a xs))) RL (hy upd_same (rt.tr (tr_lock rd))) sim_anyG sim_anyS (B := B) (fun σ' H' hN => ?_) (fun v' H' hR => ?_) h
        · obtain ⟨G', S', R', _, _, q⟩ := hN
          obtain ⟨R2, l2, n2, e2⟩ := R.unlockS rd R'
          exact ⟨e2, h1 _ _ ⟨_, S', R2, l2, n2, q⟩⟩
        · obtain ⟨σ', G', S', d, R', rd', q⟩ := hR
          obtain ⟨R2, l2, n2, e2⟩ := R.unlockS rd R'
          have hG : G' a = some (.frz od (DnO a xs)) := (show Le c.T (S.n - S'.n) (upd G a (.frz od (DnO a xs))) G' from R'.le).keep a _ upd_same firm_frz
          exact ⟨e2, h2 _ _ ⟨σ', _, S', d, R2, rd'.tr (tr_unlock hG), q⟩⟩
      · refine .inr ?_
        refine hw σ _ _ a o xs hv (R.sub _ _ rd) ?_
        exact simForAt (wi := wi) (c := c) R (hy rd rt) sim_anyG sim_anyS (B := B) h1 h2 h
  · cases hl
theorem pds_forItems {i : Nat} {z : Str} {body : List Stmt} {g : DG} {tb : DSt} {elts : List Expr} {kk : Nat} {pos pz apos cpos tpos : Pos} (hp : PassesOwn (model X.prog X.w) X.A X.env X.xe) (hc : X.calm = true) (hz : X.N[i]? = some z) (hv : Vis X.env.scope z)
    (hg : ∀ G0 H0 n0, PDG (ctW c G0 H0 n0) X (.Tuple elts kk tpos) g) (hb : ∀ G0 H0 n0, PDSs (ctW c G0 H0 n0) X body tb) (hd : (z == ("__debug__" : Str)) = false := by decide) (hcd : (z == ("__classdict__" : Str)) = false := by decide)
    (hbase : attributeBase (.Name z pz) "items" X.env (eval (.Name z pz) X.env) = eval (.Name z pz) X.env := by rfl) (hline : (apos.endLine == cpos.line) = true := by rfl)
    (hs : ∀ w, foldedSetIterable (.Call (.Attribute (.Name z pz) "items" apos) [] [] cpos) X.env w = pure w := by intro _; rfl) :
    PDS c X (.For (.Tuple elts kk tpos) (.Call (.Attribute (.Name z pz) "items" apos) [] [] cpos) body [] pos) (dForN itemN i g tb) :=
  ⟨_, ps_forW (ps_for hp hc (pi_nitems (pe_var hz hv hd hcd) hbase hline) (anyG_of hg) (anyS_of hb) hs), simForN (It0 := Idn) (fun σ H Rr a od xs e1 e2 q => ⟨.ref a, e1, a, od, xs, rfl, e2, q⟩) fun h r => yl_nitems h r⟩
theorem pds_forValues {i : Nat} {z : Str} {tg : Expr} {body : List Stmt} {g : DG} {tb : DSt} {pos pz apos cpos : Pos} (hp : PassesOwn (model X.prog X.w) X.A X.env X.xe) (hc : X.calm = true) (hz : X.N[i]? = some z) (hv : Vis X.env.scope z)
    (hg : ∀ G0 H0 n0, PDG (ctW c G0 H0 n0) X tg g) (hb : ∀ G0 H0 n0, PDSs (ctW c G0 H0 n0) X body tb) (hd : (z == ("__debug__" : Str)) = false := by decide) (hcd : (z == ("__classdict__" : Str)) = false := by decide)
    (hbase : attributeBase (.Name z pz) "values" X.env (eval (.Name z pz) X.env) = eval (.Name z pz) X.env := by rfl) (hline : (apos.endLine == cpos.line) = true := by rfl)
    (hs : ∀ w, foldedSetIterable (.Call (.Attribute (.Name z pz) "values" apos) [] [] cpos) X.env w = pure w := by intro _; rfl) :
    PDS c X (.For tg (.Call (.Attribute (.Name z pz) "values" apos) [] [] cpos) body [] pos) (dForN (·.2) i g tb) :=
  ⟨_, ps_forW (ps_for hp hc (pi_nvalues (pe_var hz hv hd hcd) hbase hline) (anyG_of hg) (anyS_of hb) hs), simForN (It0 := Idv) (fun σ H Rr a od xs e1 e2 q => ⟨.ref a, e1, a, od, xs, rfl, e2, q⟩) fun h r => yl_nvals h r⟩
end
end DL
set_option maxHeartbeats 1000000
namespace DL
open PySem PySem.Spec PyProof.Rows L2
/-! ### while, x += e -/
def dWhile (dt : DT) (tb : DSt) : DSt := fun B S => ∃ W : Nat → DS → Prop, (∃ m, W m S) ∧ ∀ m S, W m S → dt S fun b S1 => if b = true then tb { nx := fun S2 => ∃ m', m' < m ∧ W m' S2, rt := B.rt, bk := B.nx, ct := fun S2 => ∃ m', m' < m ∧ W m' S2 } S1 else B.nx S1
section
variable {c : Ct} {X : Cx}
theorem pds_while {e : Expr} {body : List Stmt} {dt : DT} {tb : DSt} {pos : Pos} (hp : PassesOwn (model X.prog X.w) X.A X.env X.xe) (ht : PDT c X e dt) (hb : PDSs c X body tb) : PDS c X (.While e body [] pos) (dWhile dt tb) := by
  obtain ⟨tc, c1, c2⟩ := ht
  obtain ⟨t, b1, b2⟩ := hb
  refine ⟨_, ps_while hp c1 b1, fun σ G H S B E R h1 h2 h3 h4 h => ?_⟩
  obtain ⟨W, ⟨m0, w0⟩, hW⟩ := h
  refine ⟨fun m σ' H' => ∃ G' S', Rp c X.K X.mg σ' G' H' S' ∧ Le c.T (S.n - S'.n) G G' ∧ S'.n ≤ S.n ∧ W m S', ⟨m0, G, S, R, by rw [Nat.sub_self]; exact .refl _ _, Nat.le_refl _, w0⟩, fun m σ' H' hw => ?_⟩
  obtain ⟨G', S', R', l', n', w'⟩ := hw
  refine c2 σ' G' H' S' _ _ R' (fun b H1 ⟨G1, S1, A, q⟩ => ?_) (hW m S' w')
  have l1 := le_trans' l' n' A.le A.nle
  have n1 : S1.n ≤ S.n := Nat.le_trans A.nle n'
  cases b with
  | false =>
    rw [if_neg Bool.false_ne_true] at q ⊢
    exact h1 _ _ ⟨G1, S1, A.rp, l1, n1, q⟩
  | true =>
    rw [if_pos rfl] at q ⊢
    have wrap : ∀ {σ2 H2}, WN c X.K X.mg G1 S1.n (fun S2 => ∃ m', m' < m ∧ W m' S2) σ2 H2 → ∃ m', m' < m ∧ ∃ G' S', Rp c X.K X.mg σ2 G' H2 S' ∧ Le c.T (S.n - S'.n) G G' ∧ S'.n ≤ S.n ∧ W m' S' := fun {σ2 H2} ⟨G2, S2, R2, l2, n2, m', hm, w2⟩ =>
      ⟨m', hm, G2, S2, R2, le_trans' l1 n1 l2 n2, Nat.le_trans n2 n1, w2⟩
    refine ⟨fun σ2 H2 => ∃ m', m' < m ∧ ∃ G' S', Rp c X.K X.mg σ2 G' H2 S' ∧ Le c.T (S.n - S'.n) G G' ∧ S'.n ≤ S.n ∧ W m' S', fun σ2 H2 hq => hq, ?_⟩
    refine b2 σ' G1 H1 S1 { nx := fun S2 => ∃ m', m' < m ∧ W m' S2, rt := B.rt, bk := B.nx, ct := fun S2 => ∃ m', m' < m ∧ W m' S2 } _ A.rp (fun σ2 H2 z => wrap z) (fun v H2 z => h2 v H2 z) (fun σ2 H2 ⟨G2, S2, R2, l2, n2, q2⟩ => ?_) (fun σ2 H2 z => wrap z) q
    exact h1 _ _ ⟨G2, S2, R2, le_trans' l1 n1 l2 n2, Nat.le_trans n2 n1, q2⟩
def dAugA (i : Nat) (de : DE) : DSt := fun B S => ∃ a, S.sl[i]? = some (some (.p (.int a))) ∧ de S fun y S1 => ∃ b, y = .int b ∧ B.nx { S1 with sl := S1.sl.set i (some (.p (.int (a + b)))) }
theorem pds_aug {i : Nat} {x : Str} {e : Expr} {de : DE} {pos' pos : Pos} (hN : X.N.Nodup) (hi : X.N[i]? = some x) (hx : Loc X.env.scope x) (he : PDE c X e de) (hf : X.fn x = true ∨ X.env.scope.names.lookup x = some .local := by first | exact .inl rfl | exact .inr rfl | assumption) :
    PDS c X (.AugAssign (.Name x pos') .Add e pos) (dAugA i de) := by
  obtain ⟨te, e1, e2⟩ := he
  refine ⟨_, ps_aug hN hi hx e1 ip_add hf, fun σ G H S B E R h1 h2 h3 h4 h => ?_⟩
  obtain ⟨a, hs, h⟩ := h
  obtain ⟨v, hv, r⟩ := (by have z := R.slots i; rw [hs] at z; exact z : ∃ x, σ[i]? = some (some x) ∧ Rep X.K X.mg G S.n x (.int a))
  cases r
  refine ⟨_, hv, e2 σ G H S _ _ R (fun v H1 ⟨G1, S1, d, A, r1, q⟩ => ?_) h⟩
  obtain ⟨b, e, q⟩ := q
  subst e
  cases r1
  exact ⟨a, b, rfl, rfl, h1 _ _ ⟨G1, _, A.rp.set (.int _), A.le, A.nle, q⟩⟩
/-! ### (*x, y), zip of tuples -/
theorem pda_star {e : Expr} {es : List Expr} {p : Pos} {da : DE} {ds : DA} (he : PDE c X e da) (hr : PDA c X es ds) (hs : starEach (.Starred e p :: es) X.env = (true, eval e X.env) :: starEach es X.env := by rfl) : PDA c X (.Starred e p :: es) (dStar da ds) := by
  obtain ⟨te, e1, e2⟩ := he
  obtain ⟨tr, r1, r2⟩ := hr
  refine ⟨_, StX.pa_star e1 r1 hs, fun σ G H S Qd Q R hQ h => ?_⟩
  refine e2 σ G H S _ _ R (fun v H1 ⟨G1, S1, d, A, r, q⟩ => ?_) h
  obtain ⟨l, el, q⟩ := q
  have fin : ∀ {a : Addr} {xs : List V}, (SqT X.K G1 a xs ∨ SqL X.K G1 a xs) → RepAll X.K X.mg G1 S1.n xs l → v = .ref a → ∃ p xs, v = V.ref p ∧ (SqT X.K H1 p xs ∨ SqL X.K H1 p xs) ∧ tr σ H1 fun ys H2 => Q (xs ++ ys) H2 := fun {a xs} hx ra ev =>
    ⟨a, xs, ev, hx.imp (sqT_sub A.rp.sub) (sqL_sub A.rp.sub), r2 σ G1 H1 S1 _ _ A.rp (fun vs H2 ⟨G2, S2, ds2, A2, rr, q2⟩ => hQ _ _ ⟨G2, S2, _, A.trans A2, (A2.repAll ra).append rr, q2⟩) q⟩
  rcases el with el | el
  · subst el
    cases r with
    | tup h a => exact fin (.inl h) a rfl
  · subst el
    cases r with
    | lst h a => exact fin (.inr h) a rfl
def zipD (l m : List D) : List D := List.zipWith (fun a b => .tup [a, b]) l m
theorem yl_zipT {T : TT0} {K : PySem.W.Frag} {mg : MG} {a b : Addr} {xs ys : List V} {l m : List D} {G0 : Hp} {n0 : Nat} (h : SqT K G0 a xs) (r : RepAll K mg G0 n0 xs l) (h' : SqT K G0 b ys) (r' : RepAll K mg G0 n0 ys m) : Yl T K mg (RZ.ItzT K a b) G0 n0 (zipD l m) where
  stop := fun i G H n s le hn hi => ⟨xs, ys, sqT_sub s (sqT_le le h), sqT_sub s (sqT_le le h'), by
    rw [zipD, List.length_zipWith] at hi
    rw [r.length, r'.length]
    omega⟩
  go := fun i G H n d s le hn hi => by
    unfold zipD at hi
    rw [List.getElem?_zipWith] at hi
    cases q1 : l[i]? with
    | none =>
      rw [q1] at hi
      cases hi
    | some d1 =>
      cases q2 : m[i]? with
      | none =>
        rw [q1, q2] at hi
        cases hi
      | some d2 =>
        rw [q1, q2] at hi
        have e : D.tup [d1, d2] = d := Option.some.inj hi
        subst e
        obtain ⟨v, e1, rv⟩ := r.get q1
        obtain ⟨w, e2, rw'⟩ := r'.get q2
        have hq := sqT_sub s (sqT_le le h)
        have hq' := sqT_sub s (sqT_le le h')
        refine ⟨⟨xs, ys, v, w, hq, hq', e1, e2⟩, fun x H' y => ?_⟩
        obtain ⟨P, v', w', ex, np, eH, y1, y2⟩ := y
        have ev := Option.some.inj (e1.symm.trans (y1 xs hq))
        have ew := Option.some.inj (e2.symm.trans (y2 ys hq'))
        subst ex eH ev ew
        have g : Gw T 0 G H _ _ := .alloc (o := .tup [v, w]) s np
        exact ⟨_, g, .tup (SqT.of upd_same) (.cons ((rv.up le (by omega)).up g.le (Nat.le_refl _)) (.cons ((rw'.up le (by omega)).up g.le (Nat.le_refl _)) .nil))⟩
def dZipT (da : DA) : DI := fun S Q => da S fun ds S1 => ∃ l m, ds = [.tup l, .tup m] ∧ Q (zipD l m) S1
theorem pdi_zipT {e e2 : Expr} {da : DA} {p pos tpos : Pos} {elts : List Expr} {kk : Nat} (hg : Gl X "zip") (hm : X.mg "zip" = none) (ha : PDA c X [e, e2] da)
    (hs : starEach [e, e2] X.env = (false, eval e X.env) :: starEach [e2] X.env := by rfl) (hpl : (backTo pos (starEach [e2] X.env)).any (·.1) = false := by rfl) :
    PDI c X (.Tuple elts kk tpos) (.Call (.Name "zip" p) [e, e2] [] pos) (dZipT da) := by
  obtain ⟨ta, a1, a2⟩ := ha
  refine ⟨_, RZ.pi_zipA hg hm a1 hs hpl, fun σ G H S Qd R Rr hR h => ?_⟩
  refine a2 σ G H S _ _ Rr (fun vs H1 ⟨G1, S1, ds, A, r, q⟩ => ?_) h
  obtain ⟨l, m, e, q⟩ := q
  subst e
  obtain ⟨v, w, ev, r1, r2⟩ := rep2 r
  subst ev
  cases r1 with
  | @tup a xs _ h1 q1 =>
    cases r2 with
    | @tup b ys _ h2 q2 =>
      exact ⟨a, b, xs, ys, rfl, .inr ⟨sqT_sub A.rp.sub h1, sqT_sub A.rp.sub h2, hR _ _ ⟨G1, S1, _, A, yl_zipT h1 q1 h2 q2, q⟩⟩⟩
end
/-! ### y = [b for a in x for b in a] -/
def dFlat (k iv : Nat) (vs : List Nat) : DSt := fun B S => ∃ ls : List (List D), S.sl[iv]? = some (some (.p (.tup (ls.map .tup)))) ∧ (∀ v ∈ vs, v ≠ iv ∧ ownB S.sl[v]? = false) ∧ ls.flatten.length ≤ 16777216 ∧ B.nx { S with sl := S.sl.set k (some (.p (.lst ls.flatten))) }
section
variable {c : Ct} {X : Cx}
theorem repAll_tups {K : PySem.W.Frag} {mg : MG} {G : Hp} {n : Nat} : ∀ {xs : List V} {ls : List (List D)} {i : Nat} {l : List D}, RepAll K mg G n xs (ls.map .tup) → ls[i]? = some l → ∃ b ys, xs[i]? = some (.ref b) ∧ SqT K G b ys ∧ RepAll K mg G n ys l := fun {xs ls i l} r h => by
  obtain ⟨v, e, rv⟩ := r.get (i := i) (d := .tup l) (by rw [List.getElem?_map, h]; rfl)
  cases rv with
  | tup h a => exact ⟨_, _, e, h, a⟩
theorem take_succ {α : Type} {l : List α} {i : Nat} {a : α} (h : l[i]? = some a) : l.take (i + 1) = l.take i ++ [a] := by
  rw [List.take_add_one, h]
  rfl
theorem simFlat {K : PySem.W.Frag} {mg : MG} {iv ia ie : Nat} (n1 : ia ≠ ie) :
    ∀ σ G H S Q, Rp c K mg σ G H S → (∃ ls : List (List D), S.sl[iv]? = some (some (.p (.tup (ls.map .tup)))) ∧ (∀ v ∈ [ia, ie], v ≠ iv ∧ ownB S.sl[v]? = false) ∧ ia < S.sl.length ∧ ie < S.sl.length ∧ ls.flatten.length ≤ 16777216 ∧ ∀ v H', WE c K mg σ G H S (fun d S' => d = .lst ls.flatten ∧ S' = S) v H' → Q v H') →
      tLc2 (iTup K (tVar iv)) (gName ia) tYes (iTup K (tVar ia)) (gName ie) tYes (tVar ie) [ia, ie] [ie] σ H Q := by
  intro σ G H S Q R h
  obtain ⟨ls, hs, hv, hla, hle, hz, hQ⟩ := h
  obtain ⟨v, hσ, r⟩ := (by have z := R.slots iv; rw [hs] at z; exact z : ∃ x, σ[iv]? = some (some x) ∧ Rep K mg G S.n x (.tup (ls.map .tup)))
  cases r with
  | @tup a xs _ hq ra =>
    have hla' : ia < σ.length := by rw [R.len]; exact hla
    have hle' : ie < σ.length := by rw [R.len]; exact hle
    refine ⟨.ref a, hσ, a, rfl, ⟨xs, sqT_sub R.sub hq⟩, fun P nP => ?_⟩
    have gP := R.gnone nP
    have st : ∀ (acc : List V), Rp c K mg σ G (upd H P (.lst acc)) S := fun acc => R.hide nP pl_lst
    have lx : xs.length = ls.length := by rw [ra.length, List.length_map]
    refine ⟨fun i m H' => m = ls.length - i ∧ i ≤ ls.length ∧ ∃ acc : List V, H' = upd H P (.lst acc) ∧ RepAll K mg G S.n acc (ls.take i).flatten, ⟨_, rfl, Nat.zero_le _, [], rfl, .nil⟩, fun i m H' hW => ?_⟩
    obtain ⟨em, hi, acc, eH, rc⟩ := hW
    subst eH
    by_cases hlt : i < ls.length
    · have hl : ls[i]? = some ls[i] := List.getElem?_eq_getElem hlt
      obtain ⟨b, ys, ex, hb, rb⟩ := repAll_tups ra hl
      refine .inr ⟨⟨xs, .ref b, sqT_sub (st acc).sub hq, ex⟩, fun H' => ∃ acc : List V, H' = upd H P (.lst acc) ∧ RepAll K mg G S.n acc (ls.take (i + 1)).flatten, fun H' hN => ⟨ls.length - (i + 1), by omega, rfl, hlt, hN⟩, fun x H' y => ?_⟩
      obtain ⟨eH, y⟩ := y
      subst eH
      have exb := Option.some.inj (ex.symm.trans (y xs (sqT_sub (st acc).sub hq)))
      subst exb
      have e1 : ((L2.wipe σ [ia, ie]).set ia (some (.ref b)))[ia]? = some (some (.ref b)) := by
        rw [List.getElem?_set_self]
        rw [wipe_length]
        exact hla'
      refine ⟨?_, ?_⟩
      · exact (wipe_set (vs := [ia, ie]) (by simp)).trans (wipe_wipe [ia, ie] fun i h => h)
      unfold tYes
      dsimp only
      rw [if_pos rfl]
      refine ⟨.ref b, e1, b, rfl, ⟨ys, sqT_sub (st acc).sub hb⟩, ?_⟩
      refine ⟨fun j k H' => k = ys.length - j ∧ j ≤ ys.length ∧ ∃ acc : List V, H' = upd H P (.lst acc) ∧ RepAll K mg G S.n acc ((ls.take i).flatten ++ ls[i].take j), ⟨_, rfl, Nat.zero_le _, acc, rfl, by simpa using rc⟩, fun j k H' hW => ?_⟩
      obtain ⟨ek, hj, acc1, eH, rc1⟩ := hW
      subst eH
      by_cases hlt1 : j < ys.length
      · have ey : ys[j]? = some ys[j] := List.getElem?_eq_getElem hlt1
        obtain ⟨d, ed, rd⟩ := rb.get' ey
        refine .inr ⟨⟨ys, ys[j], sqT_sub (st acc1).sub hb, ey⟩, fun H' => ∃ acc : List V, H' = upd H P (.lst acc) ∧ RepAll K mg G S.n acc ((ls.take i).flatten ++ ls[i].take (j + 1)), fun H' hN => ⟨ys.length - (j + 1), by omega, rfl, hlt1, hN⟩, fun x H' y => ?_⟩
        obtain ⟨eH, y⟩ := y
        subst eH
        have exj := Option.some.inj (ey.symm.trans (y ys (sqT_sub (st acc1).sub hb)))
        subst exj
        refine ⟨?_, ?_⟩
        · exact (wipe_set (vs := [ie]) (by simp)).trans (wipe_wipe [ie] fun i h => h)
        try dsimp only
        rw [if_pos rfl]
        refine ⟨ys[j], ?_, acc1, upd_same, ?_, acc1 ++ [ys[j]], upd_upd, ?_⟩
        · rw [List.getElem?_set_self]
          rw [wipe_length, List.length_set, wipe_length]
          exact hle'
        · rw [rc1.length, sizeLine_eq]
          have h1 : ((ls.take i).flatten ++ ls[i].take j).length < ls.flatten.length := by
            have e2 : ls.flatten = (ls.take i).flatten ++ (ls[i] ++ (ls.drop (i + 1)).flatten) := by
              rw [← List.flatten_cons, ← List.drop_eq_getElem_cons hlt, ← List.flatten_append, List.take_append_drop]
            rw [e2]
            simp only [List.length_append, List.length_take]
            have := rb.length
            omega
          omega
        · rw [take_succ ed, ← List.append_assoc]
          exact rc1.append (.one rd)
      · have e : j = ys.length := by omega
        subst e
        refine .inl ⟨⟨ys, sqT_sub (st acc1).sub hb, Nat.le_refl _⟩, acc1, rfl, ?_⟩
        rw [take_succ hl, List.flatten_append, List.flatten_cons, List.flatten_nil, List.append_nil]
        have e3 : ls[i].take ys.length = ls[i] := List.take_of_length_le (by rw [rb.length]; exact Nat.le_refl _)
        rw [e3] at rc1
        exact rc1
    · have e : i = ls.length := by omega
      subst e
      refine .inl ⟨⟨xs, sqT_sub (st acc).sub hq, by rw [lx]; exact Nat.le_refl _⟩, ?_⟩
      rw [List.take_length] at rc
      have sm : Same G (upd G P (.lst acc)) := fun b w e => by
        rw [upd_ne (ne_of_none e gP)]
        exact e
      have loP : Loose σ S P := R.fresh_loose nP
      refine hQ _ _ ⟨upd G P (.lst acc), S, _, ⟨?_, Nat.le_refl _, (st acc).adopt gP (R.old nP) loP upd_same, fun b o h1 h2 h3 => ?_⟩, .lst (.inl (.inl upd_same)) (rc.same sm), rfl, rfl⟩
      · rw [Nat.sub_self]
        exact .same sm
      · have ne := ne_of_none h1 nP
        exact ⟨by rw [upd_ne ne]; exact h1, by rw [upd_ne ne]; exact h2, h3⟩
theorem pds_flat {k iv ia ie : Nat} {y v a e : Str} {py pv pa pa2 pe pe2 pos spos : Pos} {scope : Scope} (hc : X.calm = true) (hN : X.N.Nodup) (hy : X.N[k]? = some y) (hyl : X.env.scope.names.lookup y = some .local)
    (hsw : swapsWith (.ListComp (.Name e pe) [⟨.Name a pa, .Name v pv, [], 0⟩, ⟨.Name e pe2, .Name a pa2, [], 0⟩] scope pos) (some (.Name y py)) spos.line X.env = pure true) (hv : PE X (.Name v pv) (tVar iv)) (ok : BlkOk X.N X.env.scope scope [(a, ia), (e, ie)])
    (hg : ∀ s H C cl fp, PG (Blk X scope s H C cl fp) (.Name a pa) (gName ia)) (hv1 : ∀ s H C cl fp, PE (Blk X scope s H C cl fp) (.Name a pa2) (tVar ia)) (hg1 : ∀ s H C cl fp, PG (Blk X scope s H C cl fp) (.Name e pe2) (gName ie))
    (hv2 : ∀ s H C cl fp, PE (Blk X scope s H C cl fp) (.Name e pe) (tVar ie)) (n1 : ia ≠ ie) (hla : ia < X.N.length) (hle : ie < X.N.length)
    (hs : ∀ w, foldedSetIterable (.Name v pv) X.env w = pure w := by intro _; rfl) (hs1 : ∀ env w, foldedSetIterable (.Name a pa2) env w = pure w := by intro _ _; rfl) :
    PDS c X (.Assign [.Name y py] (.ListComp (.Name e pe) [⟨.Name a pa, .Name v pv, [], 0⟩, ⟨.Name e pe2, .Name a pa2, [], 0⟩] scope pos) spos) (fun B S => S.sl.length = X.N.length → dFlat k iv [ia, ie] B S) := by
  refine ⟨fun E σ H => σ.length = X.N.length → tAsg (tLc2 (iTup X.K (tVar iv)) (gName ia) tYes (iTup X.K (tVar ia)) (gName ie) tYes (tVar ie) [ia, ie] [ie]) (gName k) E σ H, ?_, fun σ G H S B E R h1 h2 h3 h4 h hlen => ?_⟩
  · have z := ps_setLc2 (wi1 := iTup X.K (tVar ia)) (vs1 := [ie]) hc hN hy hyl hsw (pi_tup hv) ok (fun i hi => by simp at hi; simp [hi]) hg (fun _ _ _ _ _ => pts_nil) (fun s H C cl fp => pi_tup (hv1 s H C cl fp)) hg1 (fun _ _ _ _ _ => pts_nil) hv2 hs hs1
    exact ⟨fun pins s σ H D I hq => z.run pins s σ H D I (hq I.len)⟩
  · have hl : S.sl.length = X.N.length := by rw [← R.len]; exact hlen
    obtain ⟨ls, q1, q2, q3, q4⟩ := h hl
    refine simFlat n1 σ G H S _ R ⟨ls, q1, q2, by rw [hl]; exact hla, by rw [hl]; exact hle, q3, fun v H' ⟨G', S', d, A, r, ed, eS⟩ => ?_⟩
    subst ed eS
    exact h1 _ _ ⟨G', _, A.rp.set r, A.le, A.nle, q4⟩
end
end DL
set_option maxHeartbeats 1000000
namespace DL
open PySem PySem.Spec PyProof.Rows L2
open PySem.W (KeyPure EachIs dataLe AllAlike Sortable alike alikeAll keyH_tree keyH_turns keyedOut_each KeepsBut)
open LamX (Tabs ExtN CodeO TabB LamS lamEnv)
/-! ### sorted(pairs, key=lambda p: (p[1] - p[0], p[0])) -/
section
variable {P : Program} {w : World} {A : Around} {E : Value → Shared → Prop} {s : Shared}
theorem item_of {env : Env} {m : Str → Option Value} {a : Str} {p : Addr} {items : Array Value} {k : Int} {i j : Nat} {x : Value} {p1 p2 p3 : Pos} {Q : Value → Shared → Prop} (hk : env.scope.kind = .function) (hl : env.kindOf a = some .local) (hn : s.heap.Ns env.locals m) (hm : m a = some (.ref p)) (hd : (a == ("__debug__" : Str)) = false)
    (ht : IsTup s.heap p items) (hlo : -(2 ^ 63) ≤ k) (hhi : k < 2 ^ 63) (hj : seqIndex? k items.size = some j) (hx : items[j]? = some x) (h : Q x { s with toks := s.toks + 1 }) : wpAny (model P w) A (eval (.Subscript (.Name a p1) (.Constant (.int k) i p2) p3) env) Q E s := by
  refine Subscript_ (wpAny_Name (wpAny_loadName_local hk hl hn hm (wpAny_Constant_int ?_)) hd)
  have ht' : IsTup ({ s with toks := s.toks + 1 } : Shared).heap p items := ht
  exact subscriptTail_builtinR (x := x) ht'.typeIs slot_tuple_getitem.lookup (PyProof.Rows.getItem_tuple (j := j) (Q := fun r s' => r = x ∧ Q r s') ht' hlo hhi hj hx ⟨rfl, h⟩)
abbrev keyBody (a : Str) (j1 j2 j3 k : Nat) (p1 p2 p3 p4 p5 p6 p7 p8 p9 p10 p11 : Pos) : Expr :=
  .Tuple [.BinOp (.Subscript (.Name a p1) (.Constant (.int 1) j1 p2) p3) .Sub (.Subscript (.Name a p4) (.Constant (.int 0) j2 p5) p6) p7, .Subscript (.Name a p8) (.Constant (.int 0) j3 p9) p10] k p11
abbrev lamEnvB (q : Str) (scope : Scope) (L f c' : Addr) (cl : List (Str × Addr)) : Env := PySem.W.envX q scope L f (.ref c') cl
theorem lam_key {f c' p : Addr} {q a : Str} {params : Arguments} {scope : Scope} {cl : List (Str × Addr)} {pm ctv : Value} {j1 j2 j3 k : Nat} {p1 p2 p3 p4 p5 p6 p7 p8 p9 p10 p11 : Pos} {x y : Int} {t u : Tok} (hroom : A.depth < recursionLimit)
    (hof : s.heap.get? f = some (PySem.W.kla_obj "<lambda>" q params (keyBody a j1 j2 j3 k p1 p2 p3 p4 p5 p6 p7 p8 p9 p10 p11) scope cl pm c' ctv)) (hcd : s.heap.CodeRec (.ref c') q) (lim : s.heap.NoLimit)
    (hkind : scope.kind = .function) (hco : scope.isCoroutine = false) (hgen : scope.isGenerator = false) (hcell : ∀ x ∈ scope.names, x.2 ≠ .cell) (hloc : scope.names.lookup a = some .local) (hd : (a == ("__debug__" : Str)) = false)
    (hbind : ∀ v, bindArgs (PySem.W.kla_fn "<lambda>" q params (keyBody a j1 j2 j3 k p1 p2 p3 p4 p5 p6 p7 p8 p9 p10 p11) scope cl pm (.ref c') ctv) ⟨[v], []⟩ = pure [(a, v)]) (ht : IsTup s.heap p #[.int x t, .int y u]) :
    wpAny (model P w) A (call (.ref f) [.ref p]) (KeyPure (.tuple [.int (y - x), .int x]) s) (fun _ _ => False) s := by
  refine wpAny_call (PySem.W.kla_callFunE hroom hof rfl hco hgen rfl hcd ?_)
  rw [hbind]
  refine wpAny_pure (wpAny_newFunctionEnv hcell (fun z hz => ?_) (fun h₁ hns hsb => ⟨lim.fresh _ hsb, ?_⟩) hkind)
  · have e : z = (a, Value.ref p) := by simpa using hz
    rw [e]
    exact hloc
  have kp : ∀ b o, s.heap.get? b = some o → h₁.get? b = some o := fun b o e => hsb.extBut b o (Nat.ne_of_lt (Heap.lt_size e)) (Heap.get?_push_of_some _ e)
  show codeAny _ _ (.expr _ (lamEnvB q scope s.heap.objs.size f c' cl)) _ _
  refine PySem.W.kla_codeExpr ?_
  have ht1 : IsTup h₁ p #[.int x t, .int y u] := ht.keeps kp
  have hl : (lamEnvB q scope s.heap.objs.size f c' cl).kindOf a = some .local := hloc
  have hm : (fun z => ([(a, Value.ref p)] : List (Str × Value)).reverse.lookup z) a = some (Value.ref p) := by simp [List.lookup]
  refine wpAny_Tuple_spliced (args_cons (wpAny_BinOp (item_of (j := 1) (x := .int y u) hkind hl hns hm hd ht1 (by decide) (by decide) rfl rfl (item_of (j := 0) (x := .int x t) hkind hl hns hm hd ht1 (by decide) (by decide) rfl rfl (sub_int
    (args_cons (item_of (j := 0) (x := .int x t) hkind hl hns hm hd ht1 (by decide) (by decide) rfl rfl (args_nil ⟨by show 2 ≤ sizeLine; decide, ?_⟩))))))))
  exact ⟨_, _, rfl, fun b o e => Heap.get?_push_of_some _ (kp b o e), .tuple (Heap.get?_push_size _ rfl) rfl rfl (.cons (.int _ _) (.cons (.int _ _) .nil))⟩
/-- sorted(xs, key=f), xs a list or a tuple -/
theorem sortedS_key {β : Type} {vs : List Value} {bs : List β} {R : Value → β → Prop} {l : Addr} {T : String} {o : Obj} {n : Nat} {f : Value} {kw : List (Str × Value)} {Q : Value → Shared → Prop} (k : β → PyData) (hT : T = "list" ∨ T = "tuple") (ho : s.heap.get? l = some o) (hc : o.cls = .type T) (hd : o.data = .seq vs.toArray n) (e : EachIs R vs bs) (hal : AllAlike (bs.map k)) (hk : Sortable (bs.map k)) (hL : bs.length ≤ sizeLine)
    (hu : ∀ x, x ∈ bs → A.units + 2 + (k x).depth < cLine) (ha1 : argsOk "sorted" ⟨[.ref l], kw⟩) (ha2 : ∀ x, argsOk "list.sort" ⟨[.ref x], kw⟩) (ht : ∀ x, Builtin.«list.sort» ⟨[.ref x], kw⟩ = ksk_tree x f false)
    (turn : ∀ (v : Value) (x : β), R v x → x ∈ bs → ∀ (h : Heap) (tk : Nat), (∀ b o, s.heap.get? b = some o → h.get? b = some o) →
      wpAny (model P w) A.in1.in1 (call f [v]) (KeyPure (k x) { s with heap := h, toks := tk }) (fun _ _ => False) { s with heap := h, toks := tk })
    (h : ∀ (h1 : Heap) (out : List Value) (c : Nat) (h' : Heap) (tk : Nat), (∀ b o, s.heap.get? b = some o → h1.get? b = some o) → (∀ b o, h1.get? b = some o → h'.get? b = some o) → h'.get? h1.objs.size = some (seqObj "list" (List.toArray out) c) → out.length = bs.length → EachIs R out (bs.mergeSort (dataLe false k)) →
      Q (.ref h1.objs.size) { s with heap := h', toks := tk }) :
    wpAny (model P w) A (call (.builtin "sorted") [.ref l] kw) Q E s := by
  have hLv : vs.length ≤ sizeLine := by rw [e.length]; exact hL
  refine call_function_entry_kw PyProof.Rows.kind_sorted PyProof.Rows.plain_sorted PyProof.Rows.entry_sorted ha1 ?_
  unfold Builtin.«sorted»
  refine wpAny_bind (m := checkCount "sorted" 1 1 _) (wpAny_pure ?_)
  refine wpAny_bind (wpAny_collect_seq l hT ho hc hd (fun h1 kp => ?_) (by rw [List.size_toArray]; exact hLv))
  rw [List.toList_toArray]
  refine wpAny_bind (wpAny_newList ?_ hLv)
  have old : ∀ b o, s.heap.get? b = some o → (h1.push (seqObj "list" vs.toArray 0)).get? b = some o := fun b o q => Heap.get?_push_of_some _ (kp b o q)
  have at1 : (h1.push (seqObj "list" vs.toArray 0)).get? h1.objs.size = some (seqObj "list" vs.toArray 0) := Heap.get?_push_size _ rfl
  have up : ∀ {g : Heap}, KeepsBut h1.objs.size (h1.push (seqObj "list" vs.toArray 0)) g → ∀ b o, s.heap.get? b = some o → g.get? b = some o := fun {g} kq b o q =>
    kq b o (Nat.ne_of_lt (Heap.lt_size (kp b o q))) (old b o q)
  have up1 : ∀ {g : Heap}, KeepsBut h1.objs.size (h1.push (seqObj "list" vs.toArray 0)) g → ∀ b o, h1.get? b = some o → g.get? b = some o := fun {g} kq b o q =>
    kq b o (Nat.ne_of_lt (Heap.lt_size q)) (Heap.get?_push_of_some _ q)
  refine wpAny_bind (wpAny_holding (wpAny_call_entry_kw slot_list_sort ⟨_, at1, rfl⟩ entry_list_sort ?body (ha2 _)))
  case body =>
    show wpAny (model P w) A.in1.in1 (Builtin.«list.sort» ⟨[.ref h1.objs.size], kw⟩) _ _ _
    rw [ht]
    refine keyH_tree (b := false) (kz := bs.map k) (s := { s with heap := h1.push (seqObj "list" vs.toArray 0) }) at1 (by rw [List.length_map]; exact e.length.symm) hLv hal hk (PySem.W.bound_map (A := A.in1.in1) hu)
      (keyH_turns (s := { s with heap := h1.push (seqObj "list" vs.toArray 0) }) e fun v x hR hx h tk kq => turn v x hR hx h tk (up kq)) fun h' tk out c kq hD ko => ?_
    exact ⟨_, rfl, wpAny_pure ⟨_, rfl, h h1 out c h' tk kp (up1 kq) hD ((ko.length (by rw [List.length_map]; exact e.length.symm)).trans e.length) (keyedOut_each k ko e)⟩⟩
end
/-! ### as rules -/
def leKey (p q : Int × Int) : Bool := decide (p.2 - p.1 < q.2 - q.1 ∨ (p.2 - p.1 = q.2 - q.1 ∧ p.1 ≤ q.1))
def sortK (ps : List (Int × Int)) : List (Int × Int) := ps.mergeSort leKey
theorem each_vals {β : Type} {Pr : V → β → Prop} : ∀ {xs : List V} {us : List Value} {bs : List β}, Vals xs us → EachIs Pr xs bs → EachIs (fun v b => ∃ x, L2.RelV x v ∧ Pr x b) us bs
  | _, _, _, .nil, h => by
    cases h
    exact .nil
  | _, _, _, .cons r t, h => by
    cases h with
    | cons a b => exact .cons ⟨_, r, a⟩ (each_vals t b)
theorem each_back {β : Type} {Pr : V → β → Prop} : ∀ {us : List Value} {bs : List β}, EachIs (fun v b => ∃ x, L2.RelV x v ∧ Pr x b) us bs → ∃ xs, Vals xs us ∧ EachIs Pr xs bs
  | _, _, .nil => ⟨[], .nil, .nil⟩
  | _, _, .cons ⟨x, r, p⟩ t => by
    obtain ⟨xs, h1, h2⟩ := each_back t
    exact ⟨x :: xs, .cons r h1, .cons p h2⟩
theorem each_length {α β : Type} {R : α → β → Prop} {as : List α} {bs : List β} (h : EachIs R as bs) : as.length = bs.length := h.length
theorem keyLe_eq : dataLe false (fun b : Int × Int => .tuple [.int (b.2 - b.1), .int b.1]) = leKey := PySem.W.dataLe_ii (fun b : Int × Int => b.2 - b.1) (fun b => b.1)
/-- the lambda's names: its parameter alone -/
structure KeyS (scope : Scope) (a : Str) : Prop where
  kind : scope.kind = .function
  co : scope.isCoroutine = false
  gen : scope.isGenerator = false
  cell : ∀ x ∈ scope.names, x.2 ≠ .cell
  free : ∀ x ∈ scope.names, x.2 ≠ .free
  loc : scope.names.lookup a = some .local
  db : (a == ("__debug__" : Str)) = false
def Pr2 (K : PySem.W.Frag) (H : Hp) (x : V) (b : Int × Int) : Prop := ∃ p, x = .ref p ∧ SqT K H p [.int b.1, .int b.2]
def tSortK (K : PySem.W.Frag) (T : TT0) (te : TE) : TE := fun σ H Q => te σ H fun x H1 => Tabs T H1 ∧ ∀ H2, ExtN H1 H2 → Tabs T H2 → ∃ (a : Addr) (xs : List V) (ps : List (Int × Int)) (Pr : V → Int × Int → Prop), x = .ref a ∧ (SqL K H2 a xs ∨ SqT K H2 a xs) ∧ EachIs Pr xs ps ∧ (∀ x b, Pr x b → Pr2 K H2 x b) ∧ ps.length ≤ 16777216 ∧
  ∀ ys q, EachIs Pr ys (sortK ps) → H2 q = none → Q (.ref q) (upd H2 q (.lst ys))
section
variable {X : Cx}
theorem pe_sortedKey {T : TT0} {c P : Addr} {e : Expr} {te : TE} {a : Str} {params : Arguments} {scope : Scope} {j1 j2 j3 k : Nat} {p1 p2 p3 p4 p5 p6 p7 p8 p9 p10 p11 p lpos kpos pos : Pos} (hg : Gl X "sorted") (hm : X.mg "sorted" = none) (he : PE X e te)
    (TB : TabB X.base X.mg c P) (hcode : X.env.code = .ref c) (hmT : (P, X.env.qual ++ "<lambda>") ∈ T) (huT : ∀ p ∈ T, p.1 = P → p.2 = X.env.qual ++ "<lambda>") (hr : Room 2 X.A) (S : KeyS scope a) (hdef : defaultsOf params X.env = ([], []))
    (hbind : ∀ (q : Str) (cl : List (Str × Addr)) (pm cv ctv v : Value), bindArgs (PySem.W.kla_fn "<lambda>" q params (keyBody a j1 j2 j3 k p1 p2 p3 p4 p5 p6 p7 p8 p9 p10 p11) scope cl pm cv ctv) ⟨[v], []⟩ = pure [(a, v)])
    (hse : starEach [e] X.env = (false, eval e X.env) :: starEach [] X.env := by rfl) :
    PE X (.Call (.Name "sorted" p) [e] [⟨some "key", .Lambda params (keyBody a j1 j2 j3 k p1 p2 p3 p4 p5 p6 p7 p8 p9 p10 p11) scope lpos, kpos⟩] pos) (tSortK X.K T te) := by
  refine ⟨fun pins s σ H Q I h => ?_⟩
  refine wpAny_Call_Name_kw (ld_blt I hg hm PyProof.Rows.boot_sorted ?_)
  refine PyProof.Rows.callWith_kw (args_cons (thn (he.run pins s σ H _ I h) fun u s1 ⟨x, H1, I1, rx, hT, q⟩ => args_nil ?_) hse) (by rw [hse]; rfl) (by rw [hse]; rfl)
  show wpAny _ _ (evalAll ((do let v ← eval (.Lambda params (keyBody a j1 j2 j3 k p1 p2 p3 p4 p5 p6 p7 p8 p9 p10 p11) scope lpos) X.env; standAt pos; pure v) :: [])) _ _ s1
  refine wpAny_evalAll_cons (wpAny_bind (LamX.lam_make2 I1 TB hcode hmT huT hT hdef (fun y hy e => absurd e (S.free y hy)) fun f c' pm ctv H2 s2 I2 eN T2 hf hfn hfr hco => wpAny_bind (wpAny_standAt (wpAny_pure ?_))))
  refine wpAny_evalAll_nil ?_
  obtain ⟨b, xs, ps, Pr, ex, hq, hE, hP, hz, q3⟩ := q H2 eN T2
  subst ex
  obtain rfl : u = Value.ref b := rx
  obtain ⟨⟨oc, ovs, ot, hoc, hdc, hvc⟩, _, _⟩ := I2.hok c' _ hco
  obtain ⟨its, Tn, o, n, rv, hTn, ho, hc, hd⟩ : ∃ (its : List Value) (Tn : String) (o : Obj) (n : Nat), Vals xs its ∧ (Tn = "list" ∨ Tn = "tuple") ∧ s2.heap.get? b = some o ∧ o.cls = .type Tn ∧ o.data = .seq its.toArray n := by
    rcases hq with hq | hq
    · obtain ⟨its, r, pl, _⟩ := I2.list hq
      obtain ⟨o, n, h1, h2, h3, h4⟩ := pl
      exact ⟨its, "list", o, n, r, .inl rfl, h1, h2, h4⟩
    · obtain ⟨its, r, ⟨o, h1, h2, n, h3⟩, _⟩ := I2.tuple hq
      exact ⟨its, "tuple", o, n, r, .inr rfl, h1, h2, h3⟩
  refine sortedS_key (bs := ps) (fun b : Int × Int => .tuple [.int (b.2 - b.1), .int b.1]) hTn ho hc hd (each_vals rv hE) (PySem.W.AllAlike.of fun _ _ => by simp [alike, alikeAll]) (PySem.W.Sortable.tuples fun _ => ⟨_, _, rfl⟩) (by rw [sizeLine_eq]; exact hz) (fun d _ => ?_) (PyProof.Rows.ksk_s1 _ _) (fun _ => PyProof.Rows.ksk_l1 _ _) (fun _ => PyProof.Rows.ksk_t1 _ _) (fun v d hR _ h tk kp => ?_) (fun h1 out cc h' tk k1 k2 hD hlen ho => ?_)
  · have e1 : (PyData.tuple [.int (d.2 - d.1), .int d.1]).depth = 1 := by simp [PyData.depth, PyData.depthAll]
    have := hr.un
    rw [e1]
    omega
  · obtain ⟨x, rx, px⟩ := hR
    obtain ⟨pa, ex, hs⟩ := hP x d px
    subst ex
    cases rx
    obtain ⟨ys, ry, ht, _⟩ := I2.tuple hs
    obtain ⟨u1, u2, eu, r1, r2⟩ := vals2 ry
    subst eu
    obtain ⟨t1, r1⟩ := r1
    obtain ⟨t2, r2⟩ := r2
    subst r1 r2
    exact lam_key (s := { s2 with heap := h, toks := tk }) (show X.A.depth < recursionLimit by have := hr.dp; omega) (kp _ _ hf) ⟨c', oc, ovs, ot, rfl, kp _ _ hoc, hdc, hvc⟩ (I2.nolimit.keeps kp) S.kind S.co S.gen S.cell S.loc S.db (hbind _ _ _ _ _) (ht.keeps kp)
  · rw [keyLe_eq] at ho
    obtain ⟨ys, rys, hys⟩ := each_back ho
    have I3 : Inv X pins σ H2 { s2 with heap := h1 } := I2.kept (t' := s2.toks) k1
    have hn := I3.hok.fresh (Nat.le_refl _)
    refine ⟨.ref h1.objs.size, _, I3.laid (a := h1.objs.size) (o := .lst ys) (h' := h') (t' := tk) k2 (Nat.le_refl _) ⟨?_, out, cc, rys, hD⟩, rfl, q3 ys _ hys hn⟩
    rw [rys.length, hlen, sizeLine_eq]
    exact hz
end
def prD (b : Int × Int) : D := .tup [.int b.1, .int b.2]
theorem rep_pairs {K : PySem.W.Frag} {mg : MG} {G : Hp} {n : Nat} : ∀ {xs : List V} {ps : List (Int × Int)}, RepAll K mg G n xs (ps.map prD) → EachIs (Pr2 K G) xs ps
  | _, [], r => by
    cases r
    exact .nil
  | _, b :: ps, r => by
    cases r with
    | cons a t =>
      cases a with
      | tup h ra =>
        obtain ⟨v1, v2, ex, r1, r2⟩ := rep2 ra
        subst ex
        cases r1
        cases r2
        exact .cons ⟨_, rfl, h⟩ (rep_pairs t)
theorem pairs_rep {K : PySem.W.Frag} {mg : MG} {G : Hp} {n : Nat} : ∀ {xs : List V} {ps : List (Int × Int)}, EachIs (Pr2 K G) xs ps → RepAll K mg G n xs (ps.map prD)
  | _, _, .nil => .nil
  | _, _, .cons ⟨p, e, h⟩ t => by
    subst e
    exact .cons (.tup h (.cons (.int _) (.cons (.int _) .nil))) (pairs_rep t)
def dSortKey (de : DE) : DE := fun S Q => de S fun x S1 => ∃ ps : List (Int × Int), (x = .tup (ps.map prD) ∨ x = .lst (ps.map prD)) ∧ ps.length ≤ 16777216 ∧ Q (.lst ((sortK ps).map prD)) S1
section
variable {c : Ct} {X : Cx}
theorem pd_sortedKeyL {e : Expr} {de : DE} {a : Str} {params : Arguments} {scope : Scope} {j1 j2 j3 k : Nat} {p1 p2 p3 p4 p5 p6 p7 p8 p9 p10 p11 p lpos kpos pos : Pos} (LA : LamAt c.T X) (hg : Gl X "sorted") (hm : X.mg "sorted" = none) (hr : Room 2 X.A) (S : KeyS scope a) (he : PDE c X e de)
    (hse : starEach [e] X.env = (false, eval e X.env) :: starEach [] X.env := by rfl) (hdef : defaultsOf params X.env = ([], []) := by rfl)
    (hbind : ∀ (q : Str) (cl : List (Str × Addr)) (pm cv ctv v : Value), bindArgs (PySem.W.kla_fn "<lambda>" q params (keyBody a j1 j2 j3 k p1 p2 p3 p4 p5 p6 p7 p8 p9 p10 p11) scope cl pm cv ctv) ⟨[v], []⟩ = pure [(a, v)] := by intros; rfl) :
    PDE c X (.Call (.Name "sorted" p) [e] [⟨some "key", .Lambda params (keyBody a j1 j2 j3 k p1 p2 p3 p4 p5 p6 p7 p8 p9 p10 p11) scope lpos, kpos⟩] pos) (dSortKey de) := by
  obtain ⟨te, e1, e2⟩ := he
  obtain ⟨cda, Pt, TB, hcode, hmT, hu⟩ := LA.ex
  refine ⟨_, pe_sortedKey hg hm e1 TB hcode hmT hu hr S hdef hbind hse, fun σ G H Sd Qd Q R hQ h => ?_⟩
  refine e2 σ G H Sd _ _ R (fun v H1 ⟨G1, S1, d, A, r, q⟩ => ?_) h
  obtain ⟨ps, ed, hz, q⟩ := q
  refine ⟨A.rp.tabs.ext A.rp.sub, fun H2 eN T2 => ?_⟩
  obtain ⟨G2, gw, tb2⟩ := gw_lam A.rp.sub A.rp.tabs eN T2
  have A2 := Aft.gw0 A.rp gw
  have main : ∀ (b : Addr) (xs : List V), v = .ref b → (SqL X.K G2 b xs ∨ SqT X.K G2 b xs) → RepAll X.K X.mg G2 S1.n xs (ps.map prD) → ∃ (a : Addr) (xs : List V) (ps : List (Int × Int)) (Pr : V → Int × Int → Prop), v = .ref a ∧ (SqL X.K H2 a xs ∨ SqT X.K H2 a xs) ∧ EachIs Pr xs ps ∧ (∀ x b, Pr x b → Pr2 X.K H2 x b) ∧ ps.length ≤ 16777216 ∧
      ∀ ys q, EachIs Pr ys (sortK ps) → H2 q = none → Q (.ref q) (upd H2 q (.lst ys)) := fun b xs ev hx ra => by
    refine ⟨b, xs, ps, Pr2 X.K G2, ev, hx.imp (sqL_sub A2.rp.sub) (sqT_sub A2.rp.sub), rep_pairs ra, fun x b ⟨p, e, h⟩ => ⟨p, e, sqT_sub A2.rp.sub h⟩, hz, fun ys qa hE nq => ?_⟩
    have g : Gw c.T 0 G2 H2 _ _ := .alloc (o := .lst ys) A2.rp.sub nq
    exact hQ _ _ ⟨_, S1, _, (A.trans A2).trans (Aft.gw0 A2.rp g), .lst (.inl (.inl upd_same)) ((pairs_rep hE).up (n := S1.n) g.le (Nat.le_refl _)), q⟩
  have r2 : Rep X.K X.mg G2 S1.n v d := r.up gw.le (Nat.le_refl _)
  rcases ed with ed | ed
  · subst ed
    cases r2 with
    | @tup b xs _ h ra => exact main b xs rfl (.inr h) ra
  · subst ed
    cases r2 with
    | @lst b xs _ h ra => exact main b xs rfl (.inl h) ra
end
/-! ### sorted of triples of ints -/
def trD (b : Int × Int × Int) : D := .tup [.int b.1, .int b.2.1, .int b.2.2]
def Pr3 (K : PySem.W.Frag) (H : Hp) (x : V) (b : Int × Int × Int) : Prop := ∃ p, x = .ref p ∧ SqT K H p [.int b.1, .int b.2.1, .int b.2.2]
def rSort3 (K : PySem.W.Frag) : List V → Hp → VK → Prop := fun vs H Q => ∃ (a : Addr) (xs : List V) (ts : List (Int × Int × Int)) (Pr : V → Int × Int × Int → Prop), vs = [.ref a] ∧ SqL K H a xs ∧ EachIs Pr xs ts ∧ (∀ x b, Pr x b → Pr3 K H x b) ∧ ts.length ≤ 16777216 ∧
  ∀ ts' ys p, ts'.Perm ts → EachIs Pr ys ts' → H p = none → Q (.ref p) (upd H p (.lst ys))
theorem each_reads3 {X : Cx} {pins : List (Addr × Obj)} {σ : L2.St} {H : Hp} {s : Shared} (I : Inv X pins σ H s) : ∀ {us : List Value} {ts : List (Int × Int × Int)} {Pr : V → Int × Int × Int → Prop}, (∀ x b, Pr x b → Pr3 X.K H x b) → EachIs (fun v b => ∃ x, L2.RelV x v ∧ Pr x b) us ts →
    EachIs (fun v b => ∃ as, Reads s.heap v (PyData.tuple [.int b.1, .int b.2.1, .int b.2.2]) as) us ts
  | _, _, _, _, .nil => .nil
  | _, _, _, hP, .cons ⟨x, r, p⟩ t => by
    refine .cons ?_ (each_reads3 I hP t)
    obtain ⟨pa, ex, hs⟩ := hP _ _ p
    subst ex
    cases r
    obtain ⟨ys, ry, ⟨o, h1, h2, n, h3⟩, _⟩ := I.tuple hs
    cases ry with
    | cons r1 ry =>
      obtain ⟨u2, u3, eu, r2, r3⟩ := vals2 ry
      subst eu
      obtain ⟨t1, r1⟩ := r1
      obtain ⟨t2, r2⟩ := r2
      obtain ⟨t3, r3⟩ := r3
      subst r1 r2 r3
      exact ⟨_, .tuple h1 h2 h3 (.cons (.int _ _) (.cons (.int _ _) (.cons (.int _ _) .nil)))⟩
theorem call_sort3 {X : Cx} (hu : X.A.units + 64 < cLine) : CallR X (.builtin "sorted") (rSort3 X.K) := by
  intro pins s σ H vs us Q I r h
  obtain ⟨a, xs, ts, Pr, rfl, hq, hE, hP, hz, q⟩ := h
  obtain ⟨u, eu, ru⟩ := vals1 r
  subst eu
  cases ru
  obtain ⟨its, rv, pl, hsz⟩ := I.list hq
  have hE' := each_vals rv hE
  refine PySem.W.sorted_data pl.isList hE' (each_reads3 I hP hE') (PySem.W.AllAlike.of fun _ _ => by simp [alike, alikeAll]) (PySem.W.Sortable.tuples fun _ => ⟨_, _, rfl⟩) (by rw [sizeLine_eq]; exact hz) (fun d _ => ?_) fun out hlen ho => ?_
  · have e1 : (PyData.tuple [.int d.1, .int d.2.1, .int d.2.2]).depth = 1 := by simp [PyData.depth, PyData.depthAll]
    rw [e1]
    omega
  · obtain ⟨ys, rys, hys⟩ := each_back ho
    obtain ⟨ep, he'⟩ := PyProof.Rows.sortedAll_at s.heap its out.toArray
    refine ⟨.ref _, upd H (s.heap.objs.size + 1) (.lst ys), I.laid (t' := s.toks) (fun _ _ => PyProof.Rows.sortedAll_old) (Nat.le_succ _) ⟨?_, out, ep, rys, he'⟩, rfl, q _ _ _ (List.mergeSort_perm ..) hys (I.hok.fresh (Nat.le_succ _))⟩
    rw [rys.length, hlen, sizeLine_eq]
    exact hz
theorem rep_trs {K : PySem.W.Frag} {mg : MG} {G : Hp} {n : Nat} : ∀ {xs : List V} {ts : List (Int × Int × Int)}, RepAll K mg G n xs (ts.map trD) → EachIs (Pr3 K G) xs ts
  | _, [], r => by
    cases r
    exact .nil
  | _, b :: ps, r => by
    cases r with
    | cons a t =>
      cases a with
      | tup h ra =>
        rw [rep3 ra] at h
        exact .cons ⟨_, rfl, h⟩ (rep_trs t)
theorem trs_rep {K : PySem.W.Frag} {mg : MG} {G : Hp} {n : Nat} : ∀ {xs : List V} {ts : List (Int × Int × Int)}, EachIs (Pr3 K G) xs ts → RepAll K mg G n xs (ts.map trD)
  | _, _, .nil => .nil
  | _, _, .cons ⟨p, e, h⟩ t => by
    subst e
    exact .cons (.tup h (.cons (.int _) (.cons (.int _) (.cons (.int _) .nil)))) (trs_rep t)
def dSort3 (t : DA) : DE := fun S Q => t S fun xs S1 => ∃ ts : List (Int × Int × Int), xs = [.lst (ts.map trD)] ∧ ts.length ≤ 16777216 ∧ ∀ ts' : List (Int × Int × Int), ts'.Perm ts → Q (.lst (ts'.map trD)) S1
section
variable {c : Ct} {X : Cx}
theorem pd_sort3 {x : Str} {a : Expr} {es : List Expr} {ds : DA} {p pos : Pos} (hu : X.A.units + 64 < cLine) (hg : Gl X x) (hm : X.mg x = none) (hv : bootBuiltins x = some (.builtin "sorted")) (ha : PDA c X (a :: es) ds) (hn : x ≠ "__name__" := by decide) (hdb : (x == ("__debug__" : Str)) = false := by decide)
    (he : starEach (a :: es) X.env = (false, eval a X.env) :: starEach es X.env := by rfl) (hpl : (backTo pos (starEach es X.env)).any (·.1) = false := by rfl) : PDE c X (.Call (.Name x p) (a :: es) [] pos) (dSort3 ds) := by
  obtain ⟨ta, a1, a2⟩ := ha
  refine ⟨_, pe_callB (call_sort3 hu) hg hm hv a1 hn hdb he hpl, fun σ G H S Qd Q R hQ h => ?_⟩
  refine a2 σ G H S _ _ R (fun vs H1 ⟨G1, S1, ds, A, r, q⟩ => ?_) h
  obtain ⟨ts, e, hz, q⟩ := q
  subst e
  obtain ⟨v, ev, rv⟩ := rep1 r
  subst ev
  cases rv with
  | @lst b xs _ hq ra =>
    refine ⟨b, xs, ts, Pr3 X.K G1, rfl, sqL_sub A.rp.sub hq, rep_trs ra, fun x b ⟨p, e, h⟩ => ⟨p, e, sqT_sub A.rp.sub h⟩, hz, fun ts' ys p hp hE np => ?_⟩
    have g : Gw c.T 0 G1 H1 _ _ := .alloc (o := .lst ys) A.rp.sub np
    exact hQ _ _ ⟨_, S1, _, A.trans (Aft.gw0 A.rp g), .lst (.inl (.inl upd_same)) ((trs_rep hE).up (n := S1.n) g.le (Nat.le_refl _)), q ts' hp⟩
end
end DL
set_option maxHeartbeats 1000000
namespace DL
open PySem PySem.Spec PyProof.Rows L2
/-! ### [elt for x, y, z in iter ifs] -/
def gdTrip (i j l : Nat) : D → Option (List (Nat × D))
  | .tup [a, b, c] => some [(i, a), (j, b), (l, c)]
  | _ => none
theorem simGc_trip {K : PySem.W.Frag} {mg : MG} (i j l : Nat) : SimGc K mg (gTup K 3 (gCons (gName i) (gCons (gName j) (gCons (gName l) gNil)))) (gdTrip i j l) [i, j, l] := by
  intro σ G H n v d lst Q s r e
  unfold gdTrip at e
  split at e
  · cases e
    cases r with
    | @tup p xs ds h a =>
      cases a with
      | @cons v1 vs _ _ r1 a =>
        obtain ⟨v2, v3, ex, r2, r3⟩ := rep2 a
        subst ex
        refine ⟨fun p hp => ?_, fun hq => ⟨_, _, rfl, sqT_sub s h, rfl, v1, [v2, v3], rfl, v2, [v3], rfl, v3, [], rfl, rfl, hq [(i, v1), (j, v2), (l, v3)] (.cons r1 (.cons r2 (.cons r3 .nil)))⟩⟩
        simp only [List.mem_cons, List.not_mem_nil, or_false] at hp
        rcases hp with rfl | rfl | rfl <;> simp
  · cases e
section
variable {c : Ct} {X : Cx}
theorem pd_lc3 {i j l : Nat} {x y z : Str} {elt iter : Expr} {ifs : List Expr} {scope : Scope} {pos p q q2 r : Pos} {kk : Nat} {di : DI} {dt : DT} {de : DE} (hc : X.calm = true) (hN : X.N.Nodup) (hi : PDI c X (.Tuple [.Name x p, .Name y q, .Name z q2] kk r) iter di) (ok : BlkOk X.N X.env.scope scope [(x, i), (y, j), (z, l)])
    (hg : ∀ s H C cl fp, PG (Blk X scope s H C cl fp) (.Tuple [.Name x p, .Name y q, .Name z q2] kk r) (gTup X.K 3 (gCons (gName i) (gCons (gName j) (gCons (gName l) gNil))))) (ht : ∀ s H C cl fp, PDTs c (Blk X scope s H C cl fp) ifs dt) (he : ∀ s H C cl fp, PDE c (Blk X scope s H C cl fp) elt de) (hs : ∀ x, foldedSetIterable iter X.env x = pure x := by intro _; rfl) :
    PDE c X (.ListComp elt [⟨.Tuple [.Name x p, .Name y q, .Name z q2] kk r, iter, ifs, 0⟩] scope pos) (dLc di (gdTrip i j l) dt de [i, j, l]) := by
  obtain ⟨wi, i1, i2⟩ := hi
  exact ⟨_, pe_lc (tt := canT c X.K X.mg dt) hc hN i1 ok hg (fun s H C cl fp => ht s H C cl fp) (fun s H C cl fp => (he s H C cl fp).can) hs, simLc i2 (simGc_trip i j l) sim_canT sim_canE fun _ h => h⟩
end
/-! ### list(range(n)) -/
def dLstRg1 (db : DE) : DE := fun S Q => db S fun y S2 => ∃ j, y = .int j ∧ bSm j ∧ j.toNat ≤ 16777216 ∧ Q (.lst (rgD 0 j.toNat)) S2
theorem pd_listRg1 {c : Ct} {X : Cx} {b : Expr} {db : DE} {p p2 pos : Pos} (hc : X.calm = true) (hg : Gl X "list") (hm : X.mg "list" = none) (hg2 : Gl X "range") (hm2 : X.mg "range" = none) {q2 : Pos} (hb : PDE c X b db)
    (nb : starEach [b] X.env = (false, eval b X.env) :: starEach [] X.env := by rfl)
    (nl : starEach [.Call (.Name "range" p2) [b] [] q2] X.env = (false, eval (.Call (.Name "range" p2) [b] [] q2) X.env) :: starEach [] X.env := by rfl) :
    PDE c X (.Call (.Name "list" p) [.Call (.Name "range" p2) [b] [] q2] [] pos) (dLstRg1 db) := by
  obtain ⟨tb, b1, b2⟩ := hb
  refine ⟨_, pe_listRg hc hg hm (prg_1 hg2 hm2 b1 nb) nl, fun σ G H S Qd Q R hQ h => ?_⟩
  refine b2 σ G H S _ _ R (fun u H2 ⟨G2, S2, dy, A2, r2, h2⟩ => ?_) h
  obtain ⟨j, e2, k2, k3, h2⟩ := h2
  subst e2
  cases r2
  refine ⟨j, rfl, ⟨by decide, by decide, k2.1, k2.2, by simpa using k3⟩, fun q nq => ?_⟩
  have A3 := Aft.gw0 A2.rp (.alloc (o := .lst (rgV 0 j)) A2.rp.sub nq)
  have e3 : (j - 0).toNat = j.toNat := by omega
  have z := rgV_rep (K := X.K) (mg := X.mg) (G := upd G2 q (.lst (rgV 0 j))) (n := S2.n) 0 j
  rw [e3] at z
  exact hQ _ _ ⟨_, S2, _, A2.trans A3, .lst (.inl (.inl upd_same)) z, h2⟩
/-! ### words for walks -/
theorem w_all3 {i j l : Nat} {p : Nat → Prop} : (∀ v ∈ [i, j, l], p v) = (p i ∧ p j ∧ p l) := by
  apply propext
  exact ⟨fun h => ⟨h i (by simp), h j (by simp), h l (by simp)⟩, fun h v hv => by
    rcases (show v = i ∨ v = j ∨ v = l by simpa using hv) with e | e | e
    · rw [e]; exact h.1
    · rw [e]; exact h.2.1
    · rw [e]; exact h.2.2⟩
theorem w_aug {x : Int} {p : Int → Prop} : (∃ a, some (some (SV.p (D.int x))) = some (some (SV.p (D.int a))) ∧ p a) = p x := by
  apply propext
  constructor
  · rintro ⟨a, h, q⟩
    cases h
    exact q
  · exact fun q => ⟨x, rfl, q⟩
theorem w_len {n : Nat} {a : Nat} {P : Prop} : (n = n → P) = P := propext ⟨fun h => h rfl, fun h _ => h⟩
end DL
set_option maxHeartbeats 1000000
namespace DL
open PySem PySem.Spec PyProof.Rows L2
/-! ### sum of a list or of a tuple -/
def rSumB (K : PySem.W.Frag) : List V → Hp → VK → Prop := fun vs H Q => ∃ (a : Addr) (ns : List Int), vs = [V.ref a] ∧ (SqL K H a (ns.map V.int) ∨ SqT K H a (ns.map V.int)) ∧ Q (.int ns.sum) H
theorem cr_sumB {X : Cx} (hc : X.calm = true) : CallR X (.builtin "sum") (rSumB X.K) := by
  intro pins s σ H vs us Q I r h
  obtain ⟨a, ns, rfl, hs, q⟩ := h
  rcases hs with hs | hs
  · exact cr_sum hc pins s σ H _ us Q I r ⟨a, ns, rfl, hs, q⟩
  · obtain ⟨its, rv, ht, _⟩ := I.tuple hs
    rw [Vals.ref1 r]
    have hi := rv.ints
    obtain ⟨xs, hx⟩ := hi.allInts.items
    have hn : numsOf its.toArray.toList = ns := by rw [show its.toArray.toList = its from rfl, hi.numsOf]
    rw [hx] at ht hn
    rw [nums_intItems] at hn
    refine PySem.W.ktm_sumG (I.ok.hd hc) ht fun h' tk t' hk => ?_
    rw [preSum_eq, List.take_of_length_le (by simp), hn]
    exact ⟨.int _, H, I.kept hk, ⟨_, rfl⟩, q⟩
def gSumB : List D → Option D
  | [.lst l] => (intsOf l).map fun ns => .int ns.sum
  | [.tup l] => (intsOf l).map fun ns => .int ns.sum
  | _ => none
theorem cd_sumB {c : Ct} {X : Cx} (hc : X.calm = true) : CallD c X (.builtin "sum") gSumB := ⟨_, cr_sumB hc, fun G H n vs ds z Q s r q hq => by
  unfold gSumB at q
  split at q
  · rename_i l
    obtain ⟨v, e, rv⟩ := rep1 r
    subst e
    cases rv with
    | @lst p xs _ h a =>
      cases e : intsOf l with
      | none =>
        rw [e] at q
        cases q
      | some ns =>
        rw [e] at q
        have e2 : D.int ns.sum = z := Option.some.inj q
        subst e2
        have ex := intsOf_rep a e
        subst ex
        exact ⟨_, ns, rfl, .inl (sqL_sub s h), hq _ G H (.refl s) (.int _)⟩
  · rename_i l
    obtain ⟨v, e, rv⟩ := rep1 r
    subst e
    cases rv with
    | @tup p xs _ h a =>
      cases e : intsOf l with
      | none =>
        rw [e] at q
        cases q
      | some ns =>
        rw [e] at q
        have e2 : D.int ns.sum = z := Option.some.inj q
        subst e2
        have ex := intsOf_rep a e
        subst ex
        exact ⟨_, ns, rfl, .inr (sqT_sub s h), hq _ G H (.refl s) (.int _)⟩
  · cases q⟩
end DL
set_option maxHeartbeats 1000000
namespace KP
open PySem PySem.Spec PyProof.Rows L2 DL
/-! ### the program's search -/
abbrev Pr := Nat × Nat
/-- the least place that is not taken -/
def lf (t : Nat) : Nat := ((List.range 128).find? fun p => !t.testBit p).getD 128
theorem lf_spec {t b : Nat} (hb : b < 128) (h : t.testBit b = false) : t.testBit (lf t) = false ∧ lf t ≤ b ∧ ∀ q, q < lf t → t.testBit q = true := by
  unfold lf
  cases e : (List.range 128).find? fun p => !t.testBit p with
  | none =>
    rw [List.find?_eq_none] at e
    have := e b (List.mem_range.mpr hb)
    rw [h] at this
    simp at this
  | some p =>
    have h1 := List.find?_some e
    rw [List.find?_eq_some_iff_getElem] at e
    obtain ⟨e1, i, hi, e2, e3⟩ := e
    rw [List.getElem_range] at e2
    subst e2
    have e3' : ∀ q, q < i → t.testBit q = true := fun q hq => by
      have := e3 q hq
      rw [List.getElem_range] at this
      simpa using this
    refine ⟨by simpa using e1, ?_, e3'⟩
    show i ≤ b
    apply Classical.byContradiction
    intro z
    rw [e3' b (by omega)] at h
    cases h
theorem lf_eq {t p : Nat} (hp : p < 128) (h : t.testBit p = false) (h2 : ∀ q, q < p → t.testBit q = true) : lf t = p := by
  obtain ⟨a, b, c⟩ := lf_spec hp h
  rcases Nat.lt_or_ge (lf t) p with z | z
  · rw [h2 _ z] at a
    cases a
  · omega
/-- a state: places taken, distances left -/
abbrev Ky := Nat × List Nat
/-- what comes by a pair from the least free place on -/
def sOne (t : Nat) (left : List Nat) (L : Nat) (q : Nat × Nat) : Option (Ky × Pr) :=
  if (q.2 = 0 ∨ left[q.2 - 1]? ≠ some q.1) ∧ lf t + q.1 < L ∧ t.testBit (lf t + q.1) = false then some ((t + 2 ^ lf t + 2 ^ (lf t + q.1), left.eraseIdx q.2), (lf t, lf t + q.1)) else none
def sAft (t : Nat) (left : List Nat) (L : Nat) : List (Ky × Pr) := left.zipIdx.filterMap (sOne t left L)
/-- ways and one of them -/
abbrev Wy := Nat × List Pr
abbrev Rw := List (Ky × Wy)
def lookR (l : Rw) (k : Ky) : Option Wy := (l.find? fun p => decide (p.1 = k)).map (·.2)
def putR (l : Rw) (k : Ky) (d : Wy) : Rw := if (lookR l k).isSome then l.map (fun p => if p.1 = k then (p.1, d) else p) else l ++ [(k, d)]
/-- one way more into a state -/
def addR (w : Wy) (F : Rw) (s : Ky × Pr) : Rw :=
  let b := (lookR F s.1).getD (0, w.2 ++ [s.2])
  putR F s.1 (b.1 + w.1, b.2)
def stepR (L : Nat) (F : Rw) (r : Ky × Wy) : Rw := (sAft r.1.1 r.1.2 L).foldl (addR r.2) F
def cAft (L : Nat) (R : Rw) : Rw := R.foldl (stepR L) []
def iterR (L : Nat) : Nat → Rw → Rw
  | 0, R => R
  | k + 1, R => cAft L (iterR L k R)
def tkb (hs : List Nat) : Nat := (hs.map fun h => 2 ^ h).sum
def allR (ds hs : List Nat) : Rw := iterR (2 * ds.length + hs.length) ds.length [((tkb hs, ds), (1, []))]
/-! ### as data -/
def iD (n : Nat) : D := .int n
def ksD (k : Ky) : NK := ((k.1 : Int), k.2.map fun n : Nat => (n : Int))
def nD (p : Pr) : D := .tup [.int p.1, .int p.2]
def wyD (w : Wy) : D := .tup [.int w.1, .tup (w.2.map nD)]
def rwD (R : Rw) : List (NK × D) := R.map fun r => (ksD r.1, wyD r.2)
def stD (s : Ky × Pr) : D := .tup [.int s.1.1, .tup (s.1.2.map iD), nD s.2]
theorem iD_map (l : List Nat) : l.map iD = (l.map fun n : Nat => (n : Int)).map D.int := by
  rw [List.map_map]
  rfl
theorem nat_inj : ∀ {a b : List Nat}, (a.map fun n : Nat => (n : Int)) = b.map (fun n : Nat => (n : Int)) → a = b
  | [], [], _ => rfl
  | [], _ :: _, h => by cases h
  | _ :: _, [], h => by cases h
  | x :: a, y :: b, h => by
    rw [List.map_cons, List.map_cons] at h
    injection h with h1 h2
    rw [nat_inj h2, Int.ofNat.inj h1]
theorem ksD_inj {a b : Ky} (h : ksD a = ksD b) : a = b := by
  unfold ksD at h
  injection h with h1 h2
  exact Prod.ext (Int.ofNat.inj h1) (nat_inj h2)
theorem nkD_ks (k : Ky) : nkD (ksD k) = .tup [.int k.1, .tup (k.2.map iD)] := by
  unfold nkD ksD
  rw [iD_map]
theorem nkOf_ks (k : Ky) : nkOf (.tup [.int k.1, .tup (k.2.map iD)]) = some (ksD k) := by
  rw [← nkD_ks]
  exact nkOf_D _
theorem look_rw (k : Ky) : ∀ R : Rw, lookN (rwD R) (ksD k) = (lookR R k).map wyD
  | [] => rfl
  | r :: R => by
    show lookN ((ksD r.1, wyD r.2) :: rwD R) (ksD k) = _
    rw [lookN_cons, look_rw k R]
    have e : lookR (r :: R) k = if r.1 = k then some r.2 else lookR R k := by
      unfold lookR
      rw [List.find?_cons]
      by_cases h : r.1 = k
      · rw [decide_eq_true h, if_pos h]
        rfl
      · rw [decide_eq_false h, if_neg h]
    rw [e]
    by_cases h : r.1 = k
    · rw [if_pos h, if_pos (by rw [h])]
      rfl
    · rw [if_neg h, if_neg fun z => h (ksD_inj z)]
theorem put_rw (k : Ky) (w : Wy) (R : Rw) : putN (rwD R) (ksD k) (wyD w) = rwD (putR R k w) := by
  unfold putN putR
  rw [look_rw, Option.isSome_map]
  by_cases h : (lookR R k).isSome = true
  · rw [if_pos h, if_pos h]
    unfold rwD
    rw [List.map_map, List.map_map]
    apply List.map_congr_left
    intro r _
    show (if ksD r.1 = ksD k then (ksD r.1, wyD w) else (ksD r.1, wyD r.2)) = (ksD (if r.1 = k then (r.1, w) else r).1, wyD (if r.1 = k then (r.1, w) else r).2)
    by_cases e : r.1 = k
    · rw [if_pos e, if_pos (by rw [e])]
    · rw [if_neg e, if_neg fun z => e (ksD_inj z)]
  · rw [if_neg h, if_neg h]
    unfold rwD
    rw [List.map_append]
    rfl
theorem putR_len (R : Rw) (k : Ky) (w : Wy) : (putR R k w).length ≤ R.length + 1 := by
  unfold putR
  split
  · rw [List.length_map]
    omega
  · rw [List.length_append]
    simp
theorem addR_len (w : Wy) (F : Rw) (s : Ky × Pr) : (addR w F s).length ≤ F.length + 1 := putR_len _ _ _
theorem sAft_len (t : Nat) (left : List Nat) (L : Nat) : (sAft t left L).length ≤ left.length := by
  unfold sAft
  exact Nat.le_trans (List.length_filterMap_le ..) (by rw [List.length_zipIdx]; exact Nat.le_refl _)
theorem foldR_len (w : Wy) : ∀ (l : List (Ky × Pr)) (F : Rw), (l.foldl (addR w) F).length ≤ F.length + l.length
  | [], F => by simp
  | s :: l, F => by
    rw [List.foldl_cons, List.length_cons]
    have h1 := foldR_len w l (addR w F s)
    have h2 := addR_len w F s
    omega
/-! ### the law's search -/
/-- the places taken, as the law lists them -/
def tkn (hs : List Nat) : List Pr → List Nat
  | [] => hs
  | p :: v => tkn hs v ++ [p.1, p.2]
/-- whether (f, f + d) may stand ahead of v -/
def dueB (hs : List Nat) (d : Nat) (ds : List Nat) (v : List Pr) (f : Nat) : Bool :=
  !decide (f ∈ tkn hs v) && !decide (f + d ∈ tkn hs v) && (decide (v = []) || decide (ds = []) || !decide (ds.head? = some d) || (match v with | p :: _ => decide (f < p.1) | [] => false))
def oOne (hs : List Nat) (d : Nat) (ds : List Nat) (v : List Pr) (f : Nat) : Option (List Pr) := if dueB hs d ds v f = true then some ((f, f + d) :: v) else none
def oa (L : Nat) (hs : List Nat) : List Nat → List (List Pr)
  | [] => [[]]
  | d :: ds => (oa L hs ds).flatMap fun v => (List.range (L - d)).filterMap (oOne hs d ds v)
end KP
set_option maxHeartbeats 1000000
namespace KP
open PySem PySem.Spec PyProof.Rows L2 DL
/-! ### bits -/
theorem tb_add : ∀ {i t : Nat}, t.testBit i = false → ∀ j, (t + 2 ^ i).testBit j = (t.testBit j || decide (i = j))
  | 0, t, h, 0 => by
    rw [Nat.testBit_zero, Nat.testBit_zero] at *
    simp at *
    omega
  | 0, t, h, j + 1 => by
    rw [Nat.testBit_zero] at h
    rw [Nat.testBit_succ, Nat.testBit_succ]
    have e : (t + 2 ^ 0) / 2 = t / 2 := by
      simp at *
      omega
    rw [e]
    simp
  | i + 1, t, h, 0 => by
    rw [Nat.testBit_zero, Nat.testBit_zero]
    have e : (t + 2 ^ (i + 1)) % 2 = t % 2 := by
      rw [Nat.pow_succ]
      omega
    rw [e]
    simp
  | i + 1, t, h, j + 1 => by
    rw [Nat.testBit_succ] at h
    rw [Nat.testBit_succ, Nat.testBit_succ]
    have e : (t + 2 ^ (i + 1)) / 2 = t / 2 + 2 ^ i := by
      rw [Nat.pow_succ]
      omega
    rw [e, tb_add h j]
    simp
def Bits (t : Nat) (T : List Nat) : Prop := ∀ j, t.testBit j = decide (j ∈ T)
theorem bits_add {t i : Nat} {T : List Nat} (h : Bits t T) (hi : i ∉ T) : Bits (t + 2 ^ i) (T ++ [i]) := fun j => by
  have e : t.testBit i = false := by
    rw [h i]
    exact decide_eq_false hi
  rw [tb_add e, h j]
  by_cases c : j ∈ T <;> by_cases d : i = j <;> simp [c, d]
  exact fun z => d z.symm
theorem bits_tkb : ∀ {hs : List Nat}, hs.Nodup → Bits (tkb hs) hs
  | [], _ => fun j => by simp [tkb]
  | h :: hs, hn => fun j => by
    obtain ⟨h1, h2⟩ := List.nodup_cons.mp hn
    have ih := bits_tkb h2
    have e : tkb (h :: hs) = tkb hs + 2 ^ h := by
      simp [tkb]
      omega
    have := bits_add ih h1 j
    rw [e, this]
    apply decide_eq_decide.mpr
    simp
    exact Or.comm
/-! ### places -/
def plc (v : List Pr) : List Nat := v.flatMap fun p => [p.1, p.2]
def dsP (v : List Pr) : List Nat := v.map fun p => p.2 - p.1
theorem plc_cons (p : Pr) (v : List Pr) : plc (p :: v) = p.1 :: p.2 :: plc v := rfl
theorem plc_len : ∀ v : List Pr, (plc v).length = 2 * v.length
  | [] => rfl
  | p :: v => by
    rw [plc_cons, List.length_cons, List.length_cons, List.length_cons, plc_len v]
    omega
theorem mem_plc {x : Nat} {v : List Pr} : x ∈ plc v ↔ ∃ p ∈ v, x = p.1 ∨ x = p.2 := by
  unfold plc
  rw [List.mem_flatMap]
  simp
/-- as many places as there are, all in it -/
theorem full {l : List Nat} {L : Nat} (h1 : l.Nodup) (h2 : ∀ x ∈ l, x < L) (h3 : l.length = L) {q : Nat} (hq : q < L) : q ∈ l := by
  apply Classical.byContradiction
  intro z
  have h := List.Nodup.length_le_of_subset (List.nodup_cons.mpr ⟨z, h1⟩) (l₂ := List.range L) fun x hx => by
    rw [List.mem_range]
    rcases List.mem_cons.mp hx with e | e
    · omega
    · exact h2 x e
  rw [List.length_range, List.length_cons] at h
  omega
/-! ### paths of the search -/
def paths (L : Nat) : Nat → Ky → List (List Pr)
  | 0, _ => [[]]
  | m + 1, k => (sAft k.1 k.2 L).flatMap fun s => (paths L m s.1).map (s.2 :: ·)
structure GoodS (L m t : Nat) (left T : List Nat) : Prop where
  bits : Bits t T
  nd : T.Nodup
  lt : ∀ x ∈ T, x < L
  len : T.length + 2 * m = L
  ll : left.length = m
  asc : left.Pairwise (· ≤ ·)
  pos : ∀ d ∈ left, 0 < d
  hL : L ≤ 100
structure PathOf (L : Nat) (left T : List Nat) (w : List Pr) : Prop where
  ds : (dsP w).Perm left
  nd : (T ++ plc w).Nodup
  lt : ∀ x ∈ plc w, x < L
  asc : w.Pairwise (·.1 < ·.1)
  up : ∀ p ∈ w, p.1 < p.2
theorem mem_sAft {t L : Nat} {left : List Nat} {s : Ky × Pr} : s ∈ sAft t left L ↔ ∃ d i, left[i]? = some d ∧ (i = 0 ∨ left[i - 1]? ≠ some d) ∧ lf t + d < L ∧ t.testBit (lf t + d) = false ∧ s = ((t + 2 ^ lf t + 2 ^ (lf t + d), left.eraseIdx i), (lf t, lf t + d)) := by
  unfold sAft
  rw [List.mem_filterMap]
  constructor
  · rintro ⟨⟨d, i⟩, h1, h2⟩
    have h3 := List.mem_zipIdx_iff_getElem?.mp h1
    unfold sOne at h2
    split at h2
    · rename_i c
      exact ⟨d, i, h3, c.1, c.2.1, c.2.2, (Option.some.inj h2).symm⟩
    · cases h2
  · rintro ⟨d, i, h1, h2, h3, h4, h5⟩
    refine ⟨(d, i), List.mem_zipIdx_iff_getElem?.mpr h1, ?_⟩
    unfold sOne
    rw [if_pos ⟨h2, h3, h4⟩, h5]
theorem erase_perm : ∀ {l : List Nat} {i d : Nat}, l[i]? = some d → l.Perm (d :: l.eraseIdx i)
  | [], i, d, h => by simp at h
  | x :: l, 0, d, h => by
    simp at h
    rw [h]
    exact List.Perm.refl _
  | x :: l, i + 1, d, h => by
    rw [List.getElem?_cons_succ] at h
    have ih := erase_perm h
    rw [List.eraseIdx_cons_succ]
    exact (List.Perm.cons x ih).trans (List.Perm.swap _ _ _)
theorem lf_good {L m t : Nat} {left T : List Nat} (g : GoodS L m t left T) : lf t ∉ T ∧ ∀ q, q < lf t → q ∈ T := by
  have e : t.testBit 100 = false := by
    rw [g.bits 100]
    exact decide_eq_false fun z => by
      have := g.lt _ z
      have := g.hL
      omega
  obtain ⟨a, b, c⟩ := lf_spec (by decide) e
  rw [g.bits] at a
  refine ⟨of_decide_eq_false a, fun q hq => ?_⟩
  have := c q hq
  rw [g.bits] at this
  exact of_decide_eq_true this
theorem tb100 {L m t : Nat} {left T : List Nat} (g : GoodS L m t left T) : t.testBit 100 = false := by
  rw [g.bits 100]
  exact decide_eq_false fun z => by
    have := g.lt _ z
    have := g.hL
    omega
theorem good_step {L m t : Nat} {left T : List Nat} {s : Ky × Pr} (g : GoodS L m t left T) (h : s ∈ sAft t left L) : ∃ m', m = m' + 1 ∧ GoodS L m' s.1.1 s.1.2 (T ++ [s.2.1, s.2.2]) ∧ s.2.1 < s.2.2 ∧ s.2.1 = lf t ∧ left.Perm ((s.2.2 - s.2.1) :: s.1.2) := by
  obtain ⟨d, i, h1, h2, h3, h4, rfl⟩ := mem_sAft.mp h
  obtain ⟨f1, f2⟩ := lf_good g
  have hi : i < left.length := (List.getElem?_eq_some_iff.mp h1).1
  have hd : d ∈ left := List.mem_iff_getElem?.mpr ⟨i, h1⟩
  have d0 := g.pos d hd
  have s1 : lf t + d ∉ T := by
    rw [g.bits] at h4
    exact of_decide_eq_false h4
  have s2 : lf t + d ∉ T ++ [lf t] := by
    rw [List.mem_append]
    rintro (z | z)
    · exact s1 z
    · simp at z
      omega
  have hlen : (left.eraseIdx i).length = left.length - 1 := by
    rw [List.length_eraseIdx_of_lt hi]
  have hll := g.ll
  have hLn := g.len
  refine ⟨m - 1, by omega, ⟨?_, ?_, ?_, ?_, ?_, ?_, ?_, g.hL⟩, by show lf t < lf t + d; omega, rfl, ?_⟩
  · show Bits (t + 2 ^ lf t + 2 ^ (lf t + d)) (T ++ [lf t, lf t + d])
    have := bits_add (bits_add g.bits f1) s2
    rwa [List.append_assoc] at this
  · show (T ++ [lf t, lf t + d]).Nodup
    rw [List.nodup_append]
    refine ⟨g.nd, ?_, ?_⟩
    · simp
      omega
    · intro a ha b hb e
      subst e
      simp at hb
      rcases hb with e | e
      · exact f1 (e ▸ ha)
      · exact s1 (e ▸ ha)
  · intro x hx
    rcases List.mem_append.mp hx with z | z
    · exact g.lt x z
    · have : x = lf t ∨ x = lf t + d := by simpa using z
      omega
  · show (T ++ [lf t, lf t + d]).length + 2 * (m - 1) = L
    rw [List.length_append]
    simp
    omega
  · show (left.eraseIdx i).length = m - 1
    omega
  · exact List.Pairwise.sublist (List.eraseIdx_sublist _ _) g.asc
  · exact fun x hx => g.pos x ((List.eraseIdx_sublist left i).subset hx)
  · show left.Perm ((lf t + d - lf t) :: left.eraseIdx i)
    rw [Nat.add_sub_cancel_left]
    exact erase_perm h1
theorem app2 (T : List Nat) (p : Pr) (w : List Pr) : (T ++ [p.1, p.2]) ++ plc w = T ++ plc (p :: w) := by
  rw [List.append_assoc]
  rfl
theorem mem_paths_succ {L m : Nat} {k : Ky} {w : List Pr} : w ∈ paths L (m + 1) k ↔ ∃ s ∈ sAft k.1 k.2 L, ∃ w' ∈ paths L m s.1, w = s.2 :: w' := by
  show w ∈ ((sAft k.1 k.2 L).flatMap fun s => (paths L m s.1).map (s.2 :: ·)) ↔ _
  rw [List.mem_flatMap]
  simp only [List.mem_map]
  constructor
  · rintro ⟨s, h1, w', h2, h3⟩
    exact ⟨s, h1, w', h2, h3.symm⟩
  · rintro ⟨s, h1, w', h2, h3⟩
    exact ⟨s, h1, w', h2, h3.symm⟩
theorem first_ix : ∀ {l : List Nat} {d : Nat}, d ∈ l → ∃ i, l[i]? = some d ∧ (i = 0 ∨ l[i - 1]? ≠ some d)
  | [], d, h => absurd h List.not_mem_nil
  | x :: l, d, h => by
    by_cases e : x = d
    · exact ⟨0, by rw [e]; rfl, .inl rfl⟩
    · have h2 : d ∈ l := by
        rcases List.mem_cons.mp h with z | z
        · exact absurd z.symm e
        · exact z
      obtain ⟨i, i1, i2⟩ := first_ix h2
      refine ⟨i + 1, by rw [List.getElem?_cons_succ]; exact i1, .inr ?_⟩
      rw [Nat.add_sub_cancel]
      cases i with
      | zero =>
        intro z
        exact e (Option.some.inj z)
      | succ j =>
        rw [List.getElem?_cons_succ]
        rcases i2 with z | z
        · omega
        · exact z
theorem paths_iff : ∀ {L m : Nat} {t : Nat} {left T : List Nat}, GoodS L m t left T → ∀ {w : List Pr}, w ∈ paths L m (t, left) ↔ PathOf L left T w
  | L, 0, t, left, T, g, w => by
    have hl : left = [] := List.eq_nil_of_length_eq_zero g.ll
    subst hl
    show w ∈ [[]] ↔ _
    rw [List.mem_singleton]
    constructor
    · rintro rfl
      exact ⟨List.Perm.refl _, by simpa [plc] using g.nd, fun x hx => absurd hx List.not_mem_nil, List.Pairwise.nil, fun x hx => absurd hx List.not_mem_nil⟩
    · intro p
      have := p.ds.length_eq
      unfold dsP at this
      rw [List.length_map] at this
      exact List.eq_nil_of_length_eq_zero this
  | L, m + 1, t, left, T, g, w => by
    rw [mem_paths_succ]
    constructor
    · rintro ⟨s, h1, w', h2, rfl⟩
      obtain ⟨m', e, g', up, hf, hp⟩ := good_step g h1
      have em : m = m' := by omega
      subst em
      have ih := (paths_iff g').mp h2
      obtain ⟨f1, f2⟩ := lf_good g
      have nd := ih.nd
      rw [app2] at nd
      refine ⟨?_, nd, ?_, ?_, ?_⟩
      · show ((s.2.2 - s.2.1) :: dsP w').Perm left
        exact (List.Perm.cons _ ih.ds).trans hp.symm
      · intro x hx
        rw [plc_cons] at hx
        rcases List.mem_cons.mp hx with e | hx
        · rw [e]
          exact g'.lt _ (by simp)
        · rcases List.mem_cons.mp hx with e | hx
          · rw [e]
            exact g'.lt _ (by simp)
          · exact ih.lt x hx
      · rw [List.pairwise_cons]
        refine ⟨fun q hq => ?_, ih.asc⟩
        have hq1 : q.1 ∈ plc w' := mem_plc.mpr ⟨q, hq, .inl rfl⟩
        have hq2 : q.1 ∉ T ++ [s.2.1, s.2.2] := fun z => by
          have := ih.nd
          rw [List.nodup_append] at this
          exact this.2.2 _ z _ hq1 rfl
        apply Classical.byContradiction
        intro z
        rcases Nat.lt_or_ge q.1 s.2.1 with c | c
        · rw [hf] at c
          exact hq2 (List.mem_append_left _ (f2 _ c))
        · have : q.1 = s.2.1 := by omega
          exact hq2 (List.mem_append_right _ (by rw [this]; simp))
      · intro p hp
        rcases List.mem_cons.mp hp with e | e
        · rw [e]
          exact up
        · exact ih.up p e
    · intro p
      cases w with
      | nil =>
        have := p.ds.length_eq
        have h2 := g.ll
        unfold dsP at this
        simp at this
        omega
      | cons x w' =>
        have hx12 := p.up x List.mem_cons_self
        have nd := p.nd
        have lt1 : x.1 < L := p.lt _ (by rw [plc_cons]; simp)
        have lt2 : x.2 < L := p.lt _ (by rw [plc_cons]; simp)
        have nd2 := nd
        rw [List.nodup_append] at nd2
        have n1 : x.1 ∉ T := fun z => nd2.2.2 _ z _ (by rw [plc_cons]; simp) rfl
        have n2 : x.2 ∉ T := fun z => nd2.2.2 _ z _ (by rw [plc_cons]; simp) rfl
        have hlen : w'.length + 1 = m + 1 := by
          have := p.ds.length_eq
          unfold dsP at this
          rw [List.length_map, List.length_cons, g.ll] at this
          exact this
        have hall : ∀ y ∈ T ++ plc (x :: w'), y < L := fun y hy => by
          rcases List.mem_append.mp hy with z | z
          · exact g.lt y z
          · exact p.lt y z
        have hfull : (T ++ plc (x :: w')).length = L := by
          rw [List.length_append, plc_len, List.length_cons]
          have := g.len
          omega
        have ef : lf t = x.1 := by
          apply lf_eq
          · have := g.hL
            omega
          · rw [g.bits]
            exact decide_eq_false n1
          · intro q hq
            rw [g.bits]
            apply decide_eq_true
            have hm := full nd hall hfull (q := q) (by omega)
            rcases List.mem_append.mp hm with z | z
            · exact z
            · exfalso
              obtain ⟨y, hy, e⟩ := mem_plc.mp z
              have hy2 := p.up y hy
              have hy3 : x.1 ≤ y.1 := by
                rcases List.mem_cons.mp hy with c | c
                · rw [c]; exact Nat.le_refl _
                · exact Nat.le_of_lt ((List.pairwise_cons.mp p.asc).1 y c)
              omega
        have hd : x.2 - x.1 ∈ left := p.ds.subset (by unfold dsP; simp)
        obtain ⟨i, i1, i2⟩ := first_ix hd
        have e2 : lf t + (x.2 - x.1) = x.2 := by omega
        have hs : ((t + 2 ^ lf t + 2 ^ (lf t + (x.2 - x.1)), left.eraseIdx i), (lf t, lf t + (x.2 - x.1))) ∈ sAft t left L := by
          refine mem_sAft.mpr ⟨x.2 - x.1, i, i1, i2, by omega, ?_, rfl⟩
          rw [e2, g.bits]
          exact decide_eq_false n2
        obtain ⟨m', e, g', up, hf, hp⟩ := good_step g hs
        have em : m = m' := by omega
        subst em
        refine ⟨_, hs, w', (paths_iff g').mpr ⟨?_, ?_, ?_, ?_, ?_⟩, ?_⟩
        · have h1 : ((x.2 - x.1) :: dsP w').Perm left := p.ds
          have h2 := h1.trans hp
          have e3 : (lf t + (x.2 - x.1)) - lf t = x.2 - x.1 := by omega
          dsimp only at h2
          rw [e3] at h2
          exact h2.cons_inv
        · have e3 : (T ++ [lf t, lf t + (x.2 - x.1)]) ++ plc w' = T ++ plc (x :: w') := by
            rw [e2, ef]
            exact app2 T x w'
          dsimp only
          rw [e3]
          exact nd
        · exact fun y hy => p.lt y (by rw [plc_cons]; simp [hy])
        · exact (List.pairwise_cons.mp p.asc).2
        · exact fun y hy => p.up y (List.mem_cons_of_mem _ hy)
        · rw [e2, ef]
/-! ### ways to a state -/
inductive Way (L : Nat) (k0 : Ky) : List Pr → Ky → Prop
  | nil : Way L k0 [] k0
  | snoc {ps : List Pr} {k : Ky} {s : Ky × Pr} : Way L k0 ps k → s ∈ sAft k.1 k.2 L → Way L k0 (ps ++ [s.2]) s.1
theorem way_paths {L : Nat} {k0 : Ky} {ps : List Pr} {k : Ky} (h : Way L k0 ps k) : ∀ m, ∀ qs ∈ paths L m k, ps ++ qs ∈ paths L (ps.length + m) k0 := by
  induction h with
  | nil =>
    intro m qs hq
    simpa using hq
  | snoc hw hs ih =>
    intro m qs hq
    have := ih (m + 1) _ (mem_paths_succ.mpr ⟨_, hs, qs, hq, rfl⟩)
    rw [List.length_append, List.append_assoc]
    have e : ∀ a : Nat, a + [(0, 0)].length + m = a + (m + 1) := fun a => by simp; omega
    rw [List.length_singleton, Nat.add_assoc, Nat.add_comm 1 m]
    exact this
theorem way_good {L n : Nat} {k0 : Ky} {hs : List Nat} {ps : List Pr} {k : Ky} (g : GoodS L n k0.1 k0.2 hs) (h : Way L k0 ps k) : ∃ m, n = ps.length + m ∧ GoodS L m k.1 k.2 (hs ++ plc ps) := by
  induction h with
  | nil => exact ⟨n, by simp, by simpa [plc] using g⟩
  | @snoc ps k s hw hm ih =>
    obtain ⟨m, e, g1⟩ := ih
    obtain ⟨m', e', g', up, hf, hp⟩ := good_step g1 hm
    refine ⟨m', by rw [List.length_append, List.length_singleton]; omega, ?_⟩
    have e3 : hs ++ plc ps ++ [s.2.1, s.2.2] = hs ++ plc (ps ++ [s.2]) := by
      rw [List.append_assoc]
      unfold plc
      rw [List.flatMap_append]
      rfl
    rw [e3] at g'
    exact g'
end KP
set_option maxHeartbeats 1000000
namespace KP
open PySem PySem.Spec PyProof.Rows L2 DL
/-! ### merged rows -/
def KN (F : Rw) : Prop := (F.map (·.1)).Nodup
def tot (g : Ky → Nat) (F : Rw) : Nat := (F.map fun r => r.2.1 * g r.1).sum
theorem look_mem {F : Rw} {k : Ky} {b : Wy} (h : lookR F k = some b) : (k, b) ∈ F := by
  unfold lookR at h
  rw [Option.map_eq_some_iff] at h
  obtain ⟨r, h1, h2⟩ := h
  have h3 := List.find?_some h1
  have h4 := List.mem_of_find?_eq_some h1
  rw [decide_eq_true_eq] at h3
  obtain ⟨k', b'⟩ := r
  dsimp only at h3 h2
  subst h3
  subst h2
  exact h4
theorem look_none {F : Rw} {k : Ky} (h : lookR F k = none) : k ∉ F.map (·.1) := by
  unfold lookR at h
  rw [Option.map_eq_none_iff, List.find?_eq_none] at h
  intro z
  obtain ⟨r, h1, h2⟩ := List.mem_map.mp z
  have := h r h1
  exact this (decide_eq_true h2)
theorem map_id_no {F : Rw} {k : Ky} {d : Wy} (h : k ∉ F.map (·.1)) : F.map (fun p : Ky × Wy => if p.1 = k then (p.1, d) else p) = F := by
  exact (List.map_congr_left fun p hp => if_neg fun z => h (List.mem_map.mpr ⟨p, hp, z⟩)).trans (List.map_id' F)
theorem tot_put {g : Ky → Nat} {k : Ky} {c : Nat} {b : Wy} {l : List Pr} : ∀ {F : Rw}, KN F → lookR F k = some b → tot g (F.map (fun p : Ky × Wy => if p.1 = k then (p.1, ((b.1 + c, l) : Wy)) else p)) = tot g F + c * g k
  | [], _, h => by cases h
  | r :: F, hn, h => by
    have hn2 := List.nodup_cons.mp hn
    have e : lookR (r :: F) k = if r.1 = k then some r.2 else lookR F k := by
      unfold lookR
      rw [List.find?_cons]
      by_cases h : r.1 = k
      · rw [decide_eq_true h, if_pos h]
        rfl
      · rw [decide_eq_false h, if_neg h]
    rw [e] at h
    by_cases hr : r.1 = k
    · rw [if_pos hr] at h
      have hb := Option.some.inj h
      rw [List.map_cons, if_pos hr, map_id_no (hr ▸ hn2.1)]
      show (b.1 + c) * g r.1 + tot g F = r.2.1 * g r.1 + tot g F + c * g k
      rw [hb, Nat.add_mul, hr]
      omega
    · rw [if_neg hr] at h
      have ih := tot_put (g := g) (c := c) (l := l) hn2.2 h
      rw [List.map_cons, if_neg hr]
      show r.2.1 * g r.1 + tot g _ = r.2.1 * g r.1 + tot g F + c * g k
      rw [ih]
      omega
theorem keys_put {F : Rw} {k : Ky} {d : Wy} : (F.map (fun p : Ky × Wy => if p.1 = k then (p.1, d) else p)).map (·.1) = F.map (·.1) := by
  rw [List.map_map]
  apply List.map_congr_left
  intro p _
  show (if p.1 = k then (p.1, d) else p).1 = p.1
  split <;> rfl
theorem tot_app (g : Ky → Nat) (F G : Rw) : tot g (F ++ G) = tot g F + tot g G := by
  unfold tot
  rw [List.map_append, List.sum_append]
theorem add_spec {g : Ky → Nat} {w : Wy} {F : Rw} {s : Ky × Pr} (hn : KN F) : KN (addR w F s) ∧ tot g (addR w F s) = tot g F + w.1 * g s.1 ∧
    ∀ P : Ky → Wy → Prop, (∀ r ∈ F, P r.1 r.2) → (P s.1 (w.1, w.2 ++ [s.2])) → (∀ k c d l, P k (c, l) → P k (c + d, l)) → ∀ r ∈ addR w F s, P r.1 r.2 := by
  unfold addR putR
  cases h : lookR F s.1 with
  | none =>
    have hk := look_none h
    refine ⟨?_, ?_, ?_⟩
    · show ((F ++ [(s.1, _)]).map (fun p : Ky × Wy => p.1)).Nodup
      rw [List.map_append, List.nodup_append]
      refine ⟨hn, by simp, ?_⟩
      intro a ha b hb e
      simp at hb
      rw [e, hb] at ha
      exact hk ha
    · show tot g (F ++ [(s.1, _)]) = _
      rw [tot_app]
      congr 1
      show (0 + w.1) * g s.1 + 0 = _
      rw [Nat.zero_add, Nat.add_zero]
    · intro P h1 h2 h3 r hr
      have hr2 : r ∈ F ++ [(s.1, ((0 + w.1, w.2 ++ [s.2]) : Wy))] := hr
      rcases List.mem_append.mp hr2 with z | z
      · exact h1 r z
      · rw [List.mem_singleton] at z
        subst z
        dsimp only
        rw [Nat.zero_add]
        exact h2
  | some b =>
    refine ⟨?_, ?_, ?_⟩
    · show ((F.map (fun p : Ky × Wy => if p.1 = s.1 then (p.1, _) else p)).map (·.1)).Nodup
      rw [keys_put]
      exact hn
    · exact tot_put hn h
    · intro P h1 h2 h3 r hr
      have hr2 : r ∈ F.map (fun p : Ky × Wy => if p.1 = s.1 then (p.1, ((b.1 + w.1, b.2) : Wy)) else p) := hr
      obtain ⟨p, hp, e⟩ := List.mem_map.mp hr2
      by_cases c : p.1 = s.1
      · rw [if_pos c] at e
        subst e
        dsimp only
        rw [c]
        exact h3 _ _ _ _ (h1 _ (look_mem h))
      · rw [if_neg c] at e
        subst e
        exact h1 _ hp
theorem fold_spec {g : Ky → Nat} {w : Wy} (P : Ky → Wy → Prop) (h3 : ∀ k c d l, P k (c, l) → P k (c + d, l)) : ∀ {ss : List (Ky × Pr)} {F : Rw}, KN F → (∀ r ∈ F, P r.1 r.2) → (∀ s ∈ ss, P s.1 (w.1, w.2 ++ [s.2])) →
    KN (ss.foldl (addR w) F) ∧ tot g (ss.foldl (addR w) F) = tot g F + w.1 * (ss.map fun s => g s.1).sum ∧ ∀ r ∈ ss.foldl (addR w) F, P r.1 r.2
  | [], F, hn, h1, _ => ⟨hn, by simp, h1⟩
  | s :: ss, F, hn, h1, h2 => by
    obtain ⟨a1, a2, a3⟩ := add_spec (g := g) (w := w) (s := s) hn
    obtain ⟨b1, b2, b3⟩ := fold_spec (g := g) P h3 a1 (a3 P h1 (h2 s List.mem_cons_self) h3) (fun s' h => h2 s' (List.mem_cons_of_mem _ h))
    refine ⟨b1, ?_, b3⟩
    rw [List.foldl_cons, b2, a2, List.map_cons, List.sum_cons, Nat.mul_add]
    omega
theorem len_sum {α β : Type} (f : α → List β) : ∀ l : List α, (l.flatMap f).length = (l.map fun a => (f a).length).sum
  | [] => rfl
  | a :: l => by rw [List.flatMap_cons, List.length_append, List.map_cons, List.sum_cons, len_sum f l]
theorem paths_len (L m : Nat) (k : Ky) : (paths L (m + 1) k).length = ((sAft k.1 k.2 L).map fun s => (paths L m s.1).length).sum := by
  show ((sAft k.1 k.2 L).flatMap _).length = _
  rw [len_sum]
  congr 1
  apply List.map_congr_left
  intro s _
  rw [List.length_map]
theorem cAft_spec {L m : Nat} (P Q : Ky → Wy → Prop) (h3 : ∀ k c d l, Q k (c, l) → Q k (c + d, l)) (hs : ∀ k w, P k w → ∀ s ∈ sAft k.1 k.2 L, Q s.1 (w.1, w.2 ++ [s.2])) : ∀ {xs F : Rw}, KN F → (∀ r ∈ xs, P r.1 r.2) → (∀ r ∈ F, Q r.1 r.2) →
    KN (xs.foldl (stepR L) F) ∧ tot (fun k => (paths L m k).length) (xs.foldl (stepR L) F) = tot (fun k => (paths L m k).length) F + tot (fun k => (paths L (m + 1) k).length) xs ∧ ∀ r ∈ xs.foldl (stepR L) F, Q r.1 r.2
  | [], F, hn, _, h2 => ⟨hn, by simp [tot], h2⟩
  | r :: xs, F, hn, h1, h2 => by
    obtain ⟨a1, a2, a3⟩ := fold_spec (g := fun k => (paths L m k).length) (w := r.2) Q h3 (ss := sAft r.1.1 r.1.2 L) hn h2 (hs _ _ (h1 r List.mem_cons_self))
    obtain ⟨b1, b2, b3⟩ := cAft_spec (m := m) P Q h3 hs (xs := xs) a1 (fun r' h => h1 r' (List.mem_cons_of_mem _ h)) a3
    refine ⟨b1, ?_, b3⟩
    rw [List.foldl_cons]
    show tot _ (xs.foldl (stepR L) ((sAft r.1.1 r.1.2 L).foldl (addR r.2) F)) = _
    rw [b2, a2, ← paths_len]
    have e : tot (fun k => (paths L (m + 1) k).length) (r :: xs) = r.2.1 * (paths L (m + 1) r.1).length + tot (fun k => (paths L (m + 1) k).length) xs := rfl
    rw [e]
    omega
theorem cAft_len (L B : Nat) : ∀ (xs F : Rw), (∀ r ∈ xs, r.1.2.length ≤ B) → (xs.foldl (stepR L) F).length ≤ F.length + xs.length * B
  | [], F, _ => by simp
  | r :: xs, F, h => by
    have h1 := cAft_len L B xs (stepR L F r) fun r' hr => h r' (List.mem_cons_of_mem _ hr)
    have h2 : (stepR L F r).length ≤ F.length + (sAft r.1.1 r.1.2 L).length := foldR_len _ _ _
    have h3 := sAft_len r.1.1 r.1.2 L
    have h4 := h r List.mem_cons_self
    rw [List.foldl_cons, List.length_cons, Nat.add_mul]
    omega
/-- what rows are after k turns -/
structure RowI (L n k : Nat) (k0 : Ky) (R : Rw) : Prop where
  kn : KN R
  all : ∀ r ∈ R, 0 < r.2.1 ∧ Way L k0 r.2.2 r.1 ∧ r.2.2.length = k
  tt : tot (fun q => (paths L (n - k) q).length) R = (paths L n k0).length
  len : R.length ≤ 8 ^ k
theorem row_zero (L n : Nat) (k0 : Ky) : RowI L n 0 k0 [(k0, (1, []))] where
  kn := by simp [KN]
  all := fun r hr => by
    rw [List.mem_singleton] at hr
    subst hr
    exact ⟨Nat.one_pos, .nil, rfl⟩
  tt := by simp [tot]
  len := by simp
theorem row_succ {L n k : Nat} {k0 : Ky} {R : Rw} {hs : List Nat} (hn : n ≤ 8) (g : GoodS L n k0.1 k0.2 hs) (hk : k < n) (h : RowI L n k k0 R) : RowI L n (k + 1) k0 (cAft L R) := by
  have e : n - k = n - (k + 1) + 1 := by omega
  obtain ⟨a1, a2, a3⟩ := cAft_spec (L := L) (m := n - (k + 1)) (fun q w => 0 < w.1 ∧ Way L k0 w.2 q ∧ w.2.length = k) (fun q w => 0 < w.1 ∧ Way L k0 w.2 q ∧ w.2.length = k + 1)
    (fun q c d l hh => ⟨by have := hh.1; dsimp only at *; omega, hh.2⟩) (fun q w hh s hm => ⟨hh.1, hh.2.1.snoc hm, by simp [hh.2.2]⟩) (xs := R) (F := []) (by simp [KN]) h.all (fun r hr => absurd hr List.not_mem_nil)
  refine ⟨a1, a3, ?_, ?_⟩
  · have ht := h.tt
    rw [e] at ht
    have a4 : tot (fun q => (paths L (n - (k + 1)) q).length) (cAft L R) = _ := a2
    rw [a4, ht]
    simp [tot]
  · have := cAft_len L 8 R [] fun r hr => by
      obtain ⟨m, e1, g1⟩ := way_good g (h.all r hr).2.1
      have := g1.ll
      omega
    have e2 : (cAft L R).length ≤ [].length + R.length * 8 := this
    have h4 := h.len
    rw [Nat.pow_succ]
    simp at e2
    omega
theorem row_iter {L n : Nat} {k0 : Ky} {hs : List Nat} (hn : n ≤ 8) (g : GoodS L n k0.1 k0.2 hs) : ∀ k, k ≤ n → RowI L n k k0 (iterR L k [(k0, (1, []))])
  | 0, _ => row_zero L n k0
  | k + 1, hk => row_succ hn g (by omega) (row_iter hn g k (by omega))
/-- sizes that the walk asks for -/
theorem row_sizes {L n k : Nat} {k0 : Ky} {R : Rw} {hs : List Nat} (hn : n ≤ 8) (g : GoodS L n k0.1 k0.2 hs) (hk : k < n) (h : RowI L n k k0 R) :
    (∀ r ∈ R, r.1.1.testBit 100 = false ∧ r.1.2.length ≤ 1000 ∧ r.2.2.length ≤ 1000) ∧ (R.map fun r => r.1.2.length).sum < 16777216 := by
  have hl : ∀ r ∈ R, r.1.2.length = n - k := fun r hr => by
    obtain ⟨m, e1, g1⟩ := way_good g (h.all r hr).2.1
    have := g1.ll
    have := (h.all r hr).2.2
    omega
  refine ⟨fun r hr => ?_, ?_⟩
  · obtain ⟨m, e1, g1⟩ := way_good g (h.all r hr).2.1
    have h1 := hl r hr
    have h2 := (h.all r hr).2.2
    exact ⟨tb100 g1, by omega, by omega⟩
  · have e : ∀ l : Rw, (∀ r ∈ l, r.1.2.length = n - k) → (l.map fun r => r.1.2.length).sum = l.length * (n - k) := fun l => by
      induction l with
      | nil => intro _; simp
      | cons r l ih =>
        intro hh
        rw [List.map_cons, List.sum_cons, hh r List.mem_cons_self, ih fun r' h' => hh r' (List.mem_cons_of_mem _ h'), List.length_cons, Nat.add_mul]
        omega
    rw [e R hl]
    have h1 : R.length * (n - k) ≤ 8 ^ k * (8 - k) := Nat.mul_le_mul h.len (by omega)
    have h2 : ∀ k, k < 8 → 8 ^ k * (8 - k) < 16777216 := by decide
    have := h2 k (by omega)
    omega
/-! ### what is told -/
def outD : Rw → D
  | [] => .tup [.int 0, .non]
  | r :: _ => wyD r.2
theorem out_spec {L n : Nat} {k0 : Ky} {hs : List Nat} (hn : n ≤ 8) (g : GoodS L n k0.1 k0.2 hs) : (paths L n k0 = [] ∧ outD (iterR L n [(k0, (1, []))]) = .tup [.int 0, .non]) ∨
    ∃ ps ∈ paths L n k0, outD (iterR L n [(k0, (1, []))]) = .tup [.int (paths L n k0).length, .tup (ps.map nD)] := by
  have h := row_iter hn g n (Nat.le_refl _)
  generalize iterR L n [(k0, (1, []))] = R at h
  have e0 : n - n = 0 := by omega
  have ht := h.tt
  rw [e0] at ht
  have hkey : ∀ r ∈ R, ∀ r' ∈ R, r.1 = r'.1 := fun r hr r' hr' => by
    have key : ∀ r ∈ R, r.1.2 = [] ∧ ∀ j, r.1.1.testBit j = decide (j < L) := fun r hr => by
      obtain ⟨m, e1, g1⟩ := way_good g (h.all r hr).2.1
      have hm : m = 0 := by
        have := (h.all r hr).2.2
        omega
      subst hm
      refine ⟨List.eq_nil_of_length_eq_zero g1.ll, fun j => ?_⟩
      rw [g1.bits]
      apply decide_eq_decide.mpr
      exact ⟨g1.lt j, fun z => full g1.nd g1.lt (by have := g1.len; omega) z⟩
    obtain ⟨a1, a2⟩ := key r hr
    obtain ⟨b1, b2⟩ := key r' hr'
    exact Prod.ext (Nat.eq_of_testBit_eq fun j => by rw [a2, b2]) (by rw [a1, b1])
  match R, h, ht, hkey with
  | [], h, ht, hkey =>
    left
    refine ⟨List.eq_nil_of_length_eq_zero ht.symm, rfl⟩
  | [r], h, ht, hkey =>
    right
    obtain ⟨h1, h2, h3⟩ := h.all r List.mem_cons_self
    have := way_paths h2 0 [] (by simp [paths])
    rw [h3, List.append_nil, Nat.add_zero] at this
    refine ⟨r.2.2, this, ?_⟩
    have hc : r.2.1 = (paths L n k0).length := by
      rw [← ht]
      simp [tot, paths]
    rw [← hc]
    rfl
  | r :: r' :: R, h, ht, hkey =>
    exfalso
    have := h.kn
    unfold KN at this
    rw [List.map_cons, List.map_cons, List.nodup_cons] at this
    exact this.1 (by rw [hkey r (by simp) r' (by simp)]; simp)
end KP
set_option maxHeartbeats 1000000
namespace KP
open PySem PySem.Spec PyProof.Rows L2 DL
/-! ### fillings, by the law's search -/
def ltK (p q : Pr) : Prop := p.2 - p.1 < q.2 - q.1 ∨ (p.2 - p.1 = q.2 - q.1 ∧ p.1 < q.1)
structure FilOf (L : Nat) (hs ds : List Nat) (v : List Pr) : Prop where
  ds : dsP v = ds
  up : ∀ p ∈ v, p.1 ≤ p.2
  nd : (plc v).Nodup
  lt : ∀ x ∈ plc v, x < L
  ho : ∀ x ∈ plc v, x ∉ hs
  asc : v.Pairwise ltK
theorem mem_tkn {hs : List Nat} {x : Nat} : ∀ {v : List Pr}, x ∈ tkn hs v ↔ x ∈ hs ∨ x ∈ plc v
  | [] => by simp [tkn, plc]
  | p :: v => by
    rw [tkn, List.mem_append, mem_tkn (v := v), plc_cons]
    simp
    constructor
    · rintro ((a | a) | a | a) <;> simp [a]
    · rintro (a | a | a | a) <;> simp [a]
theorem dueB_iff {hs ds : List Nat} {d f : Nat} {v : List Pr} : dueB hs d ds v f = true ↔ f ∉ tkn hs v ∧ f + d ∉ tkn hs v ∧ (v = [] ∨ ds = [] ∨ ds.head? ≠ some d ∨ ∃ p v', v = p :: v' ∧ f < p.1) := by
  unfold dueB
  cases v with
  | nil => simp
  | cons p v =>
    simp
    constructor
    · rintro ⟨⟨a, b⟩, c⟩
      exact ⟨a, b, by rcases c with (c | c) | c <;> simp [c]⟩
    · rintro ⟨a, b, c⟩
      exact ⟨⟨a, b⟩, by rcases c with c | c | c <;> simp [c]⟩
theorem mem_oa_cons {L : Nat} {hs ds : List Nat} {d : Nat} {w : List Pr} : w ∈ oa L hs (d :: ds) ↔ ∃ v ∈ oa L hs ds, ∃ f, f < L - d ∧ dueB hs d ds v f = true ∧ w = (f, f + d) :: v := by
  show w ∈ ((oa L hs ds).flatMap fun v => (List.range (L - d)).filterMap (oOne hs d ds v)) ↔ _
  rw [List.mem_flatMap]
  constructor
  · rintro ⟨v, h1, h2⟩
    obtain ⟨f, h3, h4⟩ := List.mem_filterMap.mp h2
    unfold oOne at h4
    split at h4
    · rename_i c
      exact ⟨v, h1, f, List.mem_range.mp h3, c, (Option.some.inj h4).symm⟩
    · cases h4
  · rintro ⟨v, h1, f, h2, h3, h4⟩
    refine ⟨v, h1, List.mem_filterMap.mpr ⟨f, List.mem_range.mpr h2, ?_⟩⟩
    unfold oOne
    rw [if_pos h3, h4]
theorem oa_iff {L : Nat} {hs : List Nat} : ∀ {ds : List Nat}, (∀ d ∈ ds, 0 < d) → ds.Pairwise (· ≤ ·) → ∀ {w : List Pr}, w ∈ oa L hs ds ↔ FilOf L hs ds w
  | [], _, _, w => by
    show w ∈ [[]] ↔ _
    rw [List.mem_singleton]
    constructor
    · rintro rfl
      exact ⟨rfl, fun x hx => absurd hx List.not_mem_nil, List.nodup_nil, fun x hx => absurd hx List.not_mem_nil, fun x hx => absurd hx List.not_mem_nil, List.Pairwise.nil⟩
    · intro h
      have := h.ds
      unfold dsP at this
      exact List.map_eq_nil_iff.mp this
  | d :: ds, h0, hp, w => by
    have d0 := h0 d List.mem_cons_self
    have h0' : ∀ d ∈ ds, 0 < d := fun x hx => h0 x (List.mem_cons_of_mem _ hx)
    obtain ⟨hp1, hp2⟩ := List.pairwise_cons.mp hp
    rw [mem_oa_cons]
    constructor
    · rintro ⟨v, h1, f, h2, h3, rfl⟩
      have ih := (oa_iff h0' hp2).mp h1
      obtain ⟨k1, k2, k3⟩ := dueB_iff.mp h3
      have n1 : f ∉ plc v := fun z => k1 (mem_tkn.mpr (.inr z))
      have n2 : f + d ∉ plc v := fun z => k2 (mem_tkn.mpr (.inr z))
      have o1 : f ∉ hs := fun z => k1 (mem_tkn.mpr (.inl z))
      have o2 : f + d ∉ hs := fun z => k2 (mem_tkn.mpr (.inl z))
      refine ⟨?_, ?_, ?_, ?_, ?_, ?_⟩
      · show (f + d - f) :: dsP v = _
        rw [ih.ds, Nat.add_sub_cancel_left]
      · intro p hp
        rcases List.mem_cons.mp hp with e | e
        · rw [e]
          exact Nat.le_add_right _ _
        · exact ih.up p e
      · rw [plc_cons, List.nodup_cons, List.nodup_cons]
        refine ⟨?_, n2, ih.nd⟩
        intro z
        rcases List.mem_cons.mp z with e | e
        · dsimp only at e
          omega
        · exact n1 e
      · intro x hx
        rw [plc_cons] at hx
        simp only [List.mem_cons] at hx
        rcases hx with e | e | e
        · omega
        · omega
        · exact ih.lt x e
      · intro x hx
        rw [plc_cons] at hx
        simp only [List.mem_cons] at hx
        rcases hx with e | e | e
        · rw [e]; exact o1
        · rw [e]; exact o2
        · exact ih.ho x e
      · rw [List.pairwise_cons]
        refine ⟨fun q hq => ?_, ih.asc⟩
        have hqd : q.2 - q.1 ∈ ds := by
          rw [← ih.ds]
          exact List.mem_map.mpr ⟨q, hq, rfl⟩
        have hle := hp1 _ hqd
        unfold ltK
        dsimp only
        rw [Nat.add_sub_cancel_left]
        rcases Nat.lt_or_ge d (q.2 - q.1) with c | c
        · exact .inl c
        · right
          have e : d = q.2 - q.1 := by omega
          refine ⟨e, ?_⟩
          rcases k3 with z | z | z | ⟨p, v', z, z2⟩
          · rw [z] at hq
            cases hq
          · rw [z] at hqd
            cases hqd
          · exfalso
            apply z
            cases ds with
            | nil => cases hqd
            | cons x r =>
              have h1 := hp1 x List.mem_cons_self
              have h2 : x ≤ q.2 - q.1 := by
                rcases List.mem_cons.mp hqd with y | y
                · rw [y]; exact Nat.le_refl _
                · exact (List.pairwise_cons.mp hp2).1 _ y
              have : x = d := by omega
              rw [this]
              rfl
          · rw [z] at hq
            rcases List.mem_cons.mp hq with y | y
            · rw [y]; exact z2
            · have h5 := ih.asc
              have h6 := ih.ds
              rw [z] at h5 h6
              have h7 := (List.pairwise_cons.mp h5).1 q y
              have h8 : p.2 - p.1 ∈ ds := by rw [← h6]; exact List.mem_map.mpr ⟨p, List.mem_cons_self, rfl⟩
              have h9 := hp1 _ h8
              rcases h7 with h7 | h7
              · omega
              · omega
    · intro h
      cases w with
      | nil =>
        have := h.ds
        cases this
      | cons p v =>
        have hd : p.2 - p.1 = d ∧ dsP v = ds := List.cons_eq_cons.mp h.ds
        have hu := h.up p List.mem_cons_self
        have e2 : p.2 = p.1 + d := by omega
        have ep : p = (p.1, p.1 + d) := by
          rw [← e2]
        have nd := h.nd
        rw [plc_cons, List.nodup_cons, List.nodup_cons] at nd
        obtain ⟨a1, a2, a3⟩ := nd
        have lt2 := h.lt p.2 (by rw [plc_cons]; simp)
        have f : FilOf L hs ds v := ⟨hd.2, fun q hq => h.up q (List.mem_cons_of_mem _ hq), a3, fun x hx => h.lt x (by rw [plc_cons]; simp [hx]), fun x hx => h.ho x (by rw [plc_cons]; simp [hx]), (List.pairwise_cons.mp h.asc).2⟩
        refine ⟨v, (oa_iff h0' hp2).mpr f, p.1, by omega, dueB_iff.mpr ⟨?_, ?_, ?_⟩, by rw [← ep]⟩
        · rw [mem_tkn]
          rintro (z | z)
          · exact h.ho p.1 (by rw [plc_cons]; simp) z
          · exact a1 (List.mem_cons_of_mem _ z)
        · rw [mem_tkn, ← e2]
          rintro (z | z)
          · exact h.ho p.2 (by rw [plc_cons]; simp) z
          · exact a2 z
        · cases v with
          | nil => exact .inl rfl
          | cons q v' =>
            by_cases c : ds.head? = some d
            · right; right; right
              refine ⟨q, v', rfl, ?_⟩
              have h1 := (List.pairwise_cons.mp h.asc).1 q List.mem_cons_self
              have h2 := hd.2
              rw [← h2] at c
              have h3 : q.2 - q.1 = d := Option.some.inj c
              rcases h1 with h1 | h1
              · omega
              · exact h1.2
            · exact .inr (.inr (.inl c))
/-! ### sorting between the two -/
def leKN (p q : Pr) : Bool := decide (p.2 - p.1 < q.2 - q.1 ∨ (p.2 - p.1 = q.2 - q.1 ∧ p.1 ≤ q.1))
def sortN (ps : List Pr) : List Pr := ps.mergeSort leKN
def leF (p q : Pr) : Bool := decide (p.1 ≤ q.1)
def sortF (ps : List Pr) : List Pr := ps.mergeSort leF
theorem leKN_tr (a b c : Pr) : leKN a b = true → leKN b c = true → leKN a c = true := by
  unfold leKN
  simp only [decide_eq_true_eq]
  omega
theorem leKN_to (a b : Pr) : (leKN a b || leKN b a) = true := by
  unfold leKN
  simp only [Bool.or_eq_true, decide_eq_true_eq]
  omega
theorem leF_tr (a b c : Pr) : leF a b = true → leF b c = true → leF a c = true := by
  unfold leF
  simp only [decide_eq_true_eq]
  omega
theorem leF_to (a b : Pr) : (leF a b || leF b a) = true := by
  unfold leF
  simp only [Bool.or_eq_true, decide_eq_true_eq]
  omega
theorem plc_perm {v w : List Pr} (h : v.Perm w) : (plc v).Perm (plc w) := List.Perm.flatMap_right _ h
theorem dsP_perm {v w : List Pr} (h : v.Perm w) : (dsP v).Perm (dsP w) := List.Perm.map _ h
theorem firsts_ne : ∀ {v : List Pr}, (plc v).Nodup → v.Pairwise (fun p q => p.1 ≠ q.1)
  | [], _ => List.Pairwise.nil
  | p :: v, h => by
    rw [plc_cons, List.nodup_cons, List.nodup_cons] at h
    rw [List.pairwise_cons]
    refine ⟨fun q hq e => h.1 (List.mem_cons_of_mem _ (mem_plc.mpr ⟨q, hq, .inl e⟩)), firsts_ne h.2.2⟩
theorem path_fil {L : Nat} {hs ds : List Nat} {w : List Pr} (hd : ds.Pairwise (· ≤ ·)) (h : PathOf L ds hs w) : FilOf L hs ds (sortN w) := by
  have hp : (sortN w).Perm w := List.mergeSort_perm _ _
  have nd := h.nd
  rw [List.nodup_append] at nd
  have ps : (sortN w).Pairwise fun a b => leKN a b = true := List.pairwise_mergeSort leKN_tr leKN_to w
  have nds : (plc (sortN w)).Nodup := (plc_perm hp).nodup_iff.mpr nd.2.1
  refine ⟨?_, ?_, nds, ?_, ?_, ?_⟩
  · refine List.Perm.eq_of_pairwise (le := (· ≤ ·)) (fun a b _ _ h1 h2 => Nat.le_antisymm h1 h2) ?_ hd ((dsP_perm hp).trans h.ds)
    unfold dsP
    rw [List.pairwise_map]
    refine ps.imp fun {a b} hh => ?_
    unfold leKN at hh
    rw [decide_eq_true_eq] at hh
    omega
  · exact fun p hpm => Nat.le_of_lt (h.up p (hp.subset hpm))
  · exact fun x hx => h.lt x ((plc_perm hp).subset hx)
  · exact fun x hx z => nd.2.2 _ z _ ((plc_perm hp).subset hx) rfl
  · refine List.Pairwise.imp (fun {a b} hh => ?_) (ps.and (firsts_ne nds))
    have h1 := hh.1
    unfold leKN at h1
    rw [decide_eq_true_eq] at h1
    unfold ltK
    have h2 := hh.2
    omega
theorem fil_path {L : Nat} {hs ds : List Nat} {v : List Pr} (h0 : ∀ d ∈ ds, 0 < d) (hn : hs.Nodup) (h : FilOf L hs ds v) : PathOf L ds hs (sortF v) := by
  have hp : (sortF v).Perm v := List.mergeSort_perm _ _
  have nds : (plc (sortF v)).Nodup := (plc_perm hp).nodup_iff.mpr h.nd
  have ps : (sortF v).Pairwise fun a b => leF a b = true := List.pairwise_mergeSort leF_tr leF_to v
  refine ⟨?_, ?_, ?_, ?_, ?_⟩
  · have := dsP_perm hp
    rw [h.ds] at this
    exact this
  · rw [List.nodup_append]
    refine ⟨hn, nds, fun a ha b hb e => ?_⟩
    subst e
    exact h.ho a ((plc_perm hp).subset hb) ha
  · exact fun x hx => h.lt x ((plc_perm hp).subset hx)
  · refine List.Pairwise.imp (fun {a b} hh => ?_) (ps.and (firsts_ne nds))
    have h1 := hh.1
    unfold leF at h1
    rw [decide_eq_true_eq] at h1
    have h2 := hh.2
    omega
  · intro p hpm
    have hm := hp.subset hpm
    have h1 := h.up p hm
    have h2 : p.2 - p.1 ∈ ds := by rw [← h.ds]; exact List.mem_map.mpr ⟨p, hm, rfl⟩
    have := h0 _ h2
    omega
theorem some_iff {L n : Nat} {hs ds : List Nat} (g : GoodS L n (tkb hs) ds hs) : paths L n (tkb hs, ds) = [] ↔ oa L hs ds = [] := by
  constructor
  · intro h
    apply List.eq_nil_iff_forall_not_mem.mpr
    intro v hv
    have := (paths_iff g).mpr (fil_path g.pos g.nd ((oa_iff g.pos g.asc).mp hv))
    rw [h] at this
    cases this
  · intro h
    apply List.eq_nil_iff_forall_not_mem.mpr
    intro v hv
    have := (oa_iff g.pos g.asc).mpr (path_fil g.asc ((paths_iff g).mp hv))
    rw [h] at this
    cases this
end KP
set_option maxHeartbeats 1000000
namespace KP
open PySem PySem.Spec PyProof.Rows L2 DL
abbrev PI := Int × Int
def plcI (ps : List PI) : List Int := ps.flatMap fun p => [p.1, p.2]
def dfI (ps : List PI) : List Int := ps.map fun p => p.2 - p.1
theorem plcI_cons (p : PI) (v : List PI) : plcI (p :: v) = p.1 :: p.2 :: plcI v := rfl
theorem plcI_app (v w : List PI) : plcI (v ++ w) = plcI v ++ plcI w := by
  unfold plcI
  rw [List.flatMap_append]
theorem plcI_len : ∀ v : List PI, (plcI v).length = 2 * v.length
  | [] => rfl
  | p :: v => by
    rw [plcI_cons, List.length_cons, List.length_cons, List.length_cons, plcI_len v]
    omega
theorem mem_plcI {x : Int} {v : List PI} : x ∈ plcI v ↔ ∃ p ∈ v, x = p.1 ∨ x = p.2 := by
  unfold plcI
  rw [List.mem_flatMap]
  simp
/-! ### as many as there are -/
theorem foldDst : ∀ (ns acc : List Int), (ns.foldl step_dedup acc).length ≤ acc.length + ns.length ∧ ((ns.foldl step_dedup acc).length = acc.length + ns.length ↔ ns.Nodup ∧ ∀ x ∈ ns, x ∉ acc)
  | [], acc => by simp
  | x :: ns, acc => by
    rw [List.foldl_cons]
    obtain ⟨h1, h2⟩ := foldDst ns (step_dedup acc x)
    by_cases c : x ∈ acc
    · have e : step_dedup acc x = acc := by
        unfold step_dedup
        rw [if_pos]
        rw [List.any_eq_true]
        exact ⟨x, c, by simp⟩
      rw [e] at h1 ⊢
      rw [List.length_cons]
      refine ⟨by omega, ⟨fun z => by omega, fun z => absurd c (z.2 x List.mem_cons_self)⟩⟩
    · have e : step_dedup acc x = acc ++ [x] := by
        unfold step_dedup
        rw [if_neg]
        rw [List.any_eq_true]
        rintro ⟨y, h3, h4⟩
        have : y = x := by simpa using h4
        exact c (this ▸ h3)
      rw [e] at h1 h2 ⊢
      rw [List.length_append, List.length_singleton] at h1 h2
      rw [List.length_cons]
      refine ⟨by omega, ?_⟩
      rw [show acc.length + (ns.length + 1) = acc.length + 1 + ns.length by omega, h2, List.nodup_cons]
      constructor
      · rintro ⟨a, b⟩
        refine ⟨⟨fun z => b x z (by simp), a⟩, fun y hy z => ?_⟩
        rcases List.mem_cons.mp hy with q | q
        · exact c (q ▸ z)
        · exact b y q (List.mem_append_left _ z)
      · rintro ⟨⟨a, b⟩, d⟩
        refine ⟨b, fun y hy z => ?_⟩
        rcases List.mem_append.mp z with q | q
        · exact d y (List.mem_cons_of_mem _ hy) q
        · rw [List.mem_singleton] at q
          exact a (q ▸ hy)
theorem dst_iff (ns : List Int) : dst ns = ns.length ↔ ns.Nodup := by
  have e : dst ns = (ns.foldl step_dedup []).length := by
    unfold dst firstMet
    have e2 : (List.range ns.length).map (fun i => ns.getD i 0) = ns := by
      apply List.ext_getElem
      · simp
      · intro i h1 h2
        simp at h1
        simp [h1]
    rw [e2]
  rw [e]
  have := (foldDst ns []).2
  rw [List.length_nil, Nat.zero_add] at this
  rw [this]
  simp
/-! ### pairs at distances -/
structure PairsOk (ds : List Int) (ps : List PI) : Prop where
  df : dfI ps = ds
  bd : ∀ p ∈ ps, 0 ≤ p.1 ∧ p.1 ≤ 100 ∧ 0 ≤ p.2 ∧ p.2 ≤ 100
  nd : (plcI ps).Nodup
  so : sortK ps = ps
/-- neighbours at the same distance ascend -/
def chI (ps : List PI) : Prop := ∀ i p q, ps[i]? = some p → ps[i + 1]? = some q → p.2 - p.1 = q.2 - q.1 → p.1 < q.1
structure DueP (ds : List Int) (ps : List PI) : Prop where
  df : dfI ps = ds
  ge : ∀ p ∈ ps, 0 ≤ p.1 ∧ 0 ≤ p.2
  ch : chI ps
  nd : (plcI ps).Nodup
  mx : ∀ m ∈ plcI ps, m + 1 - 2 * (ds.length : Int) ≤ 8
structure DsI (ds : List Int) : Prop where
  ne : ds ≠ []
  le : ds.length ≤ 8
  bd : ∀ d ∈ ds, 1 ≤ d ∧ d ≤ 30
  asc : ds.Pairwise (· ≤ ·)
theorem chI_tail {p : PI} {ps : List PI} (h : chI (p :: ps)) : chI ps := fun i a b h1 h2 => h (i + 1) a b (by rwa [List.getElem?_cons_succ]) (by rwa [List.getElem?_cons_succ])
theorem leKey_tr (a b c : PI) : leKey a b = true → leKey b c = true → leKey a c = true := by
  unfold leKey
  simp only [decide_eq_true_eq]
  omega
theorem leKey_to (a b : PI) : (leKey a b || leKey b a) = true := by
  unfold leKey
  simp only [Bool.or_eq_true, decide_eq_true_eq]
  omega
theorem pw_ch : ∀ {ps : List PI}, (dfI ps).Pairwise (· ≤ ·) → chI ps → ps.Pairwise fun a b => leKey a b = true
  | [], _, _ => List.Pairwise.nil
  | [p], _, _ => List.pairwise_singleton ..
  | p :: q :: r, h1, h2 => by
    have h1b : (p.2 - p.1) ≤ (q.2 - q.1) := (List.pairwise_cons.mp h1).1 _ List.mem_cons_self
    have ih := pw_ch (List.pairwise_cons.mp h1).2 (chI_tail h2)
    have hpq : leKey p q = true := by
      unfold leKey
      rw [decide_eq_true_eq]
      by_cases c : p.2 - p.1 = q.2 - q.1
      · exact .inr ⟨c, Int.le_of_lt (h2 0 p q rfl rfl c)⟩
      · left
        omega
    rw [List.pairwise_cons]
    refine ⟨fun x hx => ?_, ih⟩
    rcases List.mem_cons.mp hx with e | e
    · rw [e]; exact hpq
    · exact leKey_tr _ _ _ hpq ((List.pairwise_cons.mp ih).1 x e)
theorem so_iff {ps : List PI} : sortK ps = ps ↔ ps.Pairwise fun a b => leKey a b = true := by
  constructor
  · intro h
    rw [← h]
    exact List.pairwise_mergeSort leKey_tr leKey_to ps
  · exact List.mergeSort_of_pairwise
theorem firsts_neI : ∀ {v : List PI}, (plcI v).Nodup → v.Pairwise (fun p q => p.1 ≠ q.1)
  | [], _ => List.Pairwise.nil
  | p :: v, h => by
    rw [plcI_cons, List.nodup_cons, List.nodup_cons] at h
    rw [List.pairwise_cons]
    refine ⟨fun q hq e => h.1 (List.mem_cons_of_mem _ (mem_plcI.mpr ⟨q, hq, .inl e⟩)), firsts_neI h.2.2⟩
theorem pw_at {α : Type} {R : α → α → Prop} {l : List α} {i : Nat} {a b : α} (h : l.Pairwise R) (h1 : l[i]? = some a) (h2 : l[i + 1]? = some b) : R a b := by
  obtain ⟨k1, e1⟩ := List.getElem?_eq_some_iff.mp h1
  obtain ⟨k2, e2⟩ := List.getElem?_eq_some_iff.mp h2
  have := List.pairwise_iff_getElem.mp h i (i + 1) k1 k2 (by omega)
  rwa [e1, e2] at this
theorem due_iff {ds : List Int} {ps : List PI} (hd : DsI ds) : DueP ds ps ↔ PairsOk ds ps ∧ ∀ p ∈ ps, p.2 + 1 - 2 * (ds.length : Int) ≤ 8 := by
  have hl := hd.le
  constructor
  · intro h
    have hup : ∀ p ∈ ps, 0 ≤ p.1 ∧ p.1 ≤ 100 ∧ 0 ≤ p.2 ∧ p.2 ≤ 100 := fun p hp => by
      have h1 := h.ge p hp
      have h2 := h.mx p.1 (mem_plcI.mpr ⟨p, hp, .inl rfl⟩)
      have h3 := h.mx p.2 (mem_plcI.mpr ⟨p, hp, .inr rfl⟩)
      omega
    exact ⟨⟨h.df, hup, h.nd, so_iff.mpr (pw_ch (by rw [h.df]; exact hd.asc) h.ch)⟩, fun p hp => h.mx p.2 (mem_plcI.mpr ⟨p, hp, .inr rfl⟩)⟩
  · rintro ⟨h, hm⟩
    refine ⟨h.df, fun p hp => ⟨(h.bd p hp).1, (h.bd p hp).2.2.1⟩, ?_, h.nd, ?_⟩
    · intro i p q h1 h2 e
      have k := pw_at ((so_iff.mp h.so).and (firsts_neI h.nd)) h1 h2
      have k1 := k.1
      unfold leKey at k1
      rw [decide_eq_true_eq] at k1
      have k2 := k.2
      omega
    · intro m hm2
      obtain ⟨p, hp, e⟩ := mem_plcI.mp hm2
      have h1 := hm p hp
      have h2 : p.2 - p.1 ∈ ds := by rw [← h.df]; exact List.mem_map.mpr ⟨p, hp, rfl⟩
      have h3 := hd.bd _ h2
      omega
theorem chI_app {ps : List PI} {q : PI} (h : chI ps) (h2 : ∀ p, ps[ps.length - 1]? = some p → p.2 - p.1 = q.2 - q.1 → p.1 < q.1) : chI (ps ++ [q]) := fun i a b h3 h4 e => by
  obtain ⟨k, _⟩ := List.getElem?_eq_some_iff.mp h4
  rw [List.length_append, List.length_singleton] at k
  rw [List.getElem?_append_left (by omega)] at h3
  rcases Nat.lt_or_ge (i + 1) ps.length with c | c
  · rw [List.getElem?_append_left c] at h4
    exact h i a b h3 h4 e
  · have e2 : i + 1 = ps.length := by omega
    rw [List.getElem?_append_right c, e2, Nat.sub_self] at h4
    have e3 : q = b := Option.some.inj h4
    subst e3
    exact h2 a (by rw [← e2, Nat.add_sub_cancel]; exact h3) e
end KP
set_option maxHeartbeats 1000000
namespace KP
open PySem PySem.Spec PyProof.Rows L2 DL
/-! ### each once -/
theorem sAft_ne {t L : Nat} {left : List Nat} (ha : left.Pairwise (· ≤ ·)) : (sAft t left L).Pairwise fun s s' => s.2 ≠ s'.2 := by
  unfold sAft
  rw [List.pairwise_filterMap, List.pairwise_iff_getElem]
  intro i j hi hj hij s hs s' hs' e
  rw [List.getElem_zipIdx, Nat.zero_add] at hs hs'
  rw [List.length_zipIdx] at hi hj
  unfold sOne at hs hs'
  split at hs
  · split at hs'
    · rename_i c1 c2
      have e1 := Option.some.inj hs
      have e2 := Option.some.inj hs'
      rw [← e1, ← e2] at e
      have e3 : lf t + left[i] = lf t + left[j] := congrArg Prod.snd e
      have e4 : left[i] = left[j] := by omega
      rcases c2.1 with z | z
      · dsimp only at z
        omega
      · dsimp only at z
        apply z
        rw [List.getElem?_eq_getElem (by omega)]
        congr 1
        have p1 : left[j - 1] ≤ left[j] := List.pairwise_iff_getElem.mp ha (j - 1) j (by omega) hj (by omega)
        have p2 : left[i] ≤ left[j - 1] := by
          rcases (by omega : i = j - 1 ∨ i < j - 1) with c | c
          · subst c
            exact Nat.le_refl _
          · exact List.pairwise_iff_getElem.mp ha i (j - 1) hi (by omega) c
        omega
    · cases hs'
  · cases hs
theorem paths_nodup : ∀ {L m t : Nat} {left T : List Nat}, GoodS L m t left T → (paths L m (t, left)).Nodup
  | L, 0, t, left, T, g => by
    show ([[]] : List (List Pr)).Nodup
    simp
  | L, m + 1, t, left, T, g => by
    show ((sAft t left L).flatMap fun s => (paths L m s.1).map (s.2 :: ·)).Nodup
    unfold List.Nodup
    rw [List.pairwise_flatMap]
    refine ⟨fun s hs => ?_, (sAft_ne g.asc).imp fun {s s'} hne x hx y hy e => ?_⟩
    · obtain ⟨m', e, g', _⟩ := good_step g hs
      have em : m = m' := by omega
      subst em
      rw [List.pairwise_map]
      exact List.Pairwise.imp (fun {a b} h z => h (List.cons.inj z).2) (paths_nodup g')
    · obtain ⟨a, _, rfl⟩ := List.mem_map.mp hx
      obtain ⟨b, _, e2⟩ := List.mem_map.mp hy
      rw [← e2] at e
      exact hne (List.cons.inj e).1
theorem oa_nodup (L : Nat) (hs : List Nat) : ∀ ds : List Nat, (oa L hs ds).Nodup
  | [] => by simp [oa]
  | d :: ds => by
    show ((oa L hs ds).flatMap fun v => (List.range (L - d)).filterMap (oOne hs d ds v)).Nodup
    unfold List.Nodup
    rw [List.pairwise_flatMap]
    refine ⟨fun v hv => ?_, (oa_nodup L hs ds).imp fun {v v'} hne x hx y hy e => ?_⟩
    · rw [List.pairwise_filterMap]
      refine List.Pairwise.imp (fun {a b} h s hs s' hs' e => ?_) List.nodup_range
      unfold oOne at hs hs'
      split at hs
      · split at hs'
        · have e1 := Option.some.inj hs
          have e2 := Option.some.inj hs'
          rw [← e1, ← e2] at e
          exact h (congrArg Prod.fst (List.cons.inj e).1)
        · cases hs'
      · cases hs
    · obtain ⟨a, _, h1⟩ := List.mem_filterMap.mp hx
      obtain ⟨b, _, h2⟩ := List.mem_filterMap.mp hy
      unfold oOne at h1 h2
      split at h1
      · split at h2
        · have e1 := Option.some.inj h1
          have e2 := Option.some.inj h2
          rw [← e1, ← e2] at e
          exact hne (List.cons.inj e).2
        · cases h2
      · cases h1
theorem sortN_perm (w : List Pr) : (sortN w).Perm w := List.mergeSort_perm _ _
theorem sortF_perm (w : List Pr) : (sortF w).Perm w := List.mergeSort_perm _ _
theorem fil_sorted {L : Nat} {hs ds : List Nat} {v : List Pr} (h : FilOf L hs ds v) : v.Pairwise fun a b => leKN a b = true := h.asc.imp fun {a b} hh => by
  unfold leKN
  rw [decide_eq_true_eq]
  unfold ltK at hh
  omega
theorem leKN_anti (a b : Pr) (h0 : a.1 ≤ a.2) (h00 : b.1 ≤ b.2) (h1 : leKN a b = true) (h2 : leKN b a = true) : a = b := by
  unfold leKN at h1 h2
  rw [decide_eq_true_eq] at h1 h2
  exact Prod.ext (by omega) (by omega)
theorem sortN_sorted {v : List Pr} (h : v.Pairwise fun a b => leKN a b = true) (hu : ∀ p ∈ v, p.1 ≤ p.2) {w : List Pr} (hp : w.Perm v) : sortN w = v := by
  refine List.Perm.eq_of_pairwise (le := fun a b => leKN a b = true) (fun a b ha hb h1 h2 => leKN_anti a b (hu a (hp.subset ((sortN_perm w).subset ha))) (hu b hb) h1 h2) (List.pairwise_mergeSort leKN_tr leKN_to w) h ((sortN_perm w).trans hp)
/-- as many fillings as paths -/
theorem count_eq {L n : Nat} {hs ds : List Nat} (g : GoodS L n (tkb hs) ds hs) : (paths L n (tkb hs, ds)).length = (oa L hs ds).length := by
  have hm : ∀ w, w ∈ paths L n (tkb hs, ds) ↔ PathOf L ds hs w := fun w => paths_iff g
  have ho : ∀ v, v ∈ oa L hs ds ↔ FilOf L hs ds v := fun v => oa_iff g.pos g.asc
  have hp : ((paths L n (tkb hs, ds)).map sortN).Perm (oa L hs ds) := by
    refine (List.perm_ext_iff_of_nodup ?_ (oa_nodup L hs ds)).mpr fun v => ?_
    · unfold List.Nodup
      rw [List.pairwise_map]
      refine List.Pairwise.imp_of_mem (fun {a b} ha hb hne e => hne ?_) (paths_nodup g)
      have pa := (hm a).mp ha
      have pb := (hm b).mp hb
      have hab : a.Perm b := (sortN_perm a).symm.trans (by rw [e]; exact sortN_perm b)
      exact List.Perm.eq_of_pairwise (le := fun p q : Pr => p.1 < q.1) (fun p q _ _ h1 h2 => absurd h1 (Nat.lt_asymm h2)) pa.asc pb.asc hab
    · rw [List.mem_map]
      constructor
      · rintro ⟨w, h1, rfl⟩
        exact (ho _).mpr (path_fil g.asc ((hm w).mp h1))
      · intro h
        have hf := (ho v).mp h
        exact ⟨sortF v, (hm _).mpr (fil_path g.pos g.nd hf), sortN_sorted (fil_sorted hf) hf.up (sortF_perm v)⟩
  have := hp.length_eq
  rw [List.length_map] at this
  exact this
/-! ### pairs of numbers from 0 on -/
def pI (p : Pr) : PI := ((p.1 : Int), (p.2 : Int))
theorem sortK_pI {ps : List Pr} (hu : ∀ p ∈ ps, p.1 ≤ p.2) : sortK (ps.map pI) = (sortN ps).map pI := by
  unfold sortK sortN
  refine (List.map_mergeSort fun a ha b hb => ?_).symm
  have h1 := hu a ha
  have h2 := hu b hb
  unfold leKN leKey pI
  apply decide_eq_decide.mpr
  dsimp only
  omega
theorem plcI_pI : ∀ ps : List Pr, plcI (ps.map pI) = (plc ps).map fun n : Nat => (n : Int)
  | [] => rfl
  | p :: ps => by
    rw [List.map_cons, plcI_cons, plcI_pI ps, plc_cons]
    rfl
theorem cast_nodup {l : List Nat} : (l.map fun n : Nat => (n : Int)).Nodup ↔ l.Nodup := by
  unfold List.Nodup
  rw [List.pairwise_map]
  constructor
  · exact fun h => h.imp fun {a b} z e => z (by rw [e])
  · exact fun h => h.imp fun {a b} z e => z (Int.ofNat.inj e)
theorem pI_of : ∀ {ps : List PI}, (∀ p ∈ ps, 0 ≤ p.1 ∧ 0 ≤ p.2) → ∃ w : List Pr, ps = w.map pI
  | [], _ => ⟨[], rfl⟩
  | p :: ps, h => by
    obtain ⟨w, e⟩ := pI_of fun q hq => h q (List.mem_cons_of_mem _ hq)
    have hp := h p List.mem_cons_self
    refine ⟨(p.1.toNat, p.2.toNat) :: w, ?_⟩
    rw [List.map_cons, e]
    congr 1
    exact Prod.ext (by show p.1 = ((p.1.toNat : Nat) : Int); omega) (by show p.2 = ((p.2.toNat : Nat) : Int); omega)
theorem dfI_pI : ∀ {w : List Pr} {ds : List Nat}, (∀ d ∈ ds, 0 < d) → (dfI (w.map pI) = ds.map (fun n : Nat => (n : Int)) ↔ dsP w = ds ∧ ∀ p ∈ w, p.1 < p.2)
  | [], [], _ => by simp [dfI, dsP]
  | [], d :: ds, _ => by simp [dfI, dsP]
  | p :: w, [], _ => by simp [dfI, dsP]
  | p :: w, d :: ds, h => by
    have ih := dfI_pI (w := w) (ds := ds) fun x hx => h x (List.mem_cons_of_mem _ hx)
    have h0 := h d List.mem_cons_self
    have e1 : dfI ((p :: w).map pI) = ((p.2 : Int) - (p.1 : Int)) :: dfI (w.map pI) := rfl
    have e2 : dsP (p :: w) = (p.2 - p.1) :: dsP w := rfl
    rw [e1, e2, List.map_cons, List.cons.injEq, List.cons.injEq, ih]
    constructor
    · rintro ⟨a, b, c⟩
      refine ⟨⟨by omega, b⟩, fun q hq => ?_⟩
      rcases List.mem_cons.mp hq with z | z
      · rw [z]; omega
      · exact c q z
    · rintro ⟨⟨a, b⟩, c⟩
      have := c p List.mem_cons_self
      exact ⟨by omega, b, fun q hq => c q (List.mem_cons_of_mem _ hq)⟩
/-- what is_filling asks, and what the law's search finds -/
theorem fil_pairs {L : Nat} {hs ds : List Nat} {w : List Pr} (h0 : ∀ d ∈ ds, 0 < d) (ha : ds.Pairwise (· ≤ ·)) (hn : hs.Nodup) (hl : ∀ x ∈ hs, x < L) (hL : L ≤ 100) (hlen : 2 * ds.length + hs.length = L) :
    (PairsOk (ds.map fun n : Nat => (n : Int)) (w.map pI) ∧ (plc w ++ hs).Perm (List.range L)) ↔ FilOf L hs ds w := by
  constructor
  · rintro ⟨h, hp⟩
    obtain ⟨d1, d2⟩ := (dfI_pI h0).mp h.df
    have nd : (plc w ++ hs).Nodup := hp.nodup_iff.mpr List.nodup_range
    rw [List.nodup_append] at nd
    refine ⟨d1, fun p hp => Nat.le_of_lt (d2 p hp), nd.1, fun x hx => List.mem_range.mp (hp.subset (List.mem_append_left _ hx)), fun x hx z => nd.2.2 x hx x z rfl, ?_⟩
    have h2 := so_iff.mp h.so
    rw [List.pairwise_map] at h2
    refine List.Pairwise.imp_of_mem (fun {a b} ham hbm hh => ?_) (h2.and (firsts_ne nd.1))
    have h3 := hh.1
    have h4 := hh.2
    have h5 := d2 a ham
    have h6 := d2 b hbm
    unfold leKey pI at h3
    rw [decide_eq_true_eq] at h3
    dsimp only at h3
    unfold ltK
    omega
  · intro h
    have hw := h.ds
    have d2 : ∀ p ∈ w, p.1 < p.2 := fun p hp => by
      have h1 := h.up p hp
      have h2 : p.2 - p.1 ∈ ds := by rw [← h.ds]; exact List.mem_map.mpr ⟨p, hp, rfl⟩
      have := h0 _ h2
      omega
    have nd : (plc w ++ hs).Nodup := by
      rw [List.nodup_append]
      exact ⟨h.nd, hn, fun a ha b hb e => h.ho a ha (e ▸ hb)⟩
    have hwl : w.length = ds.length := by rw [← h.ds]; simp [dsP]
    refine ⟨⟨(dfI_pI h0).mpr ⟨h.ds, d2⟩, fun p hp => ?_, by rw [plcI_pI]; exact cast_nodup.mpr h.nd, ?_⟩, ?_⟩
    · obtain ⟨q, hq, rfl⟩ := List.mem_map.mp hp
      have h1 := h.lt q.1 (mem_plc.mpr ⟨q, hq, .inl rfl⟩)
      have h2 := h.lt q.2 (mem_plc.mpr ⟨q, hq, .inr rfl⟩)
      unfold pI
      dsimp only
      omega
    · rw [so_iff, List.pairwise_map]
      refine List.Pairwise.imp_of_mem (fun {a b} ham hbm hh => ?_) h.asc
      have h5 := d2 a ham
      have h6 := d2 b hbm
      unfold leKey pI
      rw [decide_eq_true_eq]
      dsimp only
      unfold ltK at hh
      omega
    · have hlt : ∀ x ∈ plc w ++ hs, x < L := fun x hx => by
        rcases List.mem_append.mp hx with z | z
        · exact h.lt x z
        · exact hl x z
      refine (List.perm_ext_iff_of_nodup nd List.nodup_range).mpr fun x => ⟨fun hx => List.mem_range.mpr (hlt x hx), fun hx => full nd hlt (by rw [List.length_append, plc_len]; omega) (List.mem_range.mp hx)⟩
/-! ### sums -/
def freeL (L : Nat) (hs : List Nat) : List Nat := (List.range L).filter fun p => !decide (p ∈ hs)
theorem perm_sum {a b : List Nat} (h : a.Perm b) : a.sum = b.sum := by
  induction h with
  | nil => rfl
  | cons x _ ih => rw [List.sum_cons, List.sum_cons, ih]
  | swap x y l => rw [List.sum_cons, List.sum_cons, List.sum_cons, List.sum_cons]; omega
  | trans _ _ h1 h2 => rw [h1, h2]
theorem plc_sum : ∀ {w : List Pr}, (∀ p ∈ w, p.1 ≤ p.2) → (plc w).sum % 2 = (dsP w).sum % 2
  | [], _ => rfl
  | p :: w, h => by
    have ih := plc_sum fun q hq => h q (List.mem_cons_of_mem _ hq)
    have h1 := h p List.mem_cons_self
    have e : dsP (p :: w) = (p.2 - p.1) :: dsP w := rfl
    rw [plc_cons, e, List.sum_cons, List.sum_cons, List.sum_cons]
    omega
theorem fil_parity {L : Nat} {hs ds : List Nat} {w : List Pr} (h0 : ∀ d ∈ ds, 0 < d) (ha : ds.Pairwise (· ≤ ·)) (hn : hs.Nodup) (hl : ∀ x ∈ hs, x < L) (hL : L ≤ 100) (hlen : 2 * ds.length + hs.length = L) (h : FilOf L hs ds w) : (freeL L hs).sum % 2 = ds.sum % 2 := by
  have hp := ((fil_pairs h0 ha hn hl hL hlen).mpr h).2
  have hf : (freeL L hs).Perm (plc w) := by
    refine (List.perm_ext_iff_of_nodup (List.Pairwise.sublist List.filter_sublist List.nodup_range) h.nd).mpr fun x => ?_
    rw [List.mem_filter, Bool.not_eq_true', decide_eq_false_iff_not]
    constructor
    · rintro ⟨h1, h2⟩
      rcases List.mem_append.mp (hp.symm.subset h1) with z | z
      · exact z
      · exact absurd z h2
    · exact fun hx => ⟨hp.subset (List.mem_append_left _ hx), h.ho x hx⟩
  rw [perm_sum hf, plc_sum h.up, h.ds]
end KP
set_option maxHeartbeats 1000000
namespace K1
open PySem PySem.Spec PyProof.Rows L2 DL KP
def topS (i : Nat) : Stmt := PySem.Challenge.pw_pairrows_k01_whole_fillings.main.body.getD i (.Pass ⟨0, 0, 0, 0⟩)
local macro_rules | `(tactic| walk_at "dl") => `(tactic| simp only [dSeq, dRet, dDice, dSortI, dMaxI, dLstRg, dLstRg1, dDst, dfDictT, dDGetN, dDPutN, dDisp, dSortKey, dSort3, dAugA, dStar, dZipT, dnAt, gdTrip, w_all3, dPopAt, dAppend, otAt, dCallG, noOwn, gdPair, dAsg, dIfS, dVar, dC, dOp, dB, dChain, dAnd, dOr, dNot, dAndV, dOrV, dNotV, dCall, dNil, dCons, dFn, dIf, dTup, dLst, dDrop, dNext, dNeg, dSl, dNoPart, dPart, dRaise, dYes, dTupI, dLstI, dStrI, dRg1, dRg2, dEnumL, dEnumT, dRevL, dRevT, dLc, setsD, wipeD, dPar, dPar3, dOwn, dfRep, dfLst, dfList, dfDict, dParFF, dParFP, dParPF, dFor, dgTup, dgCons, dgName, dgNil, dAsgG, dgSetIx, olAt, odAt, ent, froz,
  List.map_cons, List.map_nil, List.getElem?_cons_zero, List.getElem?_cons_succ, List.set_cons_zero, List.set_cons_succ, List.replicate, List.length_cons, List.length_nil, List.cons_append, List.nil_append, Nat.reduceAdd, Nat.reduceSub, Nat.reduceLeDiff,
  w_aug, decide_true, decide_false, w_iteA, w_some, w_none, w_bl, w_bl2, w_int, w_lst, w_tup, w_eq, w_mulL, w_mulR, w_mod, w_div, Int.reduceLT, Int.reduceNeg, Int.reducePow, Int.reduceAdd, Int.reduceSub, Int.reduceMul, and_self, w_cons, w_set, w_lrange, w_lrange1, w_ltup, w_llst, w_par, w_par3, w_tupL, w_tupT, w_listL, w_listT, w_all1, w_all2, w_own0, w_ownP, w_g2T, w_addI, w_addL, w_addT, w_lenT, w_lenL, w_intI, w_intB, w_eqI, w_neI, w_eqB, w_neB, w_ixT, w_ixL, w_slL, w_slT, w_keyI, w_keyS, w_ex, w_two, w_three, if_true, if_false, Bool.false_eq_true, Bool.true_eq_false, Bool.not_true, Bool.not_false, eq_self, true_and, and_true])

section
variable {P : Program} {w : World} {K : PySem.W.Frag} {mg : MG} {base : Heap} {T : TT0}
abbrev s_is_in : Stmt := topS 4
abbrev N_is_in : List Str := ["value", "low", "high"]
theorem sc_is_in : FnScope N_is_in ["value", "low", "high"] (defScope s_is_in) := ⟨rfl, rfl, rfl, by decide +kernel, rfl, by decide +kernel, by decide +kernel⟩
theorem b_is_in (kV doc pm : Value) (an : Option Addr) (cdv ct : Value) (us : List Value) (hl : us.length = (["value", "low", "high"] : List Str).length) : bindArgs (PySem.W.fnOf "is_in" "is_in" (defArgs s_is_in) (defBody s_is_in) (defScope s_is_in) .none kV doc pm an cdv ct) ⟨us, []⟩ = pure ((["value", "low", "high"] : List Str).zip us) := match us, hl with | [_, _, _], _ => rfl
def isIn (lo hi : Int) : D → Bool
  | .int i => decide (lo ≤ i) && decide (i ≤ hi)
  | _ => false
def m_is_in : MT := mt3 fun v lo hi n Q _ => v.isv = true ∧ ∃ i j, lo = .int i ∧ hi = .int j ∧ Q (.bl (isIn i j v)) n
theorem ok_is_in {f : Addr} {fd : FuncData} (F : Fun K "is_in" "is_in" s_is_in f fd) (hm : mg "is_in" = some (.ref f)) (B : Bi mg)    : CalD P w K mg base T CX0 1 "is_in" s_is_in ["value", "low", "high"] m_is_in := by
  refine okD F hm sc_is_in ar3 (fun cdv A outer s G H n E ED hr => ⟨_, (pdss_one (pds_ret (pd_and (pd_callB cd_isi (by rfl) B.isinstance (by decide +kernel) (pda_cons (pdv 0) (pda_cons (pd_ty (t := "int") (by rfl) B.int (by decide +kernel)) pda_nil))) (pd_and (pd_not (pd_callB cd_isi (by rfl) B.isinstance (by decide +kernel) (pda_cons (pdv 0) (pda_cons (pd_ty (t := "bool") (by rfl) B.bool (by decide +kernel)) pda_nil)))) (pd_one (pd_chain od_le od_le (pdv 1) (pdv 0) (pdv 2))))))), fun ds Qd hl h => ?_⟩)
  obtain ⟨v, lo, hi, rfl, hv, i, j, rfl, rfl, hQ⟩ := h
  walk_at "dl"
  rw [w_isInt hv, w_isBl hv]
  walk_at "dl"
  cases v <;> simp_all [D.isInt, D.isBl, isIn, D.isv, g2I, bTrue]
  rename_i x
  by_cases h1 : i ≤ x
  · rw [if_pos h1]
    simpa [h1] using hQ
  · rw [if_neg h1]
    simpa [h1] using hQ
abbrev s_are_in : Stmt := topS 5
abbrev N_are_in : List Str := ["value", "least", "most", "low", "high", "part"]
theorem sc_are_in : FnScope N_are_in ["value", "least", "most", "low", "high"] (defScope s_are_in) := ⟨rfl, rfl, rfl, by decide +kernel, rfl, by decide +kernel, by decide +kernel⟩
theorem b_are_in (kV doc pm : Value) (an : Option Addr) (cdv ct : Value) (us : List Value) (hl : us.length = (["value", "least", "most", "low", "high"] : List Str).length) : bindArgs (PySem.W.fnOf "are_in" "are_in" (defArgs s_are_in) (defBody s_are_in) (defScope s_are_in) .none kV doc pm an cdv ct) ⟨us, []⟩ = pure ((["value", "least", "most", "low", "high"] : List Str).zip us) := match us, hl with | [_, _, _, _, _], _ => rfl
def areIn (l : Int) (m lo hi : Int) (v : List D) : Bool := decide (l ≤ v.length) && decide ((v.length : Int) ≤ m) && v.all (isIn lo hi)
def m_are_in : MT := mt5 fun v l m lo hi n Q _ => v.isv = true ∧ ∃ a b c d, l = .int a ∧ m = .int b ∧ lo = .int c ∧ hi = .int d ∧
  ((∀ xs, v ≠ .tup xs) → Q (.bl false) n) ∧ ∀ xs, v = .tup xs → (∀ x ∈ xs, x.isv = true) ∧ xs.length ≤ 16777216 ∧ Q (.bl (areIn a b c d xs)) n
theorem ok_are_in {f : Addr} {fd : FuncData} (F : Fun K "are_in" "are_in" s_are_in f fd) (hm : mg "are_in" = some (.ref f)) (B : Bi mg)  (C_is_in : CalD P w K mg base T CX0 1 "is_in" s_is_in ["value", "low", "high"] m_is_in)  : CalD P w K mg base T CX0 2 "are_in" s_are_in ["value", "least", "most", "low", "high"] m_are_in := by
  refine okD F hm sc_are_in ar5 (fun cdv A outer s G H n E ED hr => ⟨_, (pdss_one (pds_ret (pd_and (pd_callB cd_isi (by rfl) B.isinstance (by decide +kernel) (pda_cons (pdv 0) (pda_cons (pd_ty (t := "tuple") (by rfl) B.tuple (by decide +kernel)) pda_nil))) (pd_and (pd_chain od_le od_le (pdv 1) (pd_callB cd_len (by rfl) B.len (by decide +kernel) (pda_cons (pdv 0) pda_nil)) (pdv 2)) (pd_one (pd_callB (cd_all rfl) (by rfl) B.all (by decide +kernel) (pda_cons (pd_lc rfl sc_are_in.nd (pdi_tup (pdv 0)) (blkOk_by (own := [("part", 5)]) (N := N_are_in) (sc := defScope s_are_in) (by decide +kernel)) (fun _ _ _ _ _ => pg_name (i := 5) sc_are_in.nd rfl (by first | exact .inl rfl | exact .inr rfl)) (fun _ _ _ _ _ => pdts_nil) (fun _ _ _ _ _ => (pd_callZ C_is_in lk0 (hr.mono (by decide)) (by rfl) b_is_in (pda_cons (pdv 5) (pda_cons (pdv 3) (pda_cons (pdv 4) pda_nil)))))) pda_nil))))))), fun ds Qd hl h => ?_⟩)
  obtain ⟨v, l, m, lo, hi, rfl, hv, a, b, c, d, rfl, rfl, rfl, rfl, h1, h2⟩ := h
  walk_at "dl"
  rw [w_isTup hv]
  walk_at "dl"
  by_cases ht : ∃ xs, v = .tup xs
  · obtain ⟨xs, rfl⟩ := ht
    obtain ⟨hx, hz, hQ⟩ := h2 xs rfl
    rw [show D.isTup (.tup xs) = true from rfl, if_pos rfl]
    walk_at "dl"
    unfold areIn at hQ
    by_cases h3 : a ≤ (xs.length : Int)
    · rw [if_pos (decide_eq_true h3)]
      by_cases h4 : (xs.length : Int) ≤ b
      · rw [if_pos (decide_eq_true h4)]
        refine comp_spec (fun x => some (.bl (isIn c d x))) xs [] (fun x hxm => ⟨_, rfl, fun K hK => ?_⟩) (by simpa using hz) ?_
        · walk_at "dl"
          exact ⟨x, .int c, .int d, rfl, hx x hxm, c, d, rfl, rfl, fun _ => hK⟩
        · rw [fm_map, List.nil_append]
          have e : (xs.map fun x => D.bl (isIn c d x)) = (xs.map (isIn c d)).map .bl := by rw [List.map_map]; rfl
          rw [e, w_all, w_some]
          rw [decide_eq_true h3, decide_eq_true h4] at hQ
          simpa [List.all_map] using hQ
      · rw [if_neg (by simpa using h4)]
        rw [decide_eq_false h4] at hQ
        simpa using hQ
    · rw [if_neg (by simpa using h3)]
      rw [decide_eq_false h3] at hQ
      simpa using hQ
  · have e : v.isTup = false := by cases v <;> first | rfl | exact absurd ⟨_, rfl⟩ ht
    rw [e, if_neg Bool.false_ne_true]
    exact h1 fun xs e => ht ⟨xs, e⟩
abbrev s_demand : Stmt := topS 6
abbrev N_demand : List Str := ["is_good", "name"]
theorem sc_demand : FnScope N_demand ["is_good", "name"] (defScope s_demand) := ⟨rfl, rfl, rfl, by decide +kernel, rfl, by decide +kernel, by decide +kernel⟩
theorem b_demand (kV doc pm : Value) (an : Option Addr) (cdv ct : Value) (us : List Value) (hl : us.length = (["is_good", "name"] : List Str).length) : bindArgs (PySem.W.fnOf "demand" "demand" (defArgs s_demand) (defBody s_demand) (defScope s_demand) .none kV doc pm an cdv ct) ⟨us, []⟩ = pure ((["is_good", "name"] : List Str).zip us) := match us, hl with | [_, _], _ => rfl
def m_demand : MT := mt2 fun v x n Q E => ∃ b, v = .bl b ∧ (b = true → Q .non n) ∧ (b = false → E ("BadArgument", "name", x) n)
theorem ok_demand {f : Addr} {fd : FuncData} (F : Fun K "demand" "demand" s_demand f fd) (hm : mg "demand" = some (.ref f)) (B : Bi mg)   (R_BadArgument : RaiseC P w K mg base "BadArgument" "name")  : CalD P w K mg base T (L2.CX P w) 3 "demand" s_demand ["is_good", "name"] m_demand := by
  have hx {cdv : Value} {A : Around} {outer : List Env} {s : Shared} {H : Hp} {E : XK} : Passes (L2.CX P w) (cxOf (L2.CX P w) P w K mg base N_demand "demand" (defScope s_demand) f cdv A outer s H E) E := passes_call (takes_of rfl rfl rfl rfl) fun _ _ _ _ h => h
  refine okDX F hm sc_demand ar2 (fun cdv A outer s G H n E ED hr L => ⟨_, (pdss_one (pds_if (pdt_not (pdt_val (pdv 0))) (pdss_one (pds_raise R_BadArgument L rfl (takes_of rfl rfl rfl rfl) (hr.mono (by decide)) (by rfl) (pdv 1))) pdss_nil)), fun ds Qd hl h => ?_⟩)
  obtain ⟨v, x, rfl, b, rfl, h1, h2⟩ := h
  cases b
  · walk_at "dl"
    exact h2 rfl
  · walk_at "dl"
    exact h1 rfl
end
end K1
set_option maxHeartbeats 1000000
namespace K1
open PySem PySem.Spec PyProof.Rows L2 DL KP
local macro_rules | `(tactic| walk_at "dl") => `(tactic| simp only [dSeq, dRet, dDice, dSortI, dMaxI, dLstRg, dLstRg1, dDst, dfDictT, dDGetN, dDPutN, dDisp, dSortKey, dSort3, dAugA, dStar, dZipT, dnAt, gdTrip, w_all3, dPopAt, dAppend, otAt, dCallG, noOwn, gdPair, dAsg, dIfS, dVar, dC, dOp, dB, dChain, dAnd, dOr, dNot, dAndV, dOrV, dNotV, dCall, dNil, dCons, dFn, dIf, dTup, dLst, dDrop, dNext, dNeg, dSl, dNoPart, dPart, dRaise, dYes, dTupI, dLstI, dStrI, dRg1, dRg2, dEnumL, dEnumT, dRevL, dRevT, dLc, setsD, wipeD, dPar, dPar3, dOwn, dfRep, dfLst, dfList, dfDict, dParFF, dParFP, dParPF, dFor, dgTup, dgCons, dgName, dgNil, dAsgG, dgSetIx, olAt, odAt, ent, froz,
  List.map_cons, List.map_nil, List.getElem?_cons_zero, List.getElem?_cons_succ, List.set_cons_zero, List.set_cons_succ, List.replicate, List.length_cons, List.length_nil, List.cons_append, List.nil_append, Nat.reduceAdd, Nat.reduceSub, Nat.reduceLeDiff,
  w_aug, decide_true, decide_false, w_iteA, w_some, w_none, w_bl, w_bl2, w_int, w_lst, w_tup, w_eq, w_mulL, w_mulR, w_mod, w_div, Int.reduceLT, Int.reduceNeg, Int.reducePow, Int.reduceAdd, Int.reduceSub, Int.reduceMul, and_self, w_cons, w_set, w_lrange, w_lrange1, w_ltup, w_llst, w_par, w_par3, w_tupL, w_tupT, w_listL, w_listT, w_all1, w_all2, w_own0, w_ownP, w_g2T, w_addI, w_addL, w_addT, w_lenT, w_lenL, w_intI, w_intB, w_eqI, w_neI, w_eqB, w_neB, w_ixT, w_ixL, w_slL, w_slT, w_keyI, w_keyS, w_ex, w_two, w_three, if_true, if_false, Bool.false_eq_true, Bool.true_eq_false, Bool.not_true, Bool.not_false, eq_self, true_and, and_true])

section
variable {P : Program} {w : World} {K : PySem.W.Frag} {mg : MG} {base : Heap} {T : TT0}



theorem ints_of_in {lo hi : Int} : ∀ {xs : List D}, xs.all (isIn lo hi) = true → ∃ l : List Int, xs = l.map .int ∧ ∀ x ∈ l, lo ≤ x ∧ x ≤ hi
  | [], _ => ⟨[], rfl, fun x hx => absurd hx List.not_mem_nil⟩
  | d :: xs, h => by
    rw [List.all_cons, Bool.and_eq_true] at h
    obtain ⟨l, e, hl⟩ := ints_of_in h.2
    cases d with
    | int i =>
      have h1 : (decide (lo ≤ i) && decide (i ≤ hi)) = true := h.1
      rw [Bool.and_eq_true, decide_eq_true_eq, decide_eq_true_eq] at h1
      refine ⟨i :: l, by rw [e]; rfl, fun x hx => ?_⟩
      rcases List.mem_cons.mp hx with q | q
      · rw [q]; exact h1
      · exact hl x q
    | _ => cases h.1
theorem areIn_ints {l : Int} {m lo hi : Int} {xs : List D} (h : areIn l m lo hi xs = true) : ∃ v : List Int, xs = v.map .int ∧ (∀ x ∈ v, lo ≤ x ∧ x ≤ hi) ∧ l ≤ v.length ∧ (v.length : Int) ≤ m := by
  unfold areIn at h
  rw [Bool.and_eq_true, Bool.and_eq_true, decide_eq_true_eq, decide_eq_true_eq] at h
  obtain ⟨v, e, hv⟩ := ints_of_in h.2
  refine ⟨v, e, hv, ?_⟩
  have e2 : xs.length = v.length := by rw [e, List.length_map]
  rw [← e2]
  exact h.1
/-- never falls (lt: ascends) -/
def ascB (lt : Bool) : List Int → Bool
  | [] => true
  | [_] => true
  | a :: b :: r => (if lt then decide (a < b) else decide (a ≤ b)) && ascB lt (b :: r)
theorem cut1 {α : Type} (l : List α) : DL.cutD l (some 1) none = l.drop 1 := by
  unfold DL.cutD
  have e1 : HT.sIx l.length 0 (some 1) = min 1 l.length := by
    unfold HT.sIx
    simp
  have e2 : HT.sIx l.length l.length none = l.length := rfl
  rw [e1, e2]
  cases l with
  | nil => rfl
  | cons a r =>
    have e3 : min 1 (a :: r).length = 1 := by simp
    rw [e3]
    simp
theorem zip_ints : ∀ (a b : List Int), zipD (a.map .int) (b.map .int) = (a.zip b).map DL.prD
  | [], _ => rfl
  | _ :: _, [] => rfl
  | x :: a, y :: b => by
    show (D.tup [.int x, .int y]) :: zipD (a.map .int) (b.map .int) = _
    rw [zip_ints a b]
    rfl
theorem asc_zip (lt : Bool) : ∀ l : List Int, ((l.zip (l.drop 1)).all fun p => if lt then decide (p.1 < p.2) else decide (p.1 ≤ p.2)) = ascB lt l
  | [] => rfl
  | [_] => rfl
  | a :: b :: r => by
    show ((if lt then decide (a < b) else decide (a ≤ b)) && (((b :: r).zip r).all _)) = _
    rw [ascB]
    congr 1
    exact asc_zip lt (b :: r)
/-- data of any kind, items too -/
def vOk (v : D) : Prop := v.isv = true ∧ ∀ xs, v = .tup xs → (∀ x ∈ xs, x.isv = true) ∧ xs.length ≤ 100000
def areDs : D → Bool
  | .tup xs => areIn 1 8 1 30 xs && match intsOf xs with
    | some l => ascB false l
    | none => false
  | _ => false
theorem ds_at {l : List Int} : areDs (.tup (l.map .int)) = (areIn 1 8 1 30 (l.map .int) && ascB false l) := by
  show (areIn 1 8 1 30 (l.map .int) && match intsOf (l.map .int) with | some l => ascB false l | none => false) = _
  rw [intsOf_map]
theorem ds_no {xs : List D} (h : areIn 1 8 1 30 xs = false) : areDs (.tup xs) = false := by
  show (areIn 1 8 1 30 xs && _) = _
  rw [h, Bool.false_and]
theorem ds_nt {v : D} (h : ∀ xs, v ≠ .tup xs) : areDs v = false := by
  cases v <;> first | rfl | exact absurd rfl (h _)
abbrev s_are_distances : Stmt := topS 12
abbrev N_are_distances : List Str := ["value", "one", "two"]
theorem sc_are_distances : FnScope N_are_distances ["value"] (defScope s_are_distances) := ⟨rfl, rfl, rfl, by decide +kernel, rfl, by decide +kernel, by decide +kernel⟩
theorem b_are_distances (kV doc pm : Value) (an : Option Addr) (cdv ct : Value) (us : List Value) (hl : us.length = (["value"] : List Str).length) : bindArgs (PySem.W.fnOf "are_distances" "are_distances" (defArgs s_are_distances) (defBody s_are_distances) (defScope s_are_distances) .none kV doc pm an cdv ct) ⟨us, []⟩ = pure ((["value"] : List Str).zip us) := match us, hl with | [_], _ => rfl
def m_are_distances : MT := mt1 fun v n Q _ => vOk v ∧ Q (.bl (areDs v)) n
theorem ok_are_distances {f : Addr} {fd : FuncData} (F : Fun K "are_distances" "are_distances" s_are_distances f fd) (hm : mg "are_distances" = some (.ref f)) (B : Bi mg) (K_MOST_DISTANCE : ∃ t, mg "MOST_DISTANCE" = some (.int 30 t)) (K_MOST_PAIRS : ∃ t, mg "MOST_PAIRS" = some (.int 8 t)) (C_are_in : CalD P w K mg base T CX0 2 "are_in" s_are_in ["value", "least", "most", "low", "high"] m_are_in)  : CalD P w K mg base T CX0 3 "are_distances" s_are_distances ["value"] m_are_distances := by
  refine okD F hm sc_are_distances ar1 (fun cdv A outer s G H n E ED hr => ⟨_, (pdss_cons (pds_if (pdt_not (pdt_val (pd_callZ C_are_in lk0 (hr.mono (by decide)) (by rfl) b_are_in (pda_cons (pdv 0) (pda_cons pd_int (pda_cons (pd_kint K_MOST_PAIRS (by rfl)) (pda_cons pd_int (pda_cons (pd_kint K_MOST_DISTANCE (by rfl)) pda_nil)))))))) (pdss_one (pds_ret pd_bl)) pdss_nil)
      (pdss_one (pds_ret (pd_callB (cd_all rfl) (by rfl) B.all (by decide +kernel) (pda_cons (pd_lcP rfl sc_are_distances.nd (pdi_zipT (by rfl) B.zip (pda_cons (pdv 0) (pda_cons (pd_slice (pdv 0) (pdo_some pd_int) pdo_none) pda_nil))) (blkOk_by (own := [("one", 1), ("two", 2)]) (N := N_are_distances) (sc := defScope s_are_distances) (by decide +kernel)) (fun _ _ _ _ _ => pg_tup rfl (pgs_cons (pg_name (i := 1) sc_are_distances.nd rfl (by first | exact .inl rfl | exact .inr rfl)) (pgs_cons (pg_name (i := 2) sc_are_distances.nd rfl (by first | exact .inl rfl | exact .inr rfl)) pgs_nil))) (fun _ _ _ _ _ => pdts_nil) (fun _ _ _ _ _ => (pd_cmp od_le (pdv 1) (pdv 2) (nomark _)))) pda_nil))))), fun ds Qd hl h => ?_⟩)
  obtain ⟨v, rfl, ⟨hv, hx⟩, hQ⟩ := h
  walk_at "dl"
  refine ⟨v, _, _, _, _, rfl, hv, _, _, _, _, rfl, rfl, rfl, rfl, fun hn _ => ?_, fun xs e => ⟨(hx xs e).1, by have := (hx xs e).2; omega, fun _ => ?_⟩⟩
  · rw [ds_nt hn] at hQ
    walk_at "dl"
    exact hQ
  · subst e
    by_cases hi : areIn 1 8 1 30 xs = true
    · obtain ⟨l, e, hl, k1, k2⟩ := areIn_ints hi
      subst e
      rw [ds_at, hi, Bool.true_and] at hQ
      rw [hi]
      walk_at "dl"
      refine ⟨_, _, rfl, ?_⟩
      rw [cut1, ← List.map_drop, zip_ints]
      refine comp_on DL.prD (fun p => some (.bl (decide (p.1 ≤ p.2)))) _ [] (fun p hp => ⟨_, rfl, fun K hK => ?_⟩) (by simp; omega) ?_
      · walk_at "dl"
        exact hK
      · rw [fm_map, List.nil_append]
        have e : ((l.zip (l.drop 1)).map fun p => D.bl (decide (p.1 ≤ p.2))) = ((l.zip (l.drop 1)).map fun p => decide (p.1 ≤ p.2)).map .bl := by rw [List.map_map]; rfl
        rw [e, w_all, w_some]
        have z := asc_zip false l
        simp only [Bool.false_eq_true, if_false] at z
        rw [← z] at hQ
        simpa [List.all_map, Function.comp_def] using hQ
    · have hf : areIn 1 8 1 30 xs = false := by simpa using hi
      rw [ds_no hf] at hQ
      rw [hf]
      walk_at "dl"
      exact hQ
abbrev s_length_of : Stmt := topS 13
abbrev N_length_of : List Str := ["distances", "holes"]
theorem sc_length_of : FnScope N_length_of ["distances", "holes"] (defScope s_length_of) := ⟨rfl, rfl, rfl, by decide +kernel, rfl, by decide +kernel, by decide +kernel⟩
theorem b_length_of (kV doc pm : Value) (an : Option Addr) (cdv ct : Value) (us : List Value) (hl : us.length = (["distances", "holes"] : List Str).length) : bindArgs (PySem.W.fnOf "length_of" "length_of" (defArgs s_length_of) (defBody s_length_of) (defScope s_length_of) .none kV doc pm an cdv ct) ⟨us, []⟩ = pure ((["distances", "holes"] : List Str).zip us) := match us, hl with | [_, _], _ => rfl
def m_length_of : MT := mt2 fun a b n Q _ => ∃ xs ys : List D, a = .tup xs ∧ b = .tup ys ∧ Q (.int (2 * (xs.length : Int) + ys.length)) n
theorem ok_length_of {f : Addr} {fd : FuncData} (F : Fun K "length_of" "length_of" s_length_of f fd) (hm : mg "length_of" = some (.ref f)) (B : Bi mg)    : CalD P w K mg base T CX0 1 "length_of" s_length_of ["distances", "holes"] m_length_of := by
  refine okD F hm sc_length_of ar2 (fun cdv A outer s G H n E ED hr => ⟨_, (pdss_one (pds_ret (pd_op od_add (pd_op od_mul pd_int (pd_callB cd_len (by rfl) B.len (by decide +kernel) (pda_cons (pdv 0) pda_nil))) (pd_callB cd_len (by rfl) B.len (by decide +kernel) (pda_cons (pdv 1) pda_nil))))), fun ds Qd hl h => ?_⟩)
  obtain ⟨a, b, rfl, xs, ys, rfl, rfl, hQ⟩ := h
  walk_at "dl"
  exact hQ
theorem w_shl {j : Nat} (h : j ≤ 1000000) : g2I bPow (fun i j => .int (i * 2 ^ j.toNat)) (.int 1) (.int (j : Int)) = some (.int ((2 ^ j : Nat) : Int)) := by
  have e : bPow 1 (j : Int) = true := by
    unfold bPow
    simp
    omega
  show (if bPow 1 (j : Int) = true then some _ else none) = _
  rw [if_pos e]
  simp
theorem w_shr {t j : Nat} : g2I (fun _ j => decide (0 ≤ j)) (fun i j => .int (i / 2 ^ j.toNat)) (.int (t : Int)) (.int (j : Int)) = some (.int ((t / 2 ^ j : Nat) : Int)) := by
  have e : decide ((0 : Int) ≤ (j : Int)) = true := decide_eq_true (by omega)
  show (if decide ((0 : Int) ≤ (j : Int)) = true then some _ else none) = _
  rw [if_pos e]
  simp
theorem bit_eq {t j : Nat} : ((((t / 2 ^ j : Nat) : Int)) % 2 = 1) = (t.testBit j = true) := by
  rw [Nat.testBit_eq_decide_div_mod_eq, decide_eq_true_eq]
  apply propext
  omega
theorem bit_eq0 {t j : Nat} : ((((t / 2 ^ j : Nat) : Int)) % 2 = 0) = (t.testBit j = false) := by
  rw [Nat.testBit_eq_decide_div_mod_eq, decide_eq_false_iff_not]
  apply propext
  omega
abbrev s_least_free : Stmt := topS 16
abbrev N_least_free : List Str := ["taken", "place"]
theorem sc_least_free : FnScope N_least_free ["taken"] (defScope s_least_free) := ⟨rfl, rfl, rfl, by decide +kernel, rfl, by decide +kernel, by decide +kernel⟩
theorem b_least_free (kV doc pm : Value) (an : Option Addr) (cdv ct : Value) (us : List Value) (hl : us.length = (["taken"] : List Str).length) : bindArgs (PySem.W.fnOf "least_free" "least_free" (defArgs s_least_free) (defBody s_least_free) (defScope s_least_free) .none kV doc pm an cdv ct) ⟨us, []⟩ = pure ((["taken"] : List Str).zip us) := match us, hl with | [_], _ => rfl
def m_least_free : MT := mt1 fun a n Q _ => ∃ t : Nat, a = .int t ∧ t.testBit 100 = false ∧ Q (.int (lf t : Nat)) n
theorem ok_least_free {f : Addr} {fd : FuncData} (F : Fun K "least_free" "least_free" s_least_free f fd) (hm : mg "least_free" = some (.ref f)) (B : Bi mg)    : CalD P w K mg base T CX0 1 "least_free" s_least_free ["taken"] m_least_free := by
  refine okD F hm sc_least_free ar1 (fun cdv A outer s G H n E ED hr => ⟨_, (pdss_cons (pds_set (i := 1) sc_least_free.nd rfl (.inl rfl) pd_int)
      (pdss_cons (pds_while PassesOwn.never (pdt_cmp (od_eq (hu64 hr)) (pd_op od_mod (pd_op od_shr (pdv 0) (pdv 1)) pd_int) pd_int (nomark _)) (pdss_one (pds_aug (i := 1) sc_least_free.nd rfl (.inl rfl) pd_int)))
      (pdss_one (pds_ret (pdv 1))))), fun ds Qd hl h => ?_⟩)
  obtain ⟨a, rfl, t, rfl, hb, hQ⟩ := h
  obtain ⟨f1, f2, f3⟩ := lf_spec (by decide) hb
  walk_at "dl"
  refine ⟨fun m S => ∃ p : Nat, m = lf t - p ∧ p ≤ lf t ∧ S = ⟨[some (.p (.int t)), some (.p (.int p))], n⟩, ⟨_, 0, rfl, Nat.zero_le _, rfl⟩, ?_⟩
  rintro m S ⟨p, rfl, hp, rfl⟩
  walk_at "dl"
  refine ⟨_, w_shr, ?_⟩
  rw [w_mod (by decide)]
  walk_at "dl"
  simp only [bit_eq]
  by_cases e : p = lf t
  · subst e
    rw [f1]
    walk_at "dl"
    simpa using hQ
  · rw [f3 p (by omega)]
    walk_at "dl"
    exact ⟨_, by omega, p + 1, rfl, by omega, rfl⟩
abbrev s_taken_by : Stmt := topS 17
abbrev N_taken_by : List Str := ["places", "found", "place"]
theorem sc_taken_by : FnScope N_taken_by ["places"] (defScope s_taken_by) := ⟨rfl, rfl, rfl, by decide +kernel, rfl, by decide +kernel, by decide +kernel⟩
theorem b_taken_by (kV doc pm : Value) (an : Option Addr) (cdv ct : Value) (us : List Value) (hl : us.length = (["places"] : List Str).length) : bindArgs (PySem.W.fnOf "taken_by" "taken_by" (defArgs s_taken_by) (defBody s_taken_by) (defScope s_taken_by) .none kV doc pm an cdv ct) ⟨us, []⟩ = pure ((["places"] : List Str).zip us) := match us, hl with | [_], _ => rfl
def m_taken_by : MT := mt1 fun a n Q _ => ∃ hs : List Nat, a = .tup (hs.map iD) ∧ (∀ h ∈ hs, h ≤ 1000000) ∧ Q (.int (tkb hs : Nat)) n
theorem ok_taken_by {f : Addr} {fd : FuncData} (F : Fun K "taken_by" "taken_by" s_taken_by f fd) (hm : mg "taken_by" = some (.ref f)) (B : Bi mg)    : CalD P w K mg base T CX0 1 "taken_by" s_taken_by ["places"] m_taken_by := by
  refine okD F hm sc_taken_by ar1 (fun cdv A outer s G H n E ED hr => ⟨_, (pdss_cons (pds_set (i := 1) sc_taken_by.nd rfl (.inl rfl) pd_int)
      (pdss_cons (pds_for PassesOwn.never rfl (pdi_tup (pdv 0)) (pdg_name (i := 2) sc_taken_by.nd rfl (.inl rfl)) (pdss_one (pds_aug (i := 1) sc_taken_by.nd rfl (.inl rfl) (pd_op od_shl pd_int (pdv 2)))))
      (pdss_one (pds_ret (pdv 1))))), fun ds Qd hl h => ?_⟩)
  obtain ⟨a, rfl, hs, rfl, hb, hQ⟩ := h
  walk_at "dl"
  refine loop_inv iD (fun xs S => ∃ (t : Nat) (y : Option SV), tkb hs = t + tkb xs ∧ (∀ h ∈ xs, h ≤ 1000000) ∧ S = ⟨[some (.p (.tup (hs.map iD))), some (.p (.int t)), y], n⟩) (fun x xs S hI K2 hK => ?_) (fun S hI => ?_) _ _ ⟨0, none, by simp, hb, rfl⟩
  · obtain ⟨t, y, ht, hx, rfl⟩ := hI
    have e : tkb (x :: xs) = 2 ^ x + tkb xs := by simp [tkb]
    rw [e] at ht
    simp only [iD]
    walk_at "dl"
    refine ⟨_, w_shl (hx x List.mem_cons_self), _, rfl, hK _ ⟨t + 2 ^ x, some (.p (.int x)), by omega, fun h hh => hx h (List.mem_cons_of_mem _ hh), by simp⟩⟩
  · obtain ⟨t, y, ht, hx, rfl⟩ := hI
    walk_at "dl"
    have e : tkb [] = 0 := rfl
    rw [e] at ht
    rw [ht] at hQ
    exact hQ
end
end K1
set_option maxHeartbeats 1000000
namespace K1
open PySem PySem.Spec PyProof.Rows L2 DL KP
local macro_rules | `(tactic| walk_at "dl") => `(tactic| simp only [dSeq, dRet, dDice, dSortI, dMaxI, dLstRg, dLstRg1, dDst, dfDictT, dDGetN, dDPutN, dDisp, dSortKey, dSort3, dAugA, dStar, dZipT, dnAt, gdTrip, w_all3, dPopAt, dAppend, otAt, dCallG, noOwn, gdPair, dAsg, dIfS, dVar, dC, dOp, dB, dChain, dAnd, dOr, dNot, dAndV, dOrV, dNotV, dCall, dNil, dCons, dFn, dIf, dTup, dLst, dDrop, dNext, dNeg, dSl, dNoPart, dPart, dRaise, dYes, dTupI, dLstI, dStrI, dRg1, dRg2, dEnumL, dEnumT, dRevL, dRevT, dLc, setsD, wipeD, dPar, dPar3, dOwn, dfRep, dfLst, dfList, dfDict, dParFF, dParFP, dParPF, dFor, dgTup, dgCons, dgName, dgNil, dAsgG, dgSetIx, olAt, odAt, ent, froz,
  List.map_cons, List.map_nil, List.getElem?_cons_zero, List.getElem?_cons_succ, List.set_cons_zero, List.set_cons_succ, List.replicate, List.length_cons, List.length_nil, List.cons_append, List.nil_append, Nat.reduceAdd, Nat.reduceSub, Nat.reduceLeDiff,
  w_aug, decide_true, decide_false, w_iteA, w_some, w_none, w_bl, w_bl2, w_int, w_lst, w_tup, w_eq, w_mulL, w_mulR, w_mod, w_div, Int.reduceLT, Int.reduceNeg, Int.reducePow, Int.reduceAdd, Int.reduceSub, Int.reduceMul, and_self, w_cons, w_set, w_lrange, w_lrange1, w_ltup, w_llst, w_par, w_par3, w_tupL, w_tupT, w_listL, w_listT, w_all1, w_all2, w_own0, w_ownP, w_g2T, w_addI, w_addL, w_addT, w_lenT, w_lenL, w_intI, w_intB, w_eqI, w_neI, w_eqB, w_neB, w_ixT, w_ixL, w_slL, w_slT, w_keyI, w_keyS, w_ex, w_two, w_three, if_true, if_false, Bool.false_eq_true, Bool.true_eq_false, Bool.not_true, Bool.not_false, eq_self, true_and, and_true])

section
variable {P : Program} {w : World} {K : PySem.W.Frag} {mg : MG} {base : Heap} {T : TT0}






def eD (q : Nat × Nat) : D := .tup [.int q.2, .int q.1]
theorem enum_nat (l : List Nat) : enumD (l.map iD) = l.zipIdx.map eD := by
  unfold enumD
  rw [List.zipIdx_map, List.map_map]
  rfl
theorem zip_get {l : List Nat} : ∀ q ∈ l.zipIdx, l[q.2]? = some q.1 := fun q hq => by
  have := List.mem_zipIdx_iff_getElem?.mp hq
  exact this
theorem er_cut (l : List Nat) (i : Nat) (hi : i < l.length) : DL.cutD (l.map iD) none (some (i : Int)) ++ DL.cutD (l.map iD) (some ((i : Int) + 1)) none = (l.eraseIdx i).map iD := by
  have e1 : HT.sIx l.length l.length (some (i : Int)) = i := by
    rw [HT.sIx_nat]
    omega
  have e2 : HT.sIx l.length 0 (some ((i : Int) + 1)) = i + 1 := by
    have e : ((i : Int) + 1) = ((i + 1 : Nat) : Int) := by omega
    rw [e, HT.sIx_nat]
    omega
  have e3 : HT.sIx l.length 0 none = 0 := rfl
  have e4 : HT.sIx l.length l.length none = l.length := rfl
  rw [DL.cutD_map, DL.cutD_map, ← List.map_append]
  congr 1
  unfold DL.cutD
  rw [e1, e2, e3, e4, List.drop_zero, List.eraseIdx_eq_take_drop_succ, Nat.sub_zero]
  congr 1
  rw [List.take_of_length_le]
  rw [List.length_drop]
  exact Nat.le_refl _
abbrev s_states_after : Stmt := topS 18
abbrev N_states_after : List Str := ["taken", "left", "length", "first", "found", "at", "distance", "second", "is_new", "after"]
theorem sc_states_after : FnScope N_states_after ["taken", "left", "length"] (defScope s_states_after) := ⟨rfl, rfl, rfl, by decide +kernel, rfl, by decide +kernel, by decide +kernel⟩
theorem b_states_after (kV doc pm : Value) (an : Option Addr) (cdv ct : Value) (us : List Value) (hl : us.length = (["taken", "left", "length"] : List Str).length) : bindArgs (PySem.W.fnOf "states_after" "states_after" (defArgs s_states_after) (defBody s_states_after) (defScope s_states_after) .none kV doc pm an cdv ct) ⟨us, []⟩ = pure ((["taken", "left", "length"] : List Str).zip us) := match us, hl with | [_, _, _], _ => rfl
def m_states_after : MT := mt3 fun a b c n Q _ => ∃ (t : Nat) (l : List Nat) (L : Nat), a = .int t ∧ b = .tup (l.map iD) ∧ c = .int L ∧ t.testBit 100 = false ∧ L ≤ 1000 ∧ l.length ≤ 1000 ∧ Q (.lst ((sAft t l L).map stD)) n
theorem ok_states_after {f : Addr} {fd : FuncData} (F : Fun K "states_after" "states_after" s_states_after f fd) (hm : mg "states_after" = some (.ref f)) (B : Bi mg)  (C_least_free : CalD P w K mg base T CX0 1 "least_free" s_least_free ["taken"] m_least_free)  : CalD P w K mg base T CX0 2 "states_after" s_states_after ["taken", "left", "length"] m_states_after := by
  refine okD F hm sc_states_after ar3 (fun cdv A outer s G H n E ED hr => ⟨_, (pdss_cons (pds_parPF (i := 3) (j := 4) rfl sc_states_after.nd rfl rfl (by decide) rfl rfl (pd_callZ C_least_free lk0 (hr.mono (by decide)) (by rfl) b_least_free (pda_cons (pdv 0) pda_nil)) (pdf_lst pda_nil) (by rfl))
      (pdss_cons (pds_for PassesOwn.never rfl (pdi_enumT (by rfl) B.enumerate (pda_cons (pdv 1) pda_nil)) (pdg_tup (n := 2) rfl (pdgs_cons (pdg_name (i := 5) sc_states_after.nd rfl (.inl rfl)) (pdgs_cons (pdg_name (i := 6) sc_states_after.nd rfl (.inl rfl)) pdgs_nil))) (pdss_cons (pds_set (i := 7) sc_states_after.nd rfl (.inl rfl) (pd_op od_add (pdv 3) (pdv 6)))
      (pdss_cons (pds_set (i := 8) sc_states_after.nd rfl (.inl rfl) (pd_or (pd_cmp (od_eq (hu64 hr)) (pdv 5) pd_int (nomark _)) (pd_one (pd_cmp (od_ne (hu64 hr)) (pd_ix (pdv 1) (pd_op od_sub (pdv 5) pd_int)) (pdv 6) (nomark _)))))
      (pdss_one (pds_if (pdw_pt (pdw_and (pdt_val (pdv 8)) (pdw_and (pdt_cmp od_lt (pdv 7) (pdv 2) (nomark _)) (pdw_and1 (pdt_cmp (od_eq (hu64 hr)) (pd_op od_mod (pd_op od_shr (pdv 0) (pdv 7)) pd_int) pd_int (nomark _)))))) (pdss_cons (pds_set (i := 9) sc_states_after.nd rfl (.inl rfl) (pd_op od_add (pd_op od_add (pdv 0) (pd_op od_shl pd_int (pdv 3))) (pd_op od_shl pd_int (pdv 7))))
      (pdss_one (pds_expr (pd_append (i := 4) rfl (by first | exact Or.inl rfl | exact Or.inr (Or.inl rfl) | exact Or.inr (Or.inr rfl)) (pd_tup (pda_cons (pdv 9) (pda_cons (pd_op od_add (pd_slice (pdv 1) pdo_none (pdo_some (pdv 5))) (pd_slice (pdv 1) (pdo_some (pd_op od_add (pdv 5) pd_int)) pdo_none)) (pda_cons (pd_tup (pda_cons (pdv 3) (pda_cons (pdv 7) pda_nil))) pda_nil)))))))) pdss_nil)))))
      (pdss_one (pds_ret (pdv 4))))), fun ds Qd hl h => ?_⟩)
  obtain ⟨a, b, c, rfl, t, l, L, rfl, rfl, rfl, hb, hL, hz, hQ⟩ := h
  walk_at "dl"
  refine ⟨_, rfl, t, rfl, hb, fun _ => ?_⟩
  rw [enum_nat]
  have hf := (lf_spec (by decide) hb).2.1
  refine loop_inv eD (fun xs S => ∃ (found : List (Ky × Pr)) (x5 x6 x7 x8 x9 : Option SV), sAft t l L = found ++ xs.filterMap (sOne t l L) ∧ (∀ q ∈ xs, l[q.2]? = some q.1) ∧ S = ⟨[some (.p (.int t)), some (.p (.tup (l.map iD))), some (.p (.int L)), some (.p (.int (lf t : Nat))), some (.ol (found.map stD)), x5, x6, x7, x8, x9], n⟩)
    (fun q xs S hI K2 hK => ?_) (fun S hI => ?_) _ _ ⟨[], none, none, none, none, none, rfl, zip_get, rfl⟩
  · obtain ⟨found, x5, x6, x7, x8, x9, hfd, hx, rfl⟩ := hI
    obtain ⟨d, i⟩ := q
    have hq : l[i]? = some d := hx _ List.mem_cons_self
    have hi : i < l.length := (List.getElem?_eq_some_iff.mp hq).1
    have hx' : ∀ q ∈ xs, l[q.2]? = some q.1 := fun q h => hx q (List.mem_cons_of_mem _ h)
    simp only [eD]
    walk_at "dl"
    have fl : found.length ≤ 1000 := by
      have h1 := sAft_len t l L
      rw [hfd, List.length_append] at h1
      omega
    have no : sOne t l L (d, i) = none → ∃ (found' : List (Ky × Pr)), sAft t l L = found' ++ xs.filterMap (sOne t l L) ∧ found' = found := fun e => ⟨found, by rw [hfd, List.filterMap_cons, e], rfl⟩
    by_cases hnew : i = 0 ∨ l[i - 1]? ≠ some d
    · by_cases h0 : i = 0
      case' pos =>
        rw [if_pos (by simpa using h0)]
      case' neg =>
        rw [if_neg (by simpa using h0)]
        have hi1 : i - 1 < l.length := by omega
        have e1 : atI (l.map iD) ((i : Int) - 1) = some (.int (l[i - 1] : Nat)) := by
          rw [atI_at (by omega) (by simp; omega), List.getElem?_map, show ((i : Int) - 1).toNat = i - 1 by omega, List.getElem?_eq_getElem hi1]
          rfl
        have hne : ¬ l[i - 1] = d := fun z => by
          rcases hnew with z2 | z2
          · exact h0 z2
          · rw [List.getElem?_eq_getElem hi1, z] at z2
            exact z2 rfl
        refine ⟨_, e1, _, w_neI, ?_⟩
        rw [show decide (((l[i - 1] : Nat) : Int) = (d : Int)) = false from decide_eq_false (by omega)]
        walk_at "dl"
      all_goals
        by_cases hlt : lf t + d < L
        · rw [if_pos (by simp; omega)]
          rw [show ((lf t : Nat) : Int) + (d : Int) = ((lf t + d : Nat) : Int) by omega]
          refine ⟨_, w_shr, ?_⟩
          rw [w_mod (by decide)]
          walk_at "dl"
          simp only [bit_eq0]
          by_cases hbit : t.testBit (lf t + d) = false
          · rw [if_pos (decide_eq_true hbit)]
            have e1 : sOne t l L (d, i) = some ((t + 2 ^ lf t + 2 ^ (lf t + d), l.eraseIdx i), (lf t, lf t + d)) := if_pos ⟨hnew, hlt, hbit⟩
            refine ⟨_, w_shl (by omega), _, rfl, _, w_shl (by omega), _, rfl, ?_, by rw [List.length_map]; omega, ?_⟩
            · have h1 := cutD_len (l.map iD) none (some (i : Int))
              have h2 := cutD_len (l.map iD) (some ((i : Int) + 1)) none
              rw [List.length_map] at h1 h2
              omega
            · rw [er_cut l i hi]
              refine hK _ ⟨found ++ [((t + 2 ^ lf t + 2 ^ (lf t + d), l.eraseIdx i), (lf t, lf t + d))], some (.p (.int i)), some (.p (.int d)), some (.p (.int ((lf t + d : Nat) : Int))), some (.p (.bl true)), some (.p (.int ((t + 2 ^ lf t + 2 ^ (lf t + d) : Nat) : Int))), by rw [hfd, List.filterMap_cons, e1]; simp, hx', ?_⟩
              have ea : (t : Int) + ((2 ^ lf t : Nat) : Int) + ((2 ^ (lf t + d) : Nat) : Int) = ((t + 2 ^ lf t + 2 ^ (lf t + d) : Nat) : Int) := by omega
              rw [List.map_append, ea]
              rfl
          · rw [if_neg (by simpa using hbit)]
            obtain ⟨f', k1, k2⟩ := no (if_neg fun z => hbit z.2.2)
            exact hK _ ⟨found, _, _, _, _, _, by rw [← k2]; exact k1, hx', rfl⟩
        · rw [if_neg (by simp; omega)]
          obtain ⟨f', k1, k2⟩ := no (if_neg fun z => hlt z.2.1)
          exact hK _ ⟨found, _, _, _, _, _, by rw [← k2]; exact k1, hx', rfl⟩
    · have h0 : ¬ i = 0 := fun z => hnew (.inl z)
      rw [if_neg (by simpa using h0)]
      have hi1 : i - 1 < l.length := by omega
      have e1 : atI (l.map iD) ((i : Int) - 1) = some (.int (l[i - 1] : Nat)) := by
        rw [atI_at (by omega) (by simp; omega), List.getElem?_map, show ((i : Int) - 1).toNat = i - 1 by omega, List.getElem?_eq_getElem hi1]
        rfl
      have heq : l[i - 1] = d := Classical.byContradiction fun z => hnew (.inr fun z2 => z (by
        rw [List.getElem?_eq_getElem hi1] at z2
        exact Option.some.inj z2))
      refine ⟨_, e1, _, w_neI, ?_⟩
      rw [heq, decide_eq_true rfl]
      walk_at "dl"
      obtain ⟨f', k1, k2⟩ := no (if_neg fun z => hnew z.1)
      exact hK _ ⟨found, _, _, _, _, _, by rw [← k2]; exact k1, hx', rfl⟩
  · obtain ⟨found, x5, x6, x7, x8, x9, hfd, hx, rfl⟩ := hI
    walk_at "dl"
    rw [hfd, List.filterMap_nil, List.append_nil] at hQ
    exact hQ
abbrev s_counts_after : Stmt := topS 19
abbrev N_counts_after : List Str := ["rows", "length", "found", "taken", "left", "many", "pairs", "after", "rest", "pair", "before"]
theorem sc_counts_after : FnScope N_counts_after ["rows", "length"] (defScope s_counts_after) := ⟨rfl, rfl, rfl, by decide +kernel, rfl, by decide +kernel, by decide +kernel⟩
theorem b_counts_after (kV doc pm : Value) (an : Option Addr) (cdv ct : Value) (us : List Value) (hl : us.length = (["rows", "length"] : List Str).length) : bindArgs (PySem.W.fnOf "counts_after" "counts_after" (defArgs s_counts_after) (defBody s_counts_after) (defScope s_counts_after) .none kV doc pm an cdv ct) ⟨us, []⟩ = pure ((["rows", "length"] : List Str).zip us) := match us, hl with | [_, _], _ => rfl
def m_counts_after : MT := mt2 fun a b n Q _ => ∃ (R : Rw) (L : Nat), a = .dn (rwD R) ∧ b = .int L ∧ L ≤ 1000 ∧ (∀ r ∈ R, r.1.1.testBit 100 = false ∧ r.1.2.length ≤ 1000 ∧ r.2.2.length ≤ 1000) ∧ (R.map fun r => r.1.2.length).sum < 16777216 ∧ Q (.dn (rwD (cAft L R))) n
theorem ok_counts_after {f : Addr} {fd : FuncData} (F : Fun K "counts_after" "counts_after" s_counts_after f fd) (hm : mg "counts_after" = some (.ref f)) (B : Bi mg)  (C_states_after : CalD P w K mg base T CX0 2 "states_after" s_states_after ["taken", "left", "length"] m_states_after)  : CalD P w K mg base T CX0 3 "counts_after" s_counts_after ["rows", "length"] m_counts_after := by
  refine okD F hm sc_counts_after ar2 (fun cdv A outer s G H n E ED hr => ⟨_, (pdss_cons (pds_own (i := 2) sc_counts_after.nd rfl (.inl rfl) pdf_dictT)
      (pdss_cons (pds_forItems (i := 0) PassesOwn.never rfl rfl (by first | exact Or.inl rfl | exact Or.inr (Or.inl rfl) | exact Or.inr (Or.inr rfl)) (fun _ _ _ => (pdg_tup (n := 2) rfl (pdgs_cons (pdg_tup (n := 2) rfl (pdgs_cons (pdg_name (i := 3) sc_counts_after.nd rfl (.inl rfl)) (pdgs_cons (pdg_name (i := 4) sc_counts_after.nd rfl (.inl rfl)) pdgs_nil))) (pdgs_cons (pdg_tup (n := 2) rfl (pdgs_cons (pdg_name (i := 5) sc_counts_after.nd rfl (.inl rfl)) (pdgs_cons (pdg_name (i := 6) sc_counts_after.nd rfl (.inl rfl)) pdgs_nil))) pdgs_nil)))) (fun _ _ _ => (pdss_one (pds_for PassesOwn.never rfl (pdi_list (pd_callZ C_states_after lk0 (hr.mono (by decide)) (by rfl) b_states_after (pda_cons (pdv 3) (pda_cons (pdv 4) (pda_cons (pdv 1) pda_nil))))) (pdg_tup (n := 3) rfl (pdgs_cons (pdg_name (i := 7) sc_counts_after.nd rfl (.inl rfl)) (pdgs_cons (pdg_name (i := 8) sc_counts_after.nd rfl (.inl rfl)) (pdgs_cons (pdg_name (i := 9) sc_counts_after.nd rfl (.inl rfl)) pdgs_nil)))) (pdss_cons (pds_set (i := 10) sc_counts_after.nd rfl (.inl rfl) (pd_dgetN (i := 2) (hu64 hr) rfl (by first | exact Or.inl rfl | exact Or.inr (Or.inl rfl) | exact Or.inr (Or.inr rfl)) (pd_tup (pda_cons (pdv 7) (pda_cons (pdv 8) pda_nil))) (pd_tup (pda_cons pd_int (pda_cons (pd_tup (pda_star (pdv 6) (pda_cons (pdv 9) pda_nil))) pda_nil))) ⟨rfl, rfl, rfl, rfl⟩))
      (pdss_one (pds_dputN (i := 2) (hu64 hr) rfl (by first | exact Or.inl rfl | exact Or.inr (Or.inl rfl) | exact Or.inr (Or.inr rfl)) (pd_tup (pda_cons (pdv 7) (pda_cons (pdv 8) pda_nil))) (pd_tup (pda_cons (pd_op od_add (pd_ix (pdv 10) pd_int) (pdv 5)) (pda_cons (pd_ix (pdv 10) pd_int) pda_nil))))))))))
      (pdss_one (pds_ret (pdv 2))))), fun ds Qd hl h => ?_⟩)
  obtain ⟨a, b, rfl, R, L, rfl, rfl, hL, hR, hz, hQ⟩ := h
  walk_at "dl"
  refine ⟨_, rfl, ?_⟩
  have em : (rwD R).map itemN = R.map fun r => D.tup [nkD (ksD r.1), wyD r.2] := by
    unfold rwD
    rw [List.map_map]
    rfl
  rw [em]
  refine loop_inv (fun r : Ky × Wy => D.tup [nkD (ksD r.1), wyD r.2]) (fun xs S => ∃ (F : Rw) (x3 x4 x5 x6 x7 x8 x9 x10 : Option SV), cAft L R = xs.foldl (stepR L) F ∧ (∀ r ∈ xs, r.1.1.testBit 100 = false ∧ r.1.2.length ≤ 1000 ∧ r.2.2.length ≤ 1000) ∧ F.length + (xs.map fun r => r.1.2.length).sum < 16777216 ∧
      S = ⟨[some (.p (.dn (rwD R))), some (.p (.int L)), some (.ot (rwD F)), x3, x4, x5, x6, x7, x8, x9, x10], n⟩) (fun r xs S hI K2 hK => ?_) (fun S hI => ?_) _ _ ⟨[], none, none, none, none, none, none, none, none, rfl, hR, by simpa using hz, rfl⟩
  · obtain ⟨F, x3, x4, x5, x6, x7, x8, x9, x10, hF, hx, hz, rfl⟩ := hI
    obtain ⟨⟨t, l⟩, m, ps⟩ := r
    obtain ⟨h1, h2, h3⟩ := hx _ List.mem_cons_self
    have hx' : ∀ r ∈ xs, r.1.1.testBit 100 = false ∧ r.1.2.length ≤ 1000 ∧ r.2.2.length ≤ 1000 := fun r h => hx r (List.mem_cons_of_mem _ h)
    rw [List.map_cons, List.sum_cons] at hz
    rw [List.foldl_cons] at hF
    simp only [nkD_ks, wyD]
    walk_at "dl"
    refine ⟨_, _, _, rfl, t, l, L, rfl, rfl, rfl, h1, hL, h2, fun _ => ?_⟩
    have hs := sAft_len t l L
    have hF2 : cAft L R = xs.foldl (stepR L) ((sAft t l L).foldl (addR (m, ps)) F) := hF
    refine ⟨_, rfl, ?_⟩
    refine loop_inv stD (fun ys S => ∃ (F' : Rw) (x7 x8 x9 x10 : Option SV), cAft L R = xs.foldl (stepR L) (ys.foldl (addR (m, ps)) F') ∧ F'.length + ys.length ≤ F.length + l.length ∧
      S = ⟨[some (.p (.dn (rwD R))), some (.p (.int L)), some (.ot (rwD F')), some (.p (.int t)), some (.p (.tup (l.map iD))), some (.p (.int m)), some (.p (.tup (ps.map nD))), x7, x8, x9, x10], n⟩) (fun y ys S hI K3 hK3 => ?_) (fun S hI => ?_) _ _ ⟨F, _, _, _, _, hF2, by omega, rfl⟩
    · obtain ⟨F', x7, x8, x9, x10, hF3, hz3, rfl⟩ := hI
      obtain ⟨⟨t', l'⟩, p⟩ := y
      rw [List.length_cons] at hz3
      rw [List.foldl_cons] at hF3
      simp only [stD]
      walk_at "dl"
      have eb : (lookN (rwD F') (ksD (t', l'))).getD (D.tup [D.int 0, D.tup (ps.map nD ++ [nD p])]) = wyD ((lookR F' (t', l')).getD (0, ps ++ [p])) := by
        rw [look_rw]
        cases lookR F' (t', l') with
        | none =>
          show D.tup [D.int 0, D.tup (ps.map nD ++ [nD p])] = D.tup [D.int 0, D.tup ((ps ++ [p]).map nD)]
          rw [List.map_append]
          rfl
        | some b => rfl
      have hl1 : (ps.map nD ++ [nD p]).length ≤ 16777216 := by
        simp
        have h4 : ps.length ≤ 1000 := h3
        omega
      have h5 : l.length ≤ 1000 := h2
      refine ⟨_, .inl rfl, hl1, _, _, rfl, nkOf_ks (t', l'), ?_⟩
      rw [eb]
      refine ⟨_, rfl, _, rfl, _, rfl, _, _, rfl, nkOf_ks (t', l'), ?_, ?_⟩
      · unfold rwD
        rw [List.length_map]
        have h6 : F.length + (l.length + (xs.map fun r => r.1.2.length).sum) < 16777216 := hz
        omega
      · have ew : D.tup [D.int (((lookR F' (t', l')).getD (0, ps ++ [p])).1 + m), D.tup (((lookR F' (t', l')).getD (0, ps ++ [p])).2.map nD)] = wyD (((lookR F' (t', l')).getD (0, ps ++ [p])).1 + m, ((lookR F' (t', l')).getD (0, ps ++ [p])).2) := rfl
        rw [ew, put_rw]
        refine hK3 _ ⟨addR (m, ps) F' ((t', l'), p), _, _, _, _, hF3, ?_, rfl⟩
        have := addR_len (m, ps) F' ((t', l'), p)
        omega
    · obtain ⟨F', x7, x8, x9, x10, hF3, hz3, rfl⟩ := hI
      exact hK _ ⟨F', _, _, _, _, _, _, _, _, hF3, hx', by
        have h6 : F.length + (l.length + (xs.map fun r => r.1.2.length).sum) < 16777216 := hz
        simp at hz3
        omega, rfl⟩
  · obtain ⟨F, x3, x4, x5, x6, x7, x8, x9, x10, hF, hx, hz, rfl⟩ := hI
    walk_at "dl"
    have hF2 : cAft L R = F := hF
    rw [hF2] at hQ
    exact hQ
end
end K1
set_option maxHeartbeats 1000000
namespace K1
open PySem PySem.Spec PyProof.Rows L2 DL KP
local macro_rules | `(tactic| walk_at "dl") => `(tactic| simp only [dSeq, dRet, dDice, dSortI, dMaxI, dLstRg, dLstRg1, dDst, dfDictT, dDGetN, dDPutN, dDisp, dSortKey, dSort3, dAugA, dStar, dZipT, dnAt, gdTrip, w_all3, dPopAt, dAppend, otAt, dCallG, noOwn, gdPair, dAsg, dIfS, dVar, dC, dOp, dB, dChain, dAnd, dOr, dNot, dAndV, dOrV, dNotV, dCall, dNil, dCons, dFn, dIf, dTup, dLst, dDrop, dNext, dNeg, dSl, dNoPart, dPart, dRaise, dYes, dTupI, dLstI, dStrI, dRg1, dRg2, dEnumL, dEnumT, dRevL, dRevT, dLc, setsD, wipeD, dPar, dPar3, dOwn, dfRep, dfLst, dfList, dfDict, dParFF, dParFP, dParPF, dFor, dgTup, dgCons, dgName, dgNil, dAsgG, dgSetIx, olAt, odAt, ent, froz,
  List.map_cons, List.map_nil, List.getElem?_cons_zero, List.getElem?_cons_succ, List.set_cons_zero, List.set_cons_succ, List.replicate, List.length_cons, List.length_nil, List.cons_append, List.nil_append, Nat.reduceAdd, Nat.reduceSub, Nat.reduceLeDiff,
  w_aug, decide_true, decide_false, w_iteA, w_some, w_none, w_bl, w_bl2, w_int, w_lst, w_tup, w_eq, w_mulL, w_mulR, w_mod, w_div, Int.reduceLT, Int.reduceNeg, Int.reducePow, Int.reduceAdd, Int.reduceSub, Int.reduceMul, and_self, w_cons, w_set, w_lrange, w_lrange1, w_ltup, w_llst, w_par, w_par3, w_tupL, w_tupT, w_listL, w_listT, w_all1, w_all2, w_own0, w_ownP, w_g2T, w_addI, w_addL, w_addT, w_lenT, w_lenL, w_intI, w_intB, w_eqI, w_neI, w_eqB, w_neB, w_ixT, w_ixL, w_slL, w_slT, w_keyI, w_keyS, w_ex, w_two, w_three, if_true, if_false, Bool.false_eq_true, Bool.true_eq_false, Bool.not_true, Bool.not_false, eq_self, true_and, and_true])

section
variable {P : Program} {w : World} {K : PySem.W.Frag} {mg : MG} {base : Heap} {T : TT0}



/-- distances and holes that a search may have -/
def GoodI (ds hs : List Nat) : Prop := ds.length ≤ 8 ∧ GoodS (2 * ds.length + hs.length) ds.length (tkb hs) ds hs
def pthS (ds hs : List Nat) : List (List Pr) := paths (2 * ds.length + hs.length) ds.length (tkb hs, ds)
theorem loop_invD {g : DG} {tb : DSt} {B : DEnds} (I : List D → DS → Prop)
    (step : ∀ x xs S, I (x :: xs) S → ∀ K : DS → Prop, (∀ S2, I xs S2 → K S2) → g x S fun S1 => tb { nx := K, rt := B.rt, bk := B.nx, ct := K } S1) (fin : ∀ S, I [] S → B.nx S) (xs : List D) (S : DS) (h : I xs S) : dLoop g tb xs B S := by
  have := loop_inv (fun x : D => x) I step fin xs S h
  rwa [List.map_id'] at this
abbrev s_all_fillings : Stmt := topS 20
abbrev N_all_fillings : List Str := ["distances", "holes", "rows", "turn", "many", "pairs"]
theorem sc_all_fillings : FnScope N_all_fillings ["distances", "holes"] (defScope s_all_fillings) := ⟨rfl, rfl, rfl, by decide +kernel, rfl, by decide +kernel, by decide +kernel⟩
theorem b_all_fillings (kV doc pm : Value) (an : Option Addr) (cdv ct : Value) (us : List Value) (hl : us.length = (["distances", "holes"] : List Str).length) : bindArgs (PySem.W.fnOf "all_fillings" "all_fillings" (defArgs s_all_fillings) (defBody s_all_fillings) (defScope s_all_fillings) .none kV doc pm an cdv ct) ⟨us, []⟩ = pure ((["distances", "holes"] : List Str).zip us) := match us, hl with | [_, _], _ => rfl
def m_all_fillings : MT := mt2 fun a b n Q _ => ∃ ds hs : List Nat, a = .tup (ds.map iD) ∧ b = .tup (hs.map iD) ∧ GoodI ds hs ∧ Q (outD (allR ds hs)) n
theorem len_int (ds hs : List Nat) : 2 * ((ds.map iD).length : Int) + ((hs.map iD).length : Int) = ((2 * ds.length + hs.length : Nat) : Int) := by
  rw [List.length_map, List.length_map]
  omega
theorem ok_all_fillings {f : Addr} {fd : FuncData} (F : Fun K "all_fillings" "all_fillings" s_all_fillings f fd) (hm : mg "all_fillings" = some (.ref f)) (B : Bi mg)  (C_taken_by : CalD P w K mg base T CX0 1 "taken_by" s_taken_by ["places"] m_taken_by) (C_counts_after : CalD P w K mg base T CX0 3 "counts_after" s_counts_after ["rows", "length"] m_counts_after) (C_length_of : CalD P w K mg base T CX0 1 "length_of" s_length_of ["distances", "holes"] m_length_of)  : CalD P w K mg base T CX0 4 "all_fillings" s_all_fillings ["distances", "holes"] m_all_fillings := by
  refine okD F hm sc_all_fillings ar2 (fun cdv A outer s G H n E ED hr => ⟨_, (pdss_cons (pds_set (i := 2) sc_all_fillings.nd rfl (.inl rfl) (pd_disp (hu64 hr) (pd_tup (pda_cons (pd_callZ C_taken_by lk0 (hr.mono (by decide)) (by rfl) b_taken_by (pda_cons (pdv 1) pda_nil)) (pda_cons (pdv 0) pda_nil))) (pd_tup (pda_cons pd_int (pda_cons (pd_tup pda_nil) pda_nil)))))
      (pdss_cons (pds_for PassesOwn.never rfl (pdi_range1 (by rfl) B.range (pda_cons (pd_callB cd_len (by rfl) B.len (by decide +kernel) (pda_cons (pdv 0) pda_nil)) pda_nil)) (pdg_name (i := 3) sc_all_fillings.nd rfl (.inl rfl)) (pdss_one (pds_set (i := 2) sc_all_fillings.nd rfl (.inl rfl) (pd_callZ C_counts_after lk0 (hr.mono (by decide)) (by rfl) b_counts_after (pda_cons (pdv 2) (pda_cons (pd_callZ C_length_of lk0 (hr.mono (by decide)) (by rfl) b_length_of (pda_cons (pdv 0) (pda_cons (pdv 1) pda_nil))) pda_nil))))))
      (pdss_cons (pds_forValues (i := 2) PassesOwn.never rfl rfl (by first | exact Or.inl rfl | exact Or.inr (Or.inl rfl) | exact Or.inr (Or.inr rfl)) (fun _ _ _ => (pdg_tup (n := 2) rfl (pdgs_cons (pdg_name (i := 4) sc_all_fillings.nd rfl (.inl rfl)) (pdgs_cons (pdg_name (i := 5) sc_all_fillings.nd rfl (.inl rfl)) pdgs_nil)))) (fun _ _ _ => (pdss_one (pds_ret (pd_tup (pda_cons (pdv 4) (pda_cons (pdv 5) pda_nil)))))))
      (pdss_one (pds_ret (pd_tup (pda_cons pd_int (pda_cons pd_non pda_nil)))))))), fun ds Qd hl h => ?_⟩)
  obtain ⟨a, b, rfl, ds, hs, rfl, rfl, ⟨h8, g⟩, hQ⟩ := h
  have hlt : ∀ h ∈ hs, h ≤ 1000000 := fun h hh => by
    have := g.lt h hh
    have := g.hL
    omega
  walk_at "dl"
  refine ⟨_, rfl, hs, rfl, hlt, fun _ => ⟨_, nkOf_ks (tkb hs, ds), ?_, ?_⟩⟩
  · rw [List.length_map]
    exact ⟨by omega, by omega⟩
  have e0 : ([(ksD (tkb hs, ds), D.tup [D.int 1, D.tup []])] : List (NK × D)) = rwD [((tkb hs, ds), (1, []))] := rfl
  rw [e0]
  have hz : ∀ k, k ≤ ds.length → RowI (2 * ds.length + hs.length) ds.length k (tkb hs, ds) (iterR (2 * ds.length + hs.length) k [((tkb hs, ds), (1, []))]) := row_iter (k0 := (tkb hs, ds)) h8 g
  refine loop_invD (fun xs S => ∃ (x : Option SV), xs.length ≤ ds.length ∧ S = ⟨[some (.p (.tup (ds.map iD))), some (.p (.tup (hs.map iD))), some (.p (.dn (rwD (iterR (2 * ds.length + hs.length) (ds.length - xs.length) [((tkb hs, ds), (1, []))])))), x, none, none], n⟩)
    (fun x xs S hI K2 hK => ?_) (fun S hI => ?_) _ _ ⟨none, by simp [rgD_len], by simp [rgD_len, iterR]⟩
  · obtain ⟨x3, hx, rfl⟩ := hI
    rw [List.length_cons] at hx
    walk_at "dl"
    refine ⟨_, _, rfl, _, _, rfl, rfl, fun _ => ?_⟩
    rw [len_int]
    have e1 : ds.length - (x :: xs).length = ds.length - (xs.length + 1) := rfl
    have e2 : ds.length - xs.length = ds.length - (xs.length + 1) + 1 := by omega
    obtain ⟨r1, r2⟩ := row_sizes (k0 := (tkb hs, ds)) h8 g (k := ds.length - (xs.length + 1)) (by omega) (hz _ (by omega))
    have hL := g.hL
    refine ⟨_, _, rfl, _, _, rfl, rfl, by omega, r1, r2, fun _ => ?_⟩
    refine hK _ ⟨some (.p x), by omega, ?_⟩
    rw [e2]
    rfl
  · obtain ⟨x3, hx, rfl⟩ := hI
    walk_at "dl"
    refine ⟨_, rfl, ?_⟩
    have hQ2 : Qd (outD (iterR (2 * ds.length + hs.length) ds.length [((tkb hs, ds), (1, []))])) n := hQ
    cases hR : iterR (2 * ds.length + hs.length) ds.length [((tkb hs, ds), (1, []))] with
    | nil =>
      rw [hR] at hQ2
      simp only [rwD, List.map_nil, dLoop]
      walk_at "dl"
      exact hQ2
    | cons r R =>
      rw [hR] at hQ2
      simp only [rwD, List.map_cons, dLoop, wyD]
      walk_at "dl"
      exact hQ2
end
end K1
set_option maxHeartbeats 1000000
namespace K1
open PySem PySem.Spec PyProof.Rows L2 DL KP
local macro_rules | `(tactic| walk_at "dl") => `(tactic| simp only [dSeq, dRet, dDice, dSortI, dMaxI, dLstRg, dLstRg1, dDst, dfDictT, dDGetN, dDPutN, dDisp, dSortKey, dSort3, dAugA, dStar, dZipT, dnAt, gdTrip, w_all3, dPopAt, dAppend, otAt, dCallG, noOwn, gdPair, dAsg, dIfS, dVar, dC, dOp, dB, dChain, dAnd, dOr, dNot, dAndV, dOrV, dNotV, dCall, dNil, dCons, dFn, dIf, dTup, dLst, dDrop, dNext, dNeg, dSl, dNoPart, dPart, dRaise, dYes, dTupI, dLstI, dStrI, dRg1, dRg2, dEnumL, dEnumT, dRevL, dRevT, dLc, setsD, wipeD, dPar, dPar3, dOwn, dfRep, dfLst, dfList, dfDict, dParFF, dParFP, dParPF, dFor, dgTup, dgCons, dgName, dgNil, dAsgG, dgSetIx, olAt, odAt, ent, froz,
  List.map_cons, List.map_nil, List.getElem?_cons_zero, List.getElem?_cons_succ, List.set_cons_zero, List.set_cons_succ, List.replicate, List.length_cons, List.length_nil, List.cons_append, List.nil_append, Nat.reduceAdd, Nat.reduceSub, Nat.reduceLeDiff,
  w_aug, decide_true, decide_false, w_iteA, w_some, w_none, w_bl, w_bl2, w_int, w_lst, w_tup, w_eq, w_mulL, w_mulR, w_mod, w_div, Int.reduceLT, Int.reduceNeg, Int.reducePow, Int.reduceAdd, Int.reduceSub, Int.reduceMul, and_self, w_cons, w_set, w_lrange, w_lrange1, w_ltup, w_llst, w_par, w_par3, w_tupL, w_tupT, w_listL, w_listT, w_all1, w_all2, w_own0, w_ownP, w_g2T, w_addI, w_addL, w_addT, w_lenT, w_lenL, w_intI, w_intB, w_eqI, w_neI, w_eqB, w_neB, w_ixT, w_ixL, w_slL, w_slT, w_keyI, w_keyS, w_ex, w_two, w_three, if_true, if_false, Bool.false_eq_true, Bool.true_eq_false, Bool.not_true, Bool.not_false, eq_self, true_and, and_true])

section
variable {P : Program} {w : World} {K : PySem.W.Frag} {mg : MG} {base : Heap} {T : TT0}






theorem asc_pw : ∀ {l : List Int}, ascB false l = true → l.Pairwise (· ≤ ·)
  | [], _ => List.Pairwise.nil
  | [a], _ => List.pairwise_singleton ..
  | a :: b :: r, h => by
    simp only [ascB, Bool.false_eq_true, if_false, Bool.and_eq_true, decide_eq_true_eq] at h
    have ih := asc_pw h.2
    rw [List.pairwise_cons]
    refine ⟨fun x hx => ?_, ih⟩
    rcases List.mem_cons.mp hx with e | e
    · rw [e]; exact h.1
    · exact Int.le_trans h.1 ((List.pairwise_cons.mp ih).1 x e)
theorem pw_asc : ∀ {l : List Int}, l.Pairwise (· ≤ ·) → ascB false l = true
  | [], _ => rfl
  | [a], _ => rfl
  | a :: b :: r, h => by
    simp only [ascB, Bool.false_eq_true, if_false, Bool.and_eq_true, decide_eq_true_eq]
    obtain ⟨h1, h2⟩ := List.pairwise_cons.mp h
    exact ⟨h1 b List.mem_cons_self, pw_asc h2⟩
theorem all_isIn {lo hi : Int} : ∀ {l : List Int}, (l.map D.int).all (isIn lo hi) = true ↔ ∀ x ∈ l, lo ≤ x ∧ x ≤ hi
  | [] => by simp
  | a :: l => by
    rw [List.map_cons, List.all_cons, Bool.and_eq_true, all_isIn]
    simp [isIn]
theorem ds_iff {l : List Int} : areDs (.tup (l.map .int)) = true ↔ DsI l := by
  rw [ds_at, Bool.and_eq_true]
  unfold areIn
  rw [Bool.and_eq_true, Bool.and_eq_true, decide_eq_true_eq, decide_eq_true_eq, all_isIn, List.length_map]
  constructor
  · rintro ⟨⟨⟨h1, h2⟩, h3⟩, h4⟩
    refine ⟨fun z => ?_, by omega, h3, asc_pw h4⟩
    rw [z] at h1
    simp at h1
  · intro h
    have h1 := h.le
    have h2 : 0 < l.length := List.length_pos_iff.mpr h.ne
    exact ⟨⟨⟨by omega, by omega⟩, h.bd⟩, pw_asc h.asc⟩
theorem ds_ints {v : D} (h : areDs v = true) : ∃ l : List Int, v = .tup (l.map .int) ∧ DsI l := by
  cases v with
  | tup xs =>
    by_cases hi : areIn 1 8 1 30 xs = true
    · obtain ⟨l, e, hl, k1, k2⟩ := areIn_ints hi
      subst e
      exact ⟨l, rfl, ds_iff.mp h⟩
    · have hf : areIn 1 8 1 30 xs = false := by simpa using hi
      rw [ds_no hf] at h
      cases h
  | _ => cases h
/-- an item that may be a pair -/
def EV (x : D) : Prop := ∃ l : List D, x = .tup l ∧ l.length ≤ 100 ∧ ∀ y ∈ l, (∃ i, y = .int i) ∨ ∃ b, y = .bl b
/-- a value that may be pairs -/
def VV (v : D) : Prop := v.isv = true ∧ ∀ xs, v = .tup xs → xs.length ≤ 1000 ∧ ∀ x ∈ xs, EV x
theorem EV_isv {x : D} (h : EV x) : x.isv = true := by
  obtain ⟨l, rfl, _⟩ := h
  rfl
theorem IV_isv {y : D} (h : (∃ i, y = .int i) ∨ ∃ b, y = .bl b) : y.isv = true := by
  rcases h with ⟨i, rfl⟩ | ⟨b, rfl⟩ <;> rfl
abbrev s_in_order : Stmt := topS 21
abbrev N_in_order : List Str := ["pairs"]
theorem sc_in_order : FnScope N_in_order ["pairs"] (defScope s_in_order) := ⟨rfl, rfl, rfl, by decide +kernel, rfl, by decide +kernel, by decide +kernel⟩
theorem b_in_order (kV doc pm : Value) (an : Option Addr) (cdv ct : Value) (us : List Value) (hl : us.length = (["pairs"] : List Str).length) : bindArgs (PySem.W.fnOf "in_order" "in_order" (defArgs s_in_order) (defBody s_in_order) (defScope s_in_order) .none kV doc pm an cdv ct) ⟨us, []⟩ = pure ((["pairs"] : List Str).zip us) := match us, hl with | [_], _ => rfl
def m_in_order : MT := mt1 fun a n Q _ => ∃ ps : List PI, a = .tup (ps.map DL.prD) ∧ ps.length ≤ 1000 ∧ Q (.tup ((sortK ps).map DL.prD)) n
theorem ok_in_order {f : Addr} (F : FunL K mg base T "in_order" s_in_order f) (hm : mg "in_order" = some (.ref f)) (B : Bi mg)    : CalD P w K mg base T CX0 3 "in_order" s_in_order ["pairs"] m_in_order := by
  refine okDL F hm sc_in_order ar1 (fun cdv A outer s G H n E ED hr LA => ⟨_, (pdss_one (pds_ret (pd_callTy cd_tuple (by rfl) B.tuple (by decide +kernel) (pda_cons (pd_sortedKeyL LA (by rfl) B.sorted (hr.mono (by decide)) ⟨rfl, rfl, rfl, by decide +kernel, by decide +kernel, rfl, by decide⟩ (pdv 0)) pda_nil)))), fun ds Qd hl h => ?_⟩)
  obtain ⟨a, rfl, ps, rfl, hz, hQ⟩ := h
  walk_at "dl"
  exact ⟨ps, .inl rfl, by omega, hQ⟩
def arePr (x : D) : Bool := match x with
  | .tup l => areIn 2 2 0 100 l
  | _ => false
theorem pr_of {x : D} (h : arePr x = true) : ∃ p : PI, x = DL.prD p ∧ 0 ≤ p.1 ∧ p.1 ≤ 100 ∧ 0 ≤ p.2 ∧ p.2 ≤ 100 := by
  cases x with
  | tup l =>
    obtain ⟨v, e, hv, k1, k2⟩ := areIn_ints (h : areIn 2 2 0 100 l = true)
    subst e
    match v, k1, k2, hv with
    | [a, b], _, _, hv =>
      obtain ⟨a1, a2⟩ := hv a (by simp)
      obtain ⟨b1, b2⟩ := hv b (by simp)
      exact ⟨(a, b), rfl, a1, a2, b1, b2⟩
    | [], k1, _, _ => simp at k1
    | [a], k1, _, _ => simp at k1
    | a :: b :: c :: r, _, k2, _ => simp only [List.length_cons] at k2; omega
  | _ => cases h
theorem pr_is {p : PI} (h : 0 ≤ p.1 ∧ p.1 ≤ 100 ∧ 0 ≤ p.2 ∧ p.2 ≤ 100) : arePr (DL.prD p) = true := by
  show areIn 2 2 0 100 [.int p.1, .int p.2] = true
  unfold areIn
  simp [isIn, h]
theorem prs_of : ∀ {xs : List D}, xs.all arePr = true → ∃ ps : List PI, xs = ps.map DL.prD ∧ ∀ p ∈ ps, 0 ≤ p.1 ∧ p.1 ≤ 100 ∧ 0 ≤ p.2 ∧ p.2 ≤ 100
  | [], _ => ⟨[], rfl, fun x hx => absurd hx List.not_mem_nil⟩
  | x :: xs, h => by
    rw [List.all_cons, Bool.and_eq_true] at h
    obtain ⟨p, e, hp⟩ := pr_of h.1
    obtain ⟨ps, e2, hps⟩ := prs_of h.2
    refine ⟨p :: ps, by rw [e, e2]; rfl, fun q hq => ?_⟩
    rcases List.mem_cons.mp hq with z | z
    · rw [z]; exact hp
    · exact hps q z
theorem prD_inj : ∀ {a b : List PI}, a.map DL.prD = b.map DL.prD → a = b
  | [], [], _ => rfl
  | [], _ :: _, h => by cases h
  | _ :: _, [], h => by cases h
  | x :: a, y :: b, h => by
    rw [List.map_cons, List.map_cons] at h
    injection h with h1 h2
    obtain ⟨x1, x2⟩ := x
    obtain ⟨y1, y2⟩ := y
    have e : D.tup [D.int x1, D.int x2] = D.tup [D.int y1, D.int y2] := h1
    injection e with e
    injection e with e1 e
    injection e with e2 e
    injection e1 with e1
    injection e2 with e2
    rw [prD_inj h2, e1, e2]
def PrV (ds : List Int) (v : D) : Prop := ∃ ps : List PI, v = .tup (ps.map DL.prD) ∧ PairsOk ds ps
theorem zip_prs : ∀ (ps : List PI) (ds : List Int), zipD (ps.map DL.prD) (ds.map .int) = (ps.zip ds).map fun q => .tup [DL.prD q.1, .int q.2]
  | [], _ => rfl
  | _ :: _, [] => rfl
  | p :: ps, d :: ds => by
    show (D.tup [DL.prD p, .int d]) :: zipD (ps.map DL.prD) (ds.map .int) = _
    rw [zip_prs ps ds]
    rfl
theorem zip_all : ∀ {ps : List PI} {ds : List Int}, ps.length = ds.length → (((ps.zip ds).all fun q => decide (q.1.2 - q.1.1 = q.2)) = true ↔ dfI ps = ds)
  | [], [], _ => by simp [dfI]
  | [], _ :: _, h => by cases h
  | _ :: _, [], h => by cases h
  | p :: ps, d :: ds, h => by
    show ((decide (p.2 - p.1 = d) && (ps.zip ds).all fun q => decide (q.1.2 - q.1.1 = q.2)) = true) ↔ (p.2 - p.1) :: dfI ps = d :: ds
    rw [Bool.and_eq_true, decide_eq_true_eq, zip_all (by simpa using h), List.cons.injEq]
theorem flat_prs : ∀ ps : List PI, (ps.map fun p => [D.int p.1, D.int p.2]).flatten = (plcI ps).map .int
  | [] => rfl
  | p :: ps => by
    rw [List.map_cons, List.flatten_cons, flat_prs ps]
    rfl
/-- items told apart by == -/
def EqI {α : Type} [DecidableEq α] (c : α → D) : Prop := ∀ a b, deq (c a) (c b) = decide (a = b)
theorem eqv_all {α : Type} [DecidableEq α] {c : α → D} (h : EqI c) : ∀ a b : List α, PyData.eqvAll (D.pys (a.map c)) (D.pys (b.map c)) = decide (a = b)
  | [], [] => by simp [D.pys, PyData.eqvAll]
  | [], y :: b => by simp [D.pys, PyData.eqvAll]
  | x :: a, [] => by simp [D.pys, PyData.eqvAll]
  | x :: a, y :: b => by
    have h1 := h x y
    unfold deq at h1
    rw [List.map_cons, List.map_cons, D.pys, D.pys, PyData.eqvAll, eqv_all h a b, h1]
    rw [Bool.eq_iff_iff]
    simp
theorem EqI.tup {α : Type} [DecidableEq α] {c : α → D} (h : EqI c) : EqI (fun l : List α => D.tup (l.map c)) := fun a b => by
  unfold deq
  rw [D.py, D.py, PyData.eqv]
  exact eqv_all h a b
theorem EqI.lst {α : Type} [DecidableEq α] {c : α → D} (h : EqI c) : EqI (fun l : List α => D.lst (l.map c)) := fun a b => by
  unfold deq
  rw [D.py, D.py, PyData.eqv]
  exact eqv_all h a b
theorem EqI.int : EqI D.int := fun a b => deq_int
theorem EqI.pr : EqI DL.prD := fun a b => by
  have h := (EqI.int).tup [a.1, a.2] [b.1, b.2]
  have e : deq (DL.prD a) (DL.prD b) = decide ([a.1, a.2] = [b.1, b.2]) := h
  rw [e]
  apply decide_eq_decide.mpr
  simp [Prod.ext_iff]
theorem Ok.pr (p : PI) : Ok 1 (DL.prD p) := Ok.tupI [p.1, p.2]
theorem Ok.prs {l : List PI} : Ok 2 (.tup (l.map DL.prD)) := Ok.tup fun d hd => by
  obtain ⟨p, _, rfl⟩ := List.mem_map.mp hd
  exact Ok.pr p
theorem w_eqP {a b : List PI} : gEq (.tup (a.map DL.prD)) (.tup (b.map DL.prD)) = some (.bl (decide (a = b))) := by
  rw [w_eqO Ok.prs Ok.prs (by decide) (by decide) rfl]
  have := (EqI.pr).tup a b
  dsimp only at this
  rw [this]
abbrev s_are_pairs : Stmt := topS 24
abbrev N_are_pairs : List Str := ["distances", "value", "places", "pair", "distance", "place"]
theorem sc_are_pairs : FnScope N_are_pairs ["distances", "value"] (defScope s_are_pairs) := ⟨rfl, rfl, rfl, by decide +kernel, rfl, by decide +kernel, by decide +kernel⟩
theorem b_are_pairs (kV doc pm : Value) (an : Option Addr) (cdv ct : Value) (us : List Value) (hl : us.length = (["distances", "value"] : List Str).length) : bindArgs (PySem.W.fnOf "are_pairs" "are_pairs" (defArgs s_are_pairs) (defBody s_are_pairs) (defScope s_are_pairs) .none kV doc pm an cdv ct) ⟨us, []⟩ = pure ((["distances", "value"] : List Str).zip us) := match us, hl with | [_, _], _ => rfl
def m_are_pairs : MT := mt2 fun a v n Q _ => ∃ ds : List Int, a = .tup (ds.map .int) ∧ ds.length ≤ 1000 ∧ VV v ∧ ∀ b : Bool, (b = true ↔ PrV ds v) → Q (.bl b) n
theorem ok_are_pairs {f : Addr} {fd : FuncData} (F : Fun K "are_pairs" "are_pairs" s_are_pairs f fd) (hm : mg "are_pairs" = some (.ref f)) (B : Bi mg) (K_MOST_LENGTH : ∃ t, mg "MOST_LENGTH" = some (.int 100 t)) (C_are_in : CalD P w K mg base T CX0 2 "are_in" s_are_in ["value", "least", "most", "low", "high"] m_are_in) (C_in_order : CalD P w K mg base T CX0 3 "in_order" s_in_order ["pairs"] m_in_order)  : CalD P w K mg base T CX0 4 "are_pairs" s_are_pairs ["distances", "value"] m_are_pairs := by
  refine okD F hm sc_are_pairs ar2 (fun cdv A outer s G H n E ED hr => ⟨_, (pdss_cons (pds_if (pdw_pt (pdw_or (pdt_not (pdt_val (pd_callB cd_isi (by rfl) B.isinstance (by decide +kernel) (pda_cons (pdv 1) (pda_cons (pd_ty (t := "tuple") (by rfl) B.tuple (by decide +kernel)) pda_nil))))) (pdw_or1 (pdt_cmp (od_ne (hu64 hr)) (pd_callB cd_len (by rfl) B.len (by decide +kernel) (pda_cons (pdv 1) pda_nil)) (pd_callB cd_len (by rfl) B.len (by decide +kernel) (pda_cons (pdv 0) pda_nil)) (nomark _))))) (pdss_one (pds_ret pd_bl)) pdss_nil)
      (pdss_cons (pds_if (pdt_not (pdt_val (pd_callB (cd_all rfl) (by rfl) B.all (by decide +kernel) (pda_cons (pd_lc rfl sc_are_pairs.nd (pdi_tup (pdv 1)) (blkOk_by (own := [("pair", 3)]) (N := N_are_pairs) (sc := defScope s_are_pairs) (by decide +kernel)) (fun _ _ _ _ _ => pg_name (i := 3) sc_are_pairs.nd rfl (by first | exact .inl rfl | exact .inr rfl)) (fun _ _ _ _ _ => pdts_nil) (fun _ _ _ _ _ => (pd_callZ C_are_in lk0 (hr.mono (by decide)) (by rfl) b_are_in (pda_cons (pdv 3) (pda_cons pd_int (pda_cons pd_int (pda_cons pd_int (pda_cons (pd_kint K_MOST_LENGTH (by rfl)) pda_nil)))))))) pda_nil)))) (pdss_one (pds_ret pd_bl)) pdss_nil)
      (pdss_cons (pds_if (pdt_not (pdt_val (pd_callB (cd_all rfl) (by rfl) B.all (by decide +kernel) (pda_cons (pd_lcP rfl sc_are_pairs.nd (pdi_zipT (by rfl) B.zip (pda_cons (pdv 1) (pda_cons (pdv 0) pda_nil))) (blkOk_by (own := [("pair", 3), ("distance", 4)]) (N := N_are_pairs) (sc := defScope s_are_pairs) (by decide +kernel)) (fun _ _ _ _ _ => pg_tup rfl (pgs_cons (pg_name (i := 3) sc_are_pairs.nd rfl (by first | exact .inl rfl | exact .inr rfl)) (pgs_cons (pg_name (i := 4) sc_are_pairs.nd rfl (by first | exact .inl rfl | exact .inr rfl)) pgs_nil))) (fun _ _ _ _ _ => pdts_nil) (fun _ _ _ _ _ => (pd_cmp (od_eq (hu64 hr)) (pd_op od_sub (pd_ix (pdv 3) pd_int) (pd_ix (pdv 3) pd_int)) (pdv 4) (nomark _)))) pda_nil)))) (pdss_one (pds_ret pd_bl)) pdss_nil)
      (pdss_cons (pds_flat (k := 2) (iv := 1) (ia := 3) (ie := 5) rfl sc_are_pairs.nd rfl rfl (sw_true rfl rfl rfl (by decide +kernel)) (pe_var (i := 1) rfl (by first | exact Or.inl rfl | exact Or.inr (Or.inl rfl) | exact Or.inr (Or.inr rfl))) (blkOk_by (own := [("pair", 3), ("place", 5)]) (N := N_are_pairs) (sc := defScope s_are_pairs) (by decide +kernel)) (fun _ _ _ _ _ => pg_name (i := 3) sc_are_pairs.nd rfl (by first | exact .inl rfl | exact .inr rfl)) (fun _ _ _ _ _ => pe_var (i := 3) rfl (by first | exact Or.inl rfl | exact Or.inr (Or.inl rfl) | exact Or.inr (Or.inr rfl))) (fun _ _ _ _ _ => pg_name (i := 5) sc_are_pairs.nd rfl (by first | exact .inl rfl | exact .inr rfl)) (fun _ _ _ _ _ => pe_var (i := 5) rfl (by first | exact Or.inl rfl | exact Or.inr (Or.inl rfl) | exact Or.inr (Or.inr rfl))) (by decide) (by exact Nat.le_of_ble_eq_true rfl) (by exact Nat.le_of_ble_eq_true rfl))
      (pdss_one (pds_ret (pd_and (pd_cmp (od_eq (hu64 hr)) (pd_lenSet (by rfl) B.len (by rfl) B.set (pdv 2)) (pd_callB cd_len (by rfl) B.len (by decide +kernel) (pda_cons (pdv 2) pda_nil)) (nomark _)) (pd_one (pd_cmp (od_eq (hu64 hr)) (pd_callZ C_in_order lk0 (hr.mono (by decide)) (by rfl) b_in_order (pda_cons (pdv 1) pda_nil)) (pdv 1) (nomark _)))))))))), fun ds Qd hl h => ?_⟩)
  obtain ⟨a, v, rfl, ds, rfl, hz, ⟨hv, hx⟩, hQ⟩ := h
  walk_at "dl"
  rw [w_isTup hv]
  by_cases ht : ∃ xs, v = .tup xs
  · obtain ⟨xs, rfl⟩ := ht
    obtain ⟨hl2, hx⟩ := hx xs rfl
    rw [show D.isTup (.tup xs) = true from rfl]
    walk_at "dl"
    by_cases hlen : xs.length = ds.length
    · rw [if_neg (by simp [hlen])]
      refine comp_spec (fun x => some (.bl (arePr x))) xs [] (fun x hxm => ⟨_, rfl, fun K hK => ?_⟩) (by simp; omega) ?_
      · obtain ⟨l, rfl, hl3, hy⟩ := hx x hxm
        walk_at "dl"
        refine ⟨_, _, _, _, _, rfl, rfl, _, _, _, _, rfl, rfl, rfl, rfl, fun hn _ => absurd rfl (hn l), fun zs e => ?_⟩
        injection e with e
        subst e
        exact ⟨fun y hym => IV_isv (hy y hym), by omega, fun _ => hK⟩
      · rw [fm_map, List.nil_append]
        have e : (xs.map fun x => D.bl (arePr x)) = (xs.map arePr).map .bl := by rw [List.map_map]; rfl
        rw [e, w_all, w_some, List.all_map]
        have e3 : (xs.all (id ∘ arePr)) = xs.all arePr := rfl
        walk_at "dl"
        by_cases hall : xs.all arePr = true
        · obtain ⟨ps, e4, hps⟩ := prs_of hall
          subst e4
          rw [e3, hall]
          walk_at "dl"
          refine ⟨_, _, rfl, ?_⟩
          rw [zip_prs]
          have hlen2 : ps.length = ds.length := by simpa using hlen
          refine comp_on (fun q : PI × Int => D.tup [DL.prD q.1, .int q.2]) (fun q => some (.bl (decide (q.1.2 - q.1.1 = q.2)))) _ [] (fun q hq => ⟨_, rfl, fun K hK => ?_⟩) (by simp; omega) ?_
          · simp only [DL.prD]
            walk_at "dl"
            refine ⟨_, rfl, _, rfl, _, w_g2T, _, w_eqI, ?_⟩
            exact hK
          · rw [fm_map, List.nil_append]
            have e5 : ((ps.zip ds).map fun q => D.bl (decide (q.1.2 - q.1.1 = q.2))) = ((ps.zip ds).map fun q => decide (q.1.2 - q.1.1 = q.2)).map .bl := by rw [List.map_map]; rfl
            rw [e5, w_all, w_some, List.all_map]
            have e6 : ((ps.zip ds).all (id ∘ fun q => decide (q.1.2 - q.1.1 = q.2))) = (ps.zip ds).all fun q => decide (q.1.2 - q.1.1 = q.2) := rfl
            have hza := zip_all hlen2
            by_cases hdf : dfI ps = ds
            · rw [e6, hza.mpr hdf]
              walk_at "dl"
              intro hN
              unfold dFlat
              refine ⟨ps.map fun p => [D.int p.1, D.int p.2], by rw [List.map_map]; rfl, by simp [ownB], ?_, ?_⟩
              · rw [flat_prs, List.length_map, plcI_len]
                rw [List.length_map] at hl2
                omega
              · rw [flat_prs]
                walk_at "dl"
                refine ⟨_, rfl, by rw [plcI_len]; rw [List.length_map] at hl2; omega, ?_⟩
                by_cases hnd : (plcI ps).Nodup
                · rw [if_pos (decide_eq_true (by rw [(dst_iff _).mpr hnd, List.length_map]))]
                  refine ⟨_, rfl, ps, rfl, by rw [List.length_map] at hl2; omega, fun _ => ⟨_, w_eqP, hQ _ ⟨fun z => ?_, ?_⟩⟩⟩
                  · exact ⟨ps, rfl, hdf, hps, hnd, of_decide_eq_true z⟩
                  · rintro ⟨ps', e, hp⟩
                    injection e with e
                    rw [← prD_inj e] at hp
                    exact decide_eq_true hp.so
                · rw [if_neg (fun z => hnd ((dst_iff _).mp (by
                    have := of_decide_eq_true z
                    rw [List.length_map] at this
                    omega)))]
                  refine hQ false ⟨fun z => absurd z (by decide), fun ⟨ps', e, hp⟩ => ?_⟩
                  injection e with e
                  rw [← prD_inj e] at hp
                  exact absurd hp.nd hnd
            · rw [e6, show ((ps.zip ds).all fun q => decide (q.1.2 - q.1.1 = q.2)) = false by
                rw [Bool.eq_false_iff]
                exact fun z => hdf (hza.mp z)]
              walk_at "dl"
              refine hQ false ⟨fun z => absurd z (by decide), fun ⟨ps', e, hp⟩ => ?_⟩
              injection e with e
              rw [← prD_inj e] at hp
              exact absurd hp.df hdf
        · rw [e3, show xs.all arePr = false by simpa using hall]
          walk_at "dl"
          refine hQ false ⟨fun z => absurd z (by decide), fun ⟨ps', e, hp⟩ => ?_⟩
          injection e with e
          exfalso
          apply hall
          rw [e, List.all_eq_true]
          intro x hxm
          obtain ⟨p, hpm, e7⟩ := List.mem_map.mp hxm
          rw [← e7]
          exact pr_is (hp.bd p hpm)
    · rw [if_pos (by simp; omega)]
      refine hQ false ⟨fun z => absurd z (by decide), fun ⟨ps, e, hp⟩ => ?_⟩
      injection e with e
      exfalso
      have h1 := hp.df
      apply hlen
      rw [e, ← h1]
      simp [dfI]
  · rw [show v.isTup = false by cases v <;> first | rfl | exact absurd ⟨_, rfl⟩ ht]
    walk_at "dl"
    exact hQ false ⟨fun z => absurd z (by decide), fun ⟨ps, e, _⟩ => absurd ⟨_, e⟩ ht⟩
theorem rgD_nat (n : Nat) : rgD 0 n = (List.range n).map iD := by
  unfold rgD
  apply List.map_congr_left
  intro i _
  show D.int (0 + (i : Int)) = D.int (i : Int)
  rw [Int.zero_add]
theorem ds_nat {l : List Int} (h : DsI l) : ∃ ds : List Nat, l = ds.map fun n : Nat => (n : Int) := by
  refine ⟨l.map Int.toNat, ?_⟩
  rw [List.map_map]
  refine ((List.map_congr_left fun x hx => ?_).trans (List.map_id' l)).symm
  have := h.bd x hx
  show ((x.toNat : Nat) : Int) = x
  omega
theorem good_ds {ds hs : List Nat} (h : DsI (ds.map fun n : Nat => (n : Int))) (hh : hs.Nodup) (hl : ∀ x ∈ hs, x < 2 * ds.length + hs.length) (h8 : hs.length ≤ 8) : GoodI ds hs := by
  have h1 := h.le
  rw [List.length_map] at h1
  refine ⟨h1, bits_tkb hh, hh, hl, by omega, rfl, ?_, fun d hd => ?_, by omega⟩
  · have := h.asc
    rw [List.pairwise_map] at this
    exact this.imp fun {a b} z => by omega
  · have := h.bd d (List.mem_map.mpr ⟨d, hd, rfl⟩)
    omega
def areHs (L : Int) (v : D) : Bool := match v with
  | .tup xs => areIn 0 8 0 (L - 1) xs && match intsOf xs with
    | some l => ascB true l
    | none => false
  | _ => false
theorem hs_at {L : Int} {l : List Int} : areHs L (.tup (l.map .int)) = (areIn 0 8 0 (L - 1) (l.map .int) && ascB true l) := by
  show (areIn 0 8 0 (L - 1) (l.map .int) && match intsOf (l.map .int) with | some l => ascB true l | none => false) = _
  rw [intsOf_map]
/-- the number that a row of some distances and of holes has -/
def lenH (ds : List Int) (v : D) : Int := match v with
  | .tup xs => 2 * (ds.length : Int) + xs.length
  | _ => 0
abbrev s_are_holes : Stmt := topS 14
abbrev N_are_holes : List Str := ["distances", "value", "one", "two"]
theorem sc_are_holes : FnScope N_are_holes ["distances", "value"] (defScope s_are_holes) := ⟨rfl, rfl, rfl, by decide +kernel, rfl, by decide +kernel, by decide +kernel⟩
theorem b_are_holes (kV doc pm : Value) (an : Option Addr) (cdv ct : Value) (us : List Value) (hl : us.length = (["distances", "value"] : List Str).length) : bindArgs (PySem.W.fnOf "are_holes" "are_holes" (defArgs s_are_holes) (defBody s_are_holes) (defScope s_are_holes) .none kV doc pm an cdv ct) ⟨us, []⟩ = pure ((["distances", "value"] : List Str).zip us) := match us, hl with | [_, _], _ => rfl
def m_are_holes : MT := mt2 fun a v n Q _ => ∃ ds : List Int, a = .tup (ds.map .int) ∧ ds.length ≤ 1000 ∧ vOk v ∧ Q (.bl (areHs (lenH ds v) v)) n
theorem ok_are_holes {f : Addr} {fd : FuncData} (F : Fun K "are_holes" "are_holes" s_are_holes f fd) (hm : mg "are_holes" = some (.ref f)) (B : Bi mg) (K_MOST_HOLES : ∃ t, mg "MOST_HOLES" = some (.int 8 t)) (C_are_in : CalD P w K mg base T CX0 2 "are_in" s_are_in ["value", "least", "most", "low", "high"] m_are_in) (C_length_of : CalD P w K mg base T CX0 1 "length_of" s_length_of ["distances", "holes"] m_length_of)  : CalD P w K mg base T CX0 3 "are_holes" s_are_holes ["distances", "value"] m_are_holes := by
  refine okD F hm sc_are_holes ar2 (fun cdv A outer s G H n E ED hr => ⟨_, (pdss_cons (pds_if (pdw_pt (pdw_or (pdt_not (pdt_val (pd_callB cd_isi (by rfl) B.isinstance (by decide +kernel) (pda_cons (pdv 1) (pda_cons (pd_ty (t := "tuple") (by rfl) B.tuple (by decide +kernel)) pda_nil))))) (pdw_or1 (pdt_cmp od_gt (pd_callB cd_len (by rfl) B.len (by decide +kernel) (pda_cons (pdv 1) pda_nil)) (pd_kint K_MOST_HOLES (by rfl)) (nomark _))))) (pdss_one (pds_ret pd_bl)) pdss_nil)
      (pdss_cons (pds_if (pdt_not (pdt_val (pd_callZ C_are_in lk0 (hr.mono (by decide)) (by rfl) b_are_in (pda_cons (pdv 1) (pda_cons pd_int (pda_cons (pd_kint K_MOST_HOLES (by rfl)) (pda_cons pd_int (pda_cons (pd_op od_sub (pd_callZ C_length_of lk0 (hr.mono (by decide)) (by rfl) b_length_of (pda_cons (pdv 0) (pda_cons (pdv 1) pda_nil))) pd_int) pda_nil)))))))) (pdss_one (pds_ret pd_bl)) pdss_nil)
      (pdss_one (pds_ret (pd_callB (cd_all rfl) (by rfl) B.all (by decide +kernel) (pda_cons (pd_lcP rfl sc_are_holes.nd (pdi_zipT (by rfl) B.zip (pda_cons (pdv 1) (pda_cons (pd_slice (pdv 1) (pdo_some pd_int) pdo_none) pda_nil))) (blkOk_by (own := [("one", 2), ("two", 3)]) (N := N_are_holes) (sc := defScope s_are_holes) (by decide +kernel)) (fun _ _ _ _ _ => pg_tup rfl (pgs_cons (pg_name (i := 2) sc_are_holes.nd rfl (by first | exact .inl rfl | exact .inr rfl)) (pgs_cons (pg_name (i := 3) sc_are_holes.nd rfl (by first | exact .inl rfl | exact .inr rfl)) pgs_nil))) (fun _ _ _ _ _ => pdts_nil) (fun _ _ _ _ _ => (pd_cmp od_lt (pdv 2) (pdv 3) (nomark _)))) pda_nil)))))), fun ds Qd hl h => ?_⟩)
  obtain ⟨a, v, rfl, ds, rfl, hz, ⟨hv, hx⟩, hQ⟩ := h
  walk_at "dl"
  rw [w_isTup hv]
  by_cases ht : ∃ xs, v = .tup xs
  · obtain ⟨xs, rfl⟩ := ht
    obtain ⟨hx, hl2⟩ := hx xs rfl
    rw [show D.isTup (.tup xs) = true from rfl]
    walk_at "dl"
    have eL : lenH ds (.tup xs) = 2 * (ds.length : Int) + xs.length := rfl
    rw [eL] at hQ
    by_cases h8 : 8 < (xs.length : Int)
    · rw [if_pos (decide_eq_true h8)]
      have e : areHs (2 * (ds.length : Int) + xs.length) (.tup xs) = false := by
        show (areIn 0 8 0 _ xs && _) = false
        unfold areIn
        rw [show decide ((xs.length : Int) ≤ 8) = false from decide_eq_false (by omega)]
        simp
      rw [e] at hQ
      exact hQ
    · rw [if_neg (by simpa using h8)]
      refine ⟨_, _, rfl, _, _, rfl, rfl, fun _ => ⟨_, w_g2T, ?_⟩⟩
      rw [List.length_map]
      refine ⟨_, _, _, _, _, rfl, rfl, _, _, _, _, rfl, rfl, rfl, rfl, fun hn _ => absurd rfl (hn xs), fun ys e => ?_⟩
      injection e with e
      subst e
      refine ⟨hx, by omega, fun _ => ⟨_, rfl, ?_⟩⟩
      by_cases hi : areIn 0 8 0 (2 * (ds.length : Int) + xs.length - 1) xs = true
      · obtain ⟨l, e, hl, k1, k2⟩ := areIn_ints hi
        subst e
        rw [hs_at, hi, Bool.true_and] at hQ
        rw [hi]
        walk_at "dl"
        refine ⟨_, _, rfl, ?_⟩
        rw [cut1, ← List.map_drop, zip_ints]
        refine comp_on DL.prD (fun p => some (.bl (decide (p.1 < p.2)))) _ [] (fun p hp => ⟨_, rfl, fun K hK => ?_⟩) (by simp; omega) ?_
        · walk_at "dl"
          exact hK
        · rw [fm_map, List.nil_append]
          have e : ((l.zip (l.drop 1)).map fun p => D.bl (decide (p.1 < p.2))) = ((l.zip (l.drop 1)).map fun p => decide (p.1 < p.2)).map .bl := by rw [List.map_map]; rfl
          rw [e, w_all, w_some]
          have z := asc_zip true l
          simp only [if_true] at z
          rw [← z] at hQ
          simpa [List.all_map, Function.comp_def] using hQ
      · have hf : areIn 0 8 0 (2 * (ds.length : Int) + xs.length - 1) xs = false := by simpa using hi
        have e : areHs (2 * (ds.length : Int) + xs.length) (.tup xs) = false := by
          show (areIn 0 8 0 _ xs && _) = false
          rw [hf, Bool.false_and]
        rw [e] at hQ
        rw [hf]
        walk_at "dl"
        exact hQ
  · rw [show v.isTup = false by cases v <;> first | rfl | exact absurd ⟨_, rfl⟩ ht]
    walk_at "dl"
    have e : areHs (lenH ds v) v = false := by
      cases v <;> first | rfl | exact absurd ⟨_, rfl⟩ ht
    rw [e] at hQ
    exact hQ
end
end K1
set_option maxHeartbeats 1000000
namespace K1
open PySem PySem.Spec PyProof.Rows L2 DL KP
local macro_rules | `(tactic| walk_at "dl") => `(tactic| simp only [dSeq, dRet, dDice, dSortI, dMaxI, dLstRg, dLstRg1, dDst, dfDictT, dDGetN, dDPutN, dDisp, dSortKey, dSort3, dAugA, dStar, dZipT, dnAt, gdTrip, w_all3, dPopAt, dAppend, otAt, dCallG, noOwn, gdPair, dAsg, dIfS, dVar, dC, dOp, dB, dChain, dAnd, dOr, dNot, dAndV, dOrV, dNotV, dCall, dNil, dCons, dFn, dIf, dTup, dLst, dDrop, dNext, dNeg, dSl, dNoPart, dPart, dRaise, dYes, dTupI, dLstI, dStrI, dRg1, dRg2, dEnumL, dEnumT, dRevL, dRevT, dLc, setsD, wipeD, dPar, dPar3, dOwn, dfRep, dfLst, dfList, dfDict, dParFF, dParFP, dParPF, dFor, dgTup, dgCons, dgName, dgNil, dAsgG, dgSetIx, olAt, odAt, ent, froz,
  List.map_cons, List.map_nil, List.getElem?_cons_zero, List.getElem?_cons_succ, List.set_cons_zero, List.set_cons_succ, List.replicate, List.length_cons, List.length_nil, List.cons_append, List.nil_append, Nat.reduceAdd, Nat.reduceSub, Nat.reduceLeDiff,
  w_aug, decide_true, decide_false, w_iteA, w_some, w_none, w_bl, w_bl2, w_int, w_lst, w_tup, w_eq, w_mulL, w_mulR, w_mod, w_div, Int.reduceLT, Int.reduceNeg, Int.reducePow, Int.reduceAdd, Int.reduceSub, Int.reduceMul, and_self, w_cons, w_set, w_lrange, w_lrange1, w_ltup, w_llst, w_par, w_par3, w_tupL, w_tupT, w_listL, w_listT, w_all1, w_all2, w_own0, w_ownP, w_g2T, w_addI, w_addL, w_addT, w_lenT, w_lenL, w_intI, w_intB, w_eqI, w_neI, w_eqB, w_neB, w_ixT, w_ixL, w_slL, w_slT, w_keyI, w_keyS, w_ex, w_two, w_three, if_true, if_false, Bool.false_eq_true, Bool.true_eq_false, Bool.not_true, Bool.not_false, eq_self, true_and, and_true])

section
variable {P : Program} {w : World} {K : PySem.W.Frag} {mg : MG} {base : Heap} {T : TT0}







abbrev cN (ds : List Nat) : List Int := ds.map fun n : Nat => (n : Int)
theorem nats_ints (ds : List Nat) : ds.map iD = (cN ds).map .int := iD_map ds
theorem ints_inj {a b : List Int} (h : D.tup (a.map .int) = .tup (b.map .int)) : a = b := by
  injection h with h
  exact Option.some.inj (by rw [← intsOf_map, ← intsOf_map, h])
theorem nat_cast_inj {a b : List Nat} (h : D.tup (a.map iD) = .tup (b.map iD)) : a = b := by
  rw [nats_ints, nats_ints] at h
  exact nat_inj (ints_inj h)
structure HsN (ds hs : List Nat) : Prop where
  asc : hs.Pairwise (· < ·)
  lt : ∀ x ∈ hs, x < 2 * ds.length + hs.length
  le : hs.length ≤ 8
theorem HsN.nd {ds hs : List Nat} (h : HsN ds hs) : hs.Nodup := h.asc.imp fun {a b} z => Nat.ne_of_lt z
theorem asc_lt : ∀ {l : List Int}, ascB true l = true → l.Pairwise (· < ·)
  | [], _ => List.Pairwise.nil
  | [a], _ => List.pairwise_singleton ..
  | a :: b :: r, h => by
    simp only [ascB, if_true, Bool.and_eq_true, decide_eq_true_eq] at h
    have ih := asc_lt h.2
    rw [List.pairwise_cons]
    refine ⟨fun x hx => ?_, ih⟩
    rcases List.mem_cons.mp hx with e | e
    · rw [e]; exact h.1
    · exact Int.lt_trans h.1 ((List.pairwise_cons.mp ih).1 x e)
theorem lt_asc : ∀ {l : List Int}, l.Pairwise (· < ·) → ascB true l = true
  | [], _ => rfl
  | [a], _ => rfl
  | a :: b :: r, h => by
    simp only [ascB, if_true, Bool.and_eq_true, decide_eq_true_eq]
    obtain ⟨h1, h2⟩ := List.pairwise_cons.mp h
    exact ⟨h1 b List.mem_cons_self, lt_asc h2⟩
theorem hs_iff {ds hs : List Nat} : areHs (lenH (cN ds) (.tup (hs.map iD))) (.tup (hs.map iD)) = true ↔ HsN ds hs := by
  have e : lenH (cN ds) (.tup (hs.map iD)) = 2 * (ds.length : Int) + hs.length := by
    show 2 * ((cN ds).length : Int) + ((hs.map iD).length : Int) = _
    rw [List.length_map, List.length_map]
  rw [e, nats_ints, hs_at, Bool.and_eq_true]
  unfold areIn
  rw [Bool.and_eq_true, Bool.and_eq_true, decide_eq_true_eq, decide_eq_true_eq, all_isIn, List.length_map, List.length_map]
  constructor
  · rintro ⟨⟨⟨h1, h2⟩, h3⟩, h4⟩
    refine ⟨?_, fun x hx => ?_, by omega⟩
    · have := asc_lt h4
      rw [List.pairwise_map] at this
      exact this.imp fun {a b} z => by omega
    · have := h3 x (List.mem_map.mpr ⟨x, hx, rfl⟩)
      omega
  · intro h
    have h1 := h.le
    refine ⟨⟨⟨by omega, by omega⟩, fun x hx => ?_⟩, lt_asc ?_⟩
    · obtain ⟨y, hy, rfl⟩ := List.mem_map.mp hx
      have := h.lt y hy
      omega
    · rw [List.pairwise_map]
      exact h.asc.imp fun {a b} z => by omega
theorem hs_nat {L : Int} {v : D} (h : areHs L v = true) : ∃ hs : List Nat, v = .tup (hs.map iD) := by
  cases v with
  | tup xs =>
    by_cases hi : areIn 0 8 0 (L - 1) xs = true
    · obtain ⟨l, e, hl, k1, k2⟩ := areIn_ints hi
      subst e
      refine ⟨l.map Int.toNat, ?_⟩
      rw [List.map_map]
      congr 1
      apply List.map_congr_left
      intro x hx
      have := hl x hx
      show D.int x = D.int ((x.toNat : Nat) : Int)
      congr 1
      omega
    · have hf : areIn 0 8 0 (L - 1) xs = false := by simpa using hi
      have e : areHs L (.tup xs) = false := by
        show (areIn 0 8 0 _ xs && _) = false
        rw [hf, Bool.false_and]
      rw [e] at h
      cases h
  | _ => cases h
/-- what is asked of distances and holes -/
def ArgH (a h : D) (n : Nat) (E : Exc → Nat → Prop) (Q : List Nat → List Nat → Prop) : Prop := vOk a ∧ (areDs a = false → E ("BadArgument", "name", .str "distances") n) ∧
  ∀ ds : List Nat, a = .tup (ds.map iD) → DsI (cN ds) → vOk h ∧ (areHs (lenH (cN ds) h) h = false → E ("BadArgument", "name", .str "holes") n) ∧ ∀ hs : List Nat, h = .tup (hs.map iD) → HsN ds hs → Q ds hs
theorem ArgH.imp {a h : D} {n : Nat} {E : Exc → Nat → Prop} {Q R : List Nat → List Nat → Prop} (H : ArgH a h n E Q) (f : ∀ ds hs, a = .tup (ds.map iD) → DsI (cN ds) → h = .tup (hs.map iD) → HsN ds hs → Q ds hs → R ds hs) : ArgH a h n E R :=
  ⟨H.1, H.2.1, fun ds ea hd => ⟨(H.2.2 ds ea hd).1, (H.2.2 ds ea hd).2.1, fun hs eh hh => f ds hs ea hd eh hh ((H.2.2 ds ea hd).2.2 hs eh hh)⟩⟩
abbrev s_demand_holes : Stmt := topS 15
abbrev N_demand_holes : List Str := ["distances", "holes"]
theorem sc_demand_holes : FnScope N_demand_holes ["distances", "holes"] (defScope s_demand_holes) := ⟨rfl, rfl, rfl, by decide +kernel, rfl, by decide +kernel, by decide +kernel⟩
theorem b_demand_holes (kV doc pm : Value) (an : Option Addr) (cdv ct : Value) (us : List Value) (hl : us.length = (["distances", "holes"] : List Str).length) : bindArgs (PySem.W.fnOf "demand_holes" "demand_holes" (defArgs s_demand_holes) (defBody s_demand_holes) (defScope s_demand_holes) .none kV doc pm an cdv ct) ⟨us, []⟩ = pure ((["distances", "holes"] : List Str).zip us) := match us, hl with | [_, _], _ => rfl
def m_demand_holes : MT := mt2 fun a h n Q E => ArgH a h n E fun _ _ => Q .non n
theorem ok_demand_holes {f : Addr} {fd : FuncData} (F : Fun K "demand_holes" "demand_holes" s_demand_holes f fd) (hm : mg "demand_holes" = some (.ref f)) (B : Bi mg)  (C_demand : CalD P w K mg base T (L2.CX P w) 3 "demand" s_demand ["is_good", "name"] m_demand) (C_are_distances : CalD P w K mg base T CX0 3 "are_distances" s_are_distances ["value"] m_are_distances) (C_are_holes : CalD P w K mg base T CX0 3 "are_holes" s_are_holes ["distances", "value"] m_are_holes)  : CalD P w K mg base T (L2.CX P w) 4 "demand_holes" s_demand_holes ["distances", "holes"] m_demand_holes := by
  have hx {cdv : Value} {A : Around} {outer : List Env} {s : Shared} {H : Hp} {E : XK} : Passes (L2.CX P w) (cxOf (L2.CX P w) P w K mg base N_demand_holes "demand_holes" (defScope s_demand_holes) f cdv A outer s H E) E := passes_call (takes_of rfl rfl rfl rfl) fun _ _ _ _ h => h
  refine okDX F hm sc_demand_holes ar2 (fun cdv A outer s G H n E ED hr L => ⟨_, (pdss_cons (pds_expr (pd_callZ C_demand (lkX L hx) (hr.mono (by decide)) (by rfl) b_demand (pda_cons (pd_callZ C_are_distances lk0 (hr.mono (by decide)) (by rfl) b_are_distances (pda_cons (pdv 0) pda_nil)) (pda_cons pd_str pda_nil))))
      (pdss_one (pds_expr (pd_callZ C_demand (lkX L hx) (hr.mono (by decide)) (by rfl) b_demand (pda_cons (pd_callZ C_are_holes lk0 (hr.mono (by decide)) (by rfl) b_are_holes (pda_cons (pdv 0) (pda_cons (pdv 1) pda_nil))) (pda_cons pd_str pda_nil)))))), fun ds Qd hl h => ?_⟩)
  obtain ⟨a, v, rfl, ha, hE, hQ⟩ := h
  walk_at "dl"
  refine ⟨_, rfl, ha, fun _ => ⟨_, _, rfl, areDs a, rfl, fun h1 _ => ?_, hE⟩⟩
  obtain ⟨l, e, hd⟩ := ds_ints h1
  obtain ⟨ds, e2⟩ := ds_nat hd
  subst e2
  rw [← nats_ints] at e
  subst e
  obtain ⟨hv, hE2, hQ2⟩ := hQ ds rfl hd
  have h8 := hd.le
  rw [nats_ints]
  refine ⟨_, _, rfl, cN ds, rfl, Nat.le_trans h8 (by decide), hv, fun _ => ⟨_, _, rfl, _, rfl, fun h2 _ => ?_, hE2⟩⟩
  obtain ⟨hs, e3⟩ := hs_nat h2
  subst e3
  exact hQ2 hs rfl (hs_iff.mp h2)
end
end K1
set_option maxHeartbeats 1000000
namespace K1
open PySem PySem.Spec PyProof.Rows L2 DL KP
local macro_rules | `(tactic| walk_at "dl") => `(tactic| simp only [dSeq, dRet, dDice, dSortI, dMaxI, dLstRg, dLstRg1, dDst, dfDictT, dDGetN, dDPutN, dDisp, dSortKey, dSort3, dAugA, dStar, dZipT, dnAt, gdTrip, w_all3, dPopAt, dAppend, otAt, dCallG, noOwn, gdPair, dAsg, dIfS, dVar, dC, dOp, dB, dChain, dAnd, dOr, dNot, dAndV, dOrV, dNotV, dCall, dNil, dCons, dFn, dIf, dTup, dLst, dDrop, dNext, dNeg, dSl, dNoPart, dPart, dRaise, dYes, dTupI, dLstI, dStrI, dRg1, dRg2, dEnumL, dEnumT, dRevL, dRevT, dLc, setsD, wipeD, dPar, dPar3, dOwn, dfRep, dfLst, dfList, dfDict, dParFF, dParFP, dParPF, dFor, dgTup, dgCons, dgName, dgNil, dAsgG, dgSetIx, olAt, odAt, ent, froz,
  List.map_cons, List.map_nil, List.getElem?_cons_zero, List.getElem?_cons_succ, List.set_cons_zero, List.set_cons_succ, List.replicate, List.length_cons, List.length_nil, List.cons_append, List.nil_append, Nat.reduceAdd, Nat.reduceSub, Nat.reduceLeDiff,
  w_aug, decide_true, decide_false, w_iteA, w_some, w_none, w_bl, w_bl2, w_int, w_lst, w_tup, w_eq, w_mulL, w_mulR, w_mod, w_div, Int.reduceLT, Int.reduceNeg, Int.reducePow, Int.reduceAdd, Int.reduceSub, Int.reduceMul, and_self, w_cons, w_set, w_lrange, w_lrange1, w_ltup, w_llst, w_par, w_par3, w_tupL, w_tupT, w_listL, w_listT, w_all1, w_all2, w_own0, w_ownP, w_g2T, w_addI, w_addL, w_addT, w_lenT, w_lenL, w_intI, w_intB, w_eqI, w_neI, w_eqB, w_neB, w_ixT, w_ixL, w_slL, w_slT, w_keyI, w_keyS, w_ex, w_two, w_three, if_true, if_false, Bool.false_eq_true, Bool.true_eq_false, Bool.not_true, Bool.not_false, eq_self, true_and, and_true])

section
variable {P : Program} {w : World} {K : PySem.W.Frag} {mg : MG} {base : Heap} {T : TT0}





/-- a row of the law's search -/
def vD (v : List Pr) : D := .tup (v.map nD)
def rwD2 (hs : List Nat) (v : List Pr) : D := .tup [vD v, .tup ((tkn hs v).map iD)]
theorem oa_len (L : Nat) (hs : List Nat) : ∀ ds : List Nat, (oa L hs ds).length ≤ L ^ ds.length
  | [] => by simp [oa]
  | d :: ds => by
    have ih := oa_len L hs ds
    have h : ∀ l : List (List Pr), (l.flatMap fun v => (List.range (L - d)).filterMap (oOne hs d ds v)).length ≤ l.length * L := fun l => by
      induction l with
      | nil => simp
      | cons v l ih =>
        rw [List.flatMap_cons, List.length_append, List.length_cons, Nat.add_mul]
        have : ((List.range (L - d)).filterMap (oOne hs d ds v)).length ≤ L - d := Nat.le_trans (List.length_filterMap_le ..) (by rw [List.length_range]; exact Nat.le_refl _)
        omega
    rw [List.length_cons, Nat.pow_succ]
    exact Nat.le_trans (h _) (Nat.mul_le_mul_right L ih)
theorem EqI.n : EqI nD := fun a b => by
  have h := EqI.pr ((a.1 : Int), (a.2 : Int)) ((b.1 : Int), (b.2 : Int))
  have e : deq (nD a) (nD b) = decide (((a.1 : Int), (a.2 : Int)) = ((b.1 : Int), (b.2 : Int))) := h
  rw [e]
  apply decide_eq_decide.mpr
  constructor
  · intro z
    injection z with z1 z2
    exact Prod.ext (Int.ofNat.inj z1) (Int.ofNat.inj z2)
  · intro z
    rw [z]
theorem EqI.v : EqI vD := EqI.n.tup
theorem Ok.n (p : Pr) : Ok 1 (nD p) := Ok.pr ((p.1 : Int), (p.2 : Int))
theorem Ok.v (v : List Pr) : Ok 2 (vD v) := Ok.tup fun d hd => by
  obtain ⟨p, _, rfl⟩ := List.mem_map.mp hd
  exact Ok.n p
theorem w_eqV {v : List Pr} : gEq (vD v) (.tup []) = some (.bl (decide (v = []))) := by
  show gEq (vD v) (vD []) = _
  rw [w_eqO (Ok.v v) (Ok.v []) (by decide) (by decide) rfl]
  have := EqI.v v []
  rw [this]
theorem w_inN {neg : Bool} {i : Nat} {ns : List Nat} : gInI neg (.int (i : Int)) (.tup (ns.map iD)) = some (.bl (if neg then !decide (i ∈ ns) else decide (i ∈ ns))) := by
  rw [iD_map, w_inI]
  have e : decide ((i : Int) ∈ ns.map fun n : Nat => (n : Int)) = decide (i ∈ ns) := by
    apply decide_eq_decide.mpr
    rw [List.mem_map]
    constructor
    · rintro ⟨j, h1, h2⟩
      rw [← Int.ofNat.inj h2]
      exact h1
    · exact fun h => ⟨i, h, rfl⟩
  rw [e]
theorem drop_range {n k x : Nat} {xs : List Nat} (h : x :: xs = (List.range n).drop k) : x = k ∧ k < n ∧ xs = (List.range n).drop (k + 1) := by
  have hl := congrArg List.length h
  rw [List.length_cons, List.length_drop, List.length_range] at hl
  have hk : k < n := by omega
  rw [List.drop_eq_getElem_cons (by rw [List.length_range]; exact hk), List.getElem_range] at h
  injection h with h1 h2
  exact ⟨h1, hk, h2⟩
theorem at_nat {l : List Nat} {i : Nat} {x : Nat} (h : l[i]? = some x) {j : Int} (hj : j = i) : atI (l.map iD) j = some (.int x) := by
  obtain ⟨k, _⟩ := List.getElem?_eq_some_iff.mp h
  rw [hj, atI_at (by omega) (by simp; omega), List.getElem?_map, show ((i : Int)).toNat = i by omega, h]
  rfl
theorem w_ltI {i j : Int} : g2I bTrue (fun i j => D.bl (decide (i < j))) (.int i) (.int j) = some (.bl (decide (i < j))) := rfl
def hdB (f : Nat) : List Pr → Bool
  | p :: _ => decide (f < p.1)
  | [] => false
theorem dueB_eq {hs ds : List Nat} {d f : Nat} {v : List Pr} : dueB hs d ds v f = (!decide (f ∈ tkn hs v) && !decide (f + d ∈ tkn hs v) && (decide (v = []) || decide (ds = []) || !decide (ds.head? = some d) || hdB f v)) := by
  unfold dueB
  cases v <;> rfl
theorem tkn_len (hs : List Nat) : ∀ v : List Pr, (tkn hs v).length = hs.length + 2 * v.length
  | [] => by simp [tkn]
  | p :: v => by
    rw [tkn, List.length_append, tkn_len hs v, List.length_cons]
    simp
    omega
theorem oa_vlen {L : Nat} {hs : List Nat} : ∀ {ds : List Nat} {v : List Pr}, v ∈ oa L hs ds → v.length = ds.length
  | [], v, h => by
    have : v = [] := by simpa [oa] using h
    rw [this]
    rfl
  | d :: ds, v, h => by
    obtain ⟨v', h1, f, _, _, rfl⟩ := mem_oa_cons.mp h
    rw [List.length_cons, List.length_cons, oa_vlen h1]
theorem w_conV {p : Pr} {v : List Pr} (h : v.length ≤ 1000000) : gAdd (D.tup [D.tup [D.int (p.1 : Int), D.int (p.2 : Int)]]) (vD v) = some (vD (p :: v)) := by
  unfold vD
  rw [w_addT, if_pos (by simp; omega)]
  rfl
theorem good_hs {ds hs : List Nat} (hd : DsI (cN ds)) (hh : HsN ds hs) : GoodI ds hs := good_ds hd hh.nd hh.lt hh.le
abbrev lenN (ds hs : List Nat) : Nat := 2 * ds.length + hs.length
theorem out_oa {ds hs : List Nat} (g : GoodI ds hs) : (oa (lenN ds hs) hs ds = [] ∧ outD (allR ds hs) = .tup [.int 0, .non]) ∨
    ∃ ps, sortN ps ∈ oa (lenN ds hs) hs ds ∧ (∀ p ∈ ps, p.1 ≤ p.2) ∧ outD (allR ds hs) = .tup [.int (oa (lenN ds hs) hs ds).length, .tup (ps.map nD)] := by
  rcases out_spec (k0 := (tkb hs, ds)) g.1 g.2 with ⟨h1, h2⟩ | ⟨ps, h1, h2⟩
  · exact .inl ⟨(some_iff g.2).mp h1, h2⟩
  · rw [count_eq g.2] at h2
    have hp := (paths_iff g.2).mp h1
    exact .inr ⟨ps, (oa_iff g.2.pos g.2.asc).mpr (path_fil g.2.asc hp), fun p hpm => Nat.le_of_lt (hp.up p hpm), h2⟩
theorem nD_pI (ps : List Pr) : ps.map nD = (ps.map pI).map DL.prD := by
  rw [List.map_map]
  rfl
abbrev s_fillings : Stmt := topS 22
abbrev N_fillings : List Str := ["distances", "holes"]
theorem sc_fillings : FnScope N_fillings ["distances", "holes"] (defScope s_fillings) := ⟨rfl, rfl, rfl, by decide +kernel, rfl, by decide +kernel, by decide +kernel⟩
theorem b_fillings (kV doc pm : Value) (an : Option Addr) (cdv ct : Value) (us : List Value) (hl : us.length = (["distances", "holes"] : List Str).length) : bindArgs (PySem.W.fnOf "fillings" "fillings" (defArgs s_fillings) (defBody s_fillings) (defScope s_fillings) .none kV doc pm an cdv ct) ⟨us, []⟩ = pure ((["distances", "holes"] : List Str).zip us) := match us, hl with | [_, _], _ => rfl
def m_fillings : MT := mt2 fun a h n Q E => ArgH a h n E fun ds hs => Q (.int (oa (lenN ds hs) hs ds).length) n
theorem ok_fillings {f : Addr} {fd : FuncData} (F : Fun K "fillings" "fillings" s_fillings f fd) (hm : mg "fillings" = some (.ref f)) (B : Bi mg)  (C_demand_holes : CalD P w K mg base T (L2.CX P w) 4 "demand_holes" s_demand_holes ["distances", "holes"] m_demand_holes) (C_all_fillings : CalD P w K mg base T CX0 4 "all_fillings" s_all_fillings ["distances", "holes"] m_all_fillings)  : CalD P w K mg base T (L2.CX P w) 5 "fillings" s_fillings ["distances", "holes"] m_fillings := by
  have hx {cdv : Value} {A : Around} {outer : List Env} {s : Shared} {H : Hp} {E : XK} : Passes (L2.CX P w) (cxOf (L2.CX P w) P w K mg base N_fillings "fillings" (defScope s_fillings) f cdv A outer s H E) E := passes_call (takes_of rfl rfl rfl rfl) fun _ _ _ _ h => h
  refine okDX F hm sc_fillings ar2 (fun cdv A outer s G H n E ED hr L => ⟨_, (pdss_cons (pds_expr (pd_callZ C_demand_holes (lkX L hx) (hr.mono (by decide)) (by rfl) b_demand_holes (pda_cons (pdv 0) (pda_cons (pdv 1) pda_nil))))
      (pdss_one (pds_ret (pd_ix (pd_callZ C_all_fillings lk0 (hr.mono (by decide)) (by rfl) b_all_fillings (pda_cons (pdv 0) (pda_cons (pdv 1) pda_nil))) pd_int)))), fun ds Qd hl h => ?_⟩)
  obtain ⟨a, v, rfl, hA⟩ := h
  walk_at "dl"
  refine ⟨_, _, rfl, hA.imp fun ds hs ea hd eh hh hq _ => ?_⟩
  subst ea
  subst eh
  have g := good_hs hd hh
  refine ⟨_, _, rfl, ds, hs, rfl, rfl, g, fun _ => ?_⟩
  rcases out_oa g with ⟨h1, h2⟩ | ⟨ps, h1, h2, h3⟩
  · rw [h2]
    rw [h1] at hq
    exact ⟨_, rfl, hq⟩
  · rw [h3]
    exact ⟨_, rfl, hq⟩
abbrev s_filling : Stmt := topS 23
abbrev N_filling : List Str := ["distances", "holes", "pairs"]
theorem sc_filling : FnScope N_filling ["distances", "holes"] (defScope s_filling) := ⟨rfl, rfl, rfl, by decide +kernel, rfl, by decide +kernel, by decide +kernel⟩
theorem b_filling (kV doc pm : Value) (an : Option Addr) (cdv ct : Value) (us : List Value) (hl : us.length = (["distances", "holes"] : List Str).length) : bindArgs (PySem.W.fnOf "filling" "filling" (defArgs s_filling) (defBody s_filling) (defScope s_filling) .none kV doc pm an cdv ct) ⟨us, []⟩ = pure ((["distances", "holes"] : List Str).zip us) := match us, hl with | [_, _], _ => rfl
def m_filling : MT := mt2 fun a h n Q E => ArgH a h n E fun ds hs => (oa (lenN ds hs) hs ds = [] → Q .non n) ∧ ∀ w ∈ oa (lenN ds hs) hs ds, Q (vD w) n
theorem ok_filling {f : Addr} {fd : FuncData} (F : Fun K "filling" "filling" s_filling f fd) (hm : mg "filling" = some (.ref f)) (B : Bi mg)  (C_demand_holes : CalD P w K mg base T (L2.CX P w) 4 "demand_holes" s_demand_holes ["distances", "holes"] m_demand_holes) (C_all_fillings : CalD P w K mg base T CX0 4 "all_fillings" s_all_fillings ["distances", "holes"] m_all_fillings) (C_in_order : CalD P w K mg base T CX0 3 "in_order" s_in_order ["pairs"] m_in_order)  : CalD P w K mg base T (L2.CX P w) 5 "filling" s_filling ["distances", "holes"] m_filling := by
  have hx {cdv : Value} {A : Around} {outer : List Env} {s : Shared} {H : Hp} {E : XK} : Passes (L2.CX P w) (cxOf (L2.CX P w) P w K mg base N_filling "filling" (defScope s_filling) f cdv A outer s H E) E := passes_call (takes_of rfl rfl rfl rfl) fun _ _ _ _ h => h
  refine okDX F hm sc_filling ar2 (fun cdv A outer s G H n E ED hr L => ⟨_, (pdss_cons (pds_expr (pd_callZ C_demand_holes (lkX L hx) (hr.mono (by decide)) (by rfl) b_demand_holes (pda_cons (pdv 0) (pda_cons (pdv 1) pda_nil))))
      (pdss_cons (pds_set (i := 2) sc_filling.nd rfl (.inl rfl) (pd_ix (pd_callZ C_all_fillings lk0 (hr.mono (by decide)) (by rfl) b_all_fillings (pda_cons (pdv 0) (pda_cons (pdv 1) pda_nil))) pd_int))
      (pdss_one (pds_ret (pd_if (pdt_cmp od_isN (pdv 2) pd_non (nomark _)) pd_non (pd_callZ C_in_order lk0 (hr.mono (by decide)) (by rfl) b_in_order (pda_cons (pdv 2) pda_nil))))))), fun ds Qd hl h => ?_⟩)
  obtain ⟨a, v, rfl, hA⟩ := h
  walk_at "dl"
  refine ⟨_, _, rfl, hA.imp fun ds hs ea hd eh hh hq _ => ?_⟩
  subst ea
  subst eh
  have g := good_hs hd hh
  refine ⟨_, _, rfl, ds, hs, rfl, rfl, g, fun _ => ?_⟩
  rcases out_oa g with ⟨h1, h2⟩ | ⟨ps, h1, h2, h3⟩
  · rw [h2]
    refine ⟨_, rfl, _, rfl, _, rfl, ?_⟩
    exact hq.1 h1
  · rw [h3]
    refine ⟨_, rfl, _, rfl, _, rfl, ?_⟩
    have h5 := hq.2 _ h1
    have hl : ps.length ≤ 8 := by
      have e1 := oa_vlen h1
      have e2 := (sortN_perm ps).length_eq
      have := g.1
      omega
    refine (if_neg Bool.false_ne_true).mpr ⟨_, rfl, ps.map pI, by rw [nD_pI], by rw [List.length_map]; omega, fun _ => ?_⟩
    rw [sortK_pI h2, ← nD_pI]
    exact h5
theorem pI_inj : ∀ {a b : List Pr}, a.map pI = b.map pI → a = b
  | [], [], _ => rfl
  | [], _ :: _, h => by cases h
  | _ :: _, [], h => by cases h
  | x :: a, y :: b, h => by
    rw [List.map_cons, List.map_cons] at h
    injection h with h1 h2
    have e1 : (x.1 : Int) = (y.1 : Int) := congrArg Prod.fst h1
    have e2 : (x.2 : Int) = (y.2 : Int) := congrArg Prod.snd h1
    rw [pI_inj h2, Prod.ext (by omega : x.1 = y.1) (by omega : x.2 = y.2)]
theorem perm_of_cast {a b : List Nat} (h : (a.map fun n : Nat => (n : Int)).Perm (b.map fun n : Nat => (n : Int))) : a.Perm b := by
  have h2 := h.map Int.toNat
  rw [List.map_map, List.map_map] at h2
  have e : ∀ l : List Nat, l.map (Int.toNat ∘ fun n : Nat => (n : Int)) = l := fun l => (List.map_congr_left fun x _ => rfl).trans (List.map_id' l)
  rwa [e, e] at h2
theorem sum_cast : ∀ l : List Nat, (l.map fun n : Nat => (n : Int)).sum = ((l.sum : Nat) : Int)
  | [] => rfl
  | a :: l => by
    rw [List.map_cons, List.sum_cons, List.sum_cons, sum_cast l]
    omega
theorem w_sumL {l : List Nat} : gSumB [.lst (l.map iD)] = some (.int (l.sum : Nat)) := by
  rw [nats_ints]
  show (intsOf _).map _ = _
  rw [intsOf_map]
  show some (D.int (List.sum _)) = _
  rw [sum_cast]
theorem w_sumT {l : List Nat} : gSumB [.tup (l.map iD)] = some (.int (l.sum : Nat)) := by
  rw [nats_ints]
  show (intsOf _).map _ = _
  rw [intsOf_map]
  show some (D.int (List.sum _)) = _
  rw [sum_cast]
abbrev s_is_filling : Stmt := topS 25
abbrev N_is_filling : List Str := ["distances", "holes", "value", "places", "pair", "place"]
theorem sc_is_filling : FnScope N_is_filling ["distances", "holes", "value"] (defScope s_is_filling) := ⟨rfl, rfl, rfl, by decide +kernel, rfl, by decide +kernel, by decide +kernel⟩
theorem b_is_filling (kV doc pm : Value) (an : Option Addr) (cdv ct : Value) (us : List Value) (hl : us.length = (["distances", "holes", "value"] : List Str).length) : bindArgs (PySem.W.fnOf "is_filling" "is_filling" (defArgs s_is_filling) (defBody s_is_filling) (defScope s_is_filling) .none kV doc pm an cdv ct) ⟨us, []⟩ = pure ((["distances", "holes", "value"] : List Str).zip us) := match us, hl with | [_, _, _], _ => rfl
def m_is_filling : MT := mt3 fun a h v n Q E => ArgH a h n E fun ds hs => VV v ∧ ∀ b : Bool, (b = true ↔ ∃ w ∈ oa (lenN ds hs) hs ds, v = vD w) → Q (.bl b) n
theorem ok_is_filling {f : Addr} {fd : FuncData} (F : Fun K "is_filling" "is_filling" s_is_filling f fd) (hm : mg "is_filling" = some (.ref f)) (B : Bi mg)  (C_demand_holes : CalD P w K mg base T (L2.CX P w) 4 "demand_holes" s_demand_holes ["distances", "holes"] m_demand_holes) (C_are_pairs : CalD P w K mg base T CX0 4 "are_pairs" s_are_pairs ["distances", "value"] m_are_pairs) (C_length_of : CalD P w K mg base T CX0 1 "length_of" s_length_of ["distances", "holes"] m_length_of)  : CalD P w K mg base T (L2.CX P w) 5 "is_filling" s_is_filling ["distances", "holes", "value"] m_is_filling := by
  have hx {cdv : Value} {A : Around} {outer : List Env} {s : Shared} {H : Hp} {E : XK} : Passes (L2.CX P w) (cxOf (L2.CX P w) P w K mg base N_is_filling "is_filling" (defScope s_is_filling) f cdv A outer s H E) E := passes_call (takes_of rfl rfl rfl rfl) fun _ _ _ _ h => h
  refine okDX F hm sc_is_filling ar3 (fun cdv A outer s G H n E ED hr L => ⟨_, (pdss_cons (pds_expr (pd_callZ C_demand_holes (lkX L hx) (hr.mono (by decide)) (by rfl) b_demand_holes (pda_cons (pdv 0) (pda_cons (pdv 1) pda_nil))))
      (pdss_cons (pds_if (pdt_not (pdt_val (pd_callZ C_are_pairs lk0 (hr.mono (by decide)) (by rfl) b_are_pairs (pda_cons (pdv 0) (pda_cons (pdv 2) pda_nil))))) (pdss_one (pds_ret pd_bl)) pdss_nil)
      (pdss_cons (pds_flat (k := 3) (iv := 2) (ia := 4) (ie := 5) rfl sc_is_filling.nd rfl rfl (sw_true rfl rfl rfl (by decide +kernel)) (pe_var (i := 2) rfl (by first | exact Or.inl rfl | exact Or.inr (Or.inl rfl) | exact Or.inr (Or.inr rfl))) (blkOk_by (own := [("pair", 4), ("place", 5)]) (N := N_is_filling) (sc := defScope s_is_filling) (by decide +kernel)) (fun _ _ _ _ _ => pg_name (i := 4) sc_is_filling.nd rfl (by first | exact .inl rfl | exact .inr rfl)) (fun _ _ _ _ _ => pe_var (i := 4) rfl (by first | exact Or.inl rfl | exact Or.inr (Or.inl rfl) | exact Or.inr (Or.inr rfl))) (fun _ _ _ _ _ => pg_name (i := 5) sc_is_filling.nd rfl (by first | exact .inl rfl | exact .inr rfl)) (fun _ _ _ _ _ => pe_var (i := 5) rfl (by first | exact Or.inl rfl | exact Or.inr (Or.inl rfl) | exact Or.inr (Or.inr rfl))) (by decide) (by exact Nat.le_of_ble_eq_true rfl) (by exact Nat.le_of_ble_eq_true rfl))
      (pdss_one (pds_ret (pd_cmp (od_eq (hu64 hr)) (pd_sorted (by rfl) B.sorted (by decide +kernel) (pda_cons (pd_op od_add (pdv 3) (pd_callTy cd_list (by rfl) B.list (by decide +kernel) (pda_cons (pdv 1) pda_nil))) pda_nil)) (pd_listRg1 rfl (by rfl) B.list (by rfl) B.range (pd_callZ C_length_of lk0 (hr.mono (by decide)) (by rfl) b_length_of (pda_cons (pdv 0) (pda_cons (pdv 1) pda_nil)))) (nomark _))))))), fun ds Qd hl h => ?_⟩)
  obtain ⟨a, h, v, rfl, hA⟩ := h
  walk_at "dl"
  refine ⟨_, _, rfl, hA.imp fun ds hs ea hd eh hh hq _ => ?_⟩
  subst ea
  subst eh
  have g := good_hs hd hh
  have h8 := g.1
  obtain ⟨hv, hq⟩ := hq
  have hb2 : ∃ b : Bool, (b = true ↔ PrV (cN ds) v) := by
    rcases Classical.em (PrV (cN ds) v) with c | c
    · exact ⟨true, fun _ => c, fun _ => rfl⟩
    · exact ⟨false, fun z => absurd z (by decide), fun z => absurd z c⟩
  refine ⟨_, _, rfl, cN ds, by rw [nats_ints], by rw [List.length_map]; omega, hv, fun b hb _ => ⟨b, rfl, ?_⟩⟩
  have hfp := fun w => fil_pairs (w := w) (L := lenN ds hs) (hs := hs) (ds := ds) g.2.pos g.2.asc hh.nd hh.lt g.2.hL rfl
  have hoa := fun v => oa_iff (L := lenN ds hs) (hs := hs) g.2.pos g.2.asc (w := v)
  cases b with
  | false =>
    rw [if_pos (show (!false) = true from rfl)]
    refine hq false ⟨fun z => absurd z (by decide), fun ⟨w, h1, h2⟩ => ?_⟩
    have := hb.mpr ⟨w.map pI, by rw [h2]; unfold vD; rw [nD_pI], ((hfp w).mpr ((hoa w).mp h1)).1⟩
    cases this
  | true =>
    rw [if_neg (show ¬ (!true) = true by decide)]
    obtain ⟨ps, e, hp⟩ := hb.mp rfl
    subst e
    obtain ⟨w, ew⟩ := pI_of fun p hpm => ⟨(hp.bd p hpm).1, (hp.bd p hpm).2.2.1⟩
    subst ew
    intro hN
    unfold dFlat
    have hwl : w.length ≤ 8 := by
      have := congrArg List.length hp.df
      rw [List.length_map] at this
      simp [dfI] at this
      omega
    refine ⟨(w.map pI).map fun p => [D.int p.1, D.int p.2], by rw [List.map_map (f := fun p : PI => [D.int p.1, D.int p.2])]; rfl, by simp [ownB], ?_, ?_⟩
    · rw [flat_prs, List.length_map, plcI_len, List.length_map]
      omega
    · rw [flat_prs, plcI_pI]
      walk_at "dl"
      have hh8 := hh.le
      have hL := g.2.hL
      refine ⟨by simp only [List.length_map]; rw [plc_len]; omega, (plc w ++ hs).map fun n : Nat => (n : Int), by rw [nats_ints, List.map_append, List.map_append], fun ns' hp2 ha2 => ?_⟩
      refine ⟨_, _, rfl, _, _, rfl, rfl, fun _ => ⟨_, rfl, ?_, ?_, ?_⟩⟩
      · rw [List.length_map, List.length_map]
        exact ⟨by omega, by omega⟩
      · rw [List.length_map, List.length_map]
        omega
      · rw [len_int, show (((2 * ds.length + hs.length : Nat) : Int)).toNat = 2 * ds.length + hs.length by omega, rgD_nat, nats_ints]
        refine ⟨_, (w_eqO (Ok.lstI _) (Ok.lstI _) (by decide) (by decide) rfl).trans (congrArg (fun b => some (D.bl b)) deq_lstI), ?_⟩
        refine hq _ ⟨fun z => ?_, fun ⟨w', h1, h2⟩ => ?_⟩
        · have e := of_decide_eq_true z
          rw [e] at hp2
          exact ⟨w, (hoa w).mpr ((hfp w).mp ⟨hp, perm_of_cast hp2.symm⟩), by unfold vD; rw [nD_pI]⟩
        · have e : w = w' := by
            unfold vD at h2
            rw [nD_pI] at h2
            injection h2 with h2
            exact pI_inj (prD_inj h2)
          subst e
          have hpm := ((hfp w).mpr ((hoa w).mp h1)).2
          apply decide_eq_true
          refine List.Perm.eq_of_pairwise (le := (· ≤ ·)) (fun a b _ _ h1 h2 => Int.le_antisymm h1 h2) ha2 ?_ (hp2.trans (hpm.map _))
          rw [List.pairwise_map]
          exact List.pairwise_lt_range.imp fun {a b} z => by omega
abbrev s_fits_parity : Stmt := topS 26
abbrev N_fits_parity : List Str := ["distances", "holes", "free", "place"]
theorem sc_fits_parity : FnScope N_fits_parity ["distances", "holes"] (defScope s_fits_parity) := ⟨rfl, rfl, rfl, by decide +kernel, rfl, by decide +kernel, by decide +kernel⟩
theorem b_fits_parity (kV doc pm : Value) (an : Option Addr) (cdv ct : Value) (us : List Value) (hl : us.length = (["distances", "holes"] : List Str).length) : bindArgs (PySem.W.fnOf "fits_parity" "fits_parity" (defArgs s_fits_parity) (defBody s_fits_parity) (defScope s_fits_parity) .none kV doc pm an cdv ct) ⟨us, []⟩ = pure ((["distances", "holes"] : List Str).zip us) := match us, hl with | [_, _], _ => rfl
def m_fits_parity : MT := mt2 fun a h n Q E => ArgH a h n E fun ds hs => Q (.bl (decide ((freeL (lenN ds hs) hs).sum % 2 = ds.sum % 2))) n
theorem ok_fits_parity {f : Addr} {fd : FuncData} (F : Fun K "fits_parity" "fits_parity" s_fits_parity f fd) (hm : mg "fits_parity" = some (.ref f)) (B : Bi mg)  (C_demand_holes : CalD P w K mg base T (L2.CX P w) 4 "demand_holes" s_demand_holes ["distances", "holes"] m_demand_holes) (C_length_of : CalD P w K mg base T CX0 1 "length_of" s_length_of ["distances", "holes"] m_length_of)  : CalD P w K mg base T (L2.CX P w) 5 "fits_parity" s_fits_parity ["distances", "holes"] m_fits_parity := by
  have hx {cdv : Value} {A : Around} {outer : List Env} {s : Shared} {H : Hp} {E : XK} : Passes (L2.CX P w) (cxOf (L2.CX P w) P w K mg base N_fits_parity "fits_parity" (defScope s_fits_parity) f cdv A outer s H E) E := passes_call (takes_of rfl rfl rfl rfl) fun _ _ _ _ h => h
  refine okDX F hm sc_fits_parity ar2 (fun cdv A outer s G H n E ED hr L => ⟨_, (pdss_cons (pds_expr (pd_callZ C_demand_holes (lkX L hx) (hr.mono (by decide)) (by rfl) b_demand_holes (pda_cons (pdv 0) (pda_cons (pdv 1) pda_nil))))
      (pdss_cons (pds_setLc (k := 2) rfl sc_fits_parity.nd rfl rfl (sw_true rfl rfl rfl (by decide +kernel)) (pdi_range1 (by rfl) B.range (pda_cons (pd_callZ C_length_of lk0 (hr.mono (by decide)) (by rfl) b_length_of (pda_cons (pdv 0) (pda_cons (pdv 1) pda_nil))) pda_nil)) (blkOk_by (own := [("place", 3)]) (N := N_fits_parity) (sc := defScope s_fits_parity) (by decide +kernel)) (fun _ _ _ _ _ => pg_name (i := 3) sc_fits_parity.nd rfl (by first | exact .inl rfl | exact .inr rfl)) (fun _ _ _ _ _ => (pdts_one (pdt_cmp od_notInI (pdv 3) (pdv 1) rfl))) (fun _ _ _ _ _ => (pdv 3)))
      (pdss_one (pds_ret (pd_cmp (od_eq (hu64 hr)) (pd_op od_mod (pd_callB (cd_sumB rfl) (by rfl) B.sum (by decide +kernel) (pda_cons (pdv 2) pda_nil)) pd_int) (pd_op od_mod (pd_callB (cd_sumB rfl) (by rfl) B.sum (by decide +kernel) (pda_cons (pdv 0) pda_nil)) pd_int) (nomark _)))))), fun ds Qd hl h => ?_⟩)
  obtain ⟨a, v, rfl, hA⟩ := h
  walk_at "dl"
  refine ⟨_, _, rfl, hA.imp fun ds hs ea hd eh hh hq _ => ?_⟩
  subst ea
  subst eh
  have g := good_hs hd hh
  have h8 := g.1
  have hL := g.2.hL
  have hh8 := hh.le
  refine ⟨_, _, rfl, _, _, rfl, rfl, fun _ => ⟨_, rfl, ?_, ?_⟩⟩
  · rw [List.length_map, List.length_map]
    exact ⟨by omega, by omega⟩
  · rw [len_int, show (((2 * ds.length + hs.length : Nat) : Int)).toNat = 2 * ds.length + hs.length by omega, rgD_nat]
    refine comp_on iD (fun p => if p ∈ hs then none else some (iD p)) _ [] (fun p hpm => ⟨_, rfl, fun K hK => ?_⟩) (by simp; omega) ?_
    · simp only [iD]
      walk_at "dl"
      refine ⟨_, w_inN, _, rfl, ?_⟩
      by_cases c : p ∈ hs
      · rw [if_pos c] at hK
        rw [decide_eq_true c]
        exact hK
      · rw [if_neg c] at hK
        rw [decide_eq_false c]
        exact hK
    · rw [List.nil_append]
      have ef : (List.range (2 * ds.length + hs.length)).filterMap (fun p => if p ∈ hs then none else some (iD p)) = (freeL (lenN ds hs) hs).map iD := by
        unfold freeL
        generalize List.range (2 * ds.length + hs.length) = rs
        induction rs with
        | nil => rfl
        | cons p rs ih =>
          by_cases c : p ∈ hs
          · rw [List.filterMap_cons, if_pos c, List.filter_cons, if_neg (by rw [decide_eq_true c]; decide)]
            exact ih
          · rw [List.filterMap_cons, if_neg c, List.filter_cons, if_pos (by rw [decide_eq_false c]; rfl)]
            show iD p :: _ = iD p :: _
            rw [ih]
      rw [ef]
      refine ⟨_, w_sumL, _, w_mod (by decide), _, w_sumT, _, w_mod (by decide), _, w_eqI, ?_⟩
      have e5 : decide ((((freeL (lenN ds hs) hs).sum : Nat) : Int) % 2 = ((ds.sum : Nat) : Int) % 2) = decide ((freeL (lenN ds hs) hs).sum % 2 = ds.sum % 2) := by
        apply decide_eq_decide.mpr
        omega
      rw [e5]
      exact hq
end
end K1
set_option maxHeartbeats 1000000
namespace K1
open PySem PySem.Spec PyProof.Rows L2 DL KP
local macro_rules | `(tactic| walk_at "dl") => `(tactic| simp only [dSeq, dRet, dDice, dSortI, dMaxI, dLstRg, dLstRg1, dDst, dfDictT, dDGetN, dDPutN, dDisp, dSortKey, dSort3, dAugA, dStar, dZipT, dnAt, gdTrip, w_all3, dPopAt, dAppend, otAt, dCallG, noOwn, gdPair, dAsg, dIfS, dVar, dC, dOp, dB, dChain, dAnd, dOr, dNot, dAndV, dOrV, dNotV, dCall, dNil, dCons, dFn, dIf, dTup, dLst, dDrop, dNext, dNeg, dSl, dNoPart, dPart, dRaise, dYes, dTupI, dLstI, dStrI, dRg1, dRg2, dEnumL, dEnumT, dRevL, dRevT, dLc, setsD, wipeD, dPar, dPar3, dOwn, dfRep, dfLst, dfList, dfDict, dParFF, dParFP, dParPF, dFor, dgTup, dgCons, dgName, dgNil, dAsgG, dgSetIx, olAt, odAt, ent, froz,
  List.map_cons, List.map_nil, List.getElem?_cons_zero, List.getElem?_cons_succ, List.set_cons_zero, List.set_cons_succ, List.replicate, List.length_cons, List.length_nil, List.cons_append, List.nil_append, Nat.reduceAdd, Nat.reduceSub, Nat.reduceLeDiff,
  w_aug, decide_true, decide_false, w_iteA, w_some, w_none, w_bl, w_bl2, w_int, w_lst, w_tup, w_eq, w_mulL, w_mulR, w_mod, w_div, Int.reduceLT, Int.reduceNeg, Int.reducePow, Int.reduceAdd, Int.reduceSub, Int.reduceMul, and_self, w_cons, w_set, w_lrange, w_lrange1, w_ltup, w_llst, w_par, w_par3, w_tupL, w_tupT, w_listL, w_listT, w_all1, w_all2, w_own0, w_ownP, w_g2T, w_addI, w_addL, w_addT, w_lenT, w_lenL, w_intI, w_intB, w_eqI, w_neI, w_eqB, w_neB, w_ixT, w_ixL, w_slL, w_slT, w_keyI, w_keyS, w_ex, w_two, w_three, if_true, if_false, Bool.false_eq_true, Bool.true_eq_false, Bool.not_true, Bool.not_false, eq_self, true_and, and_true])

section
variable {P : Program} {w : World} {K : PySem.W.Frag} {mg : MG} {base : Heap} {T : TT0}
abbrev s__law_o_all : Stmt := topS 35
abbrev N__law_o_all : List Str := ["distances", "holes", "length", "rows", "back", "at", "longer", "pairs", "taken", "first", "second", "is_due"]
theorem sc__law_o_all : FnScope N__law_o_all ["distances", "holes"] (defScope s__law_o_all) := ⟨rfl, rfl, rfl, by decide +kernel, rfl, by decide +kernel, by decide +kernel⟩
theorem b__law_o_all (kV doc pm : Value) (an : Option Addr) (cdv ct : Value) (us : List Value) (hl : us.length = (["distances", "holes"] : List Str).length) : bindArgs (PySem.W.fnOf "_law_o_all" "_law_o_all" (defArgs s__law_o_all) (defBody s__law_o_all) (defScope s__law_o_all) .none kV doc pm an cdv ct) ⟨us, []⟩ = pure ((["distances", "holes"] : List Str).zip us) := match us, hl with | [_, _], _ => rfl
def m__law_o_all : MT := mt2 fun a b n Q _ => ∃ ds hs : List Nat, a = .tup (ds.map iD) ∧ b = .tup (hs.map iD) ∧ (∀ d ∈ ds, 0 < d ∧ d ≤ 100) ∧ 2 * ds.length + hs.length ≤ 100 ∧ (2 * ds.length + hs.length) ^ ds.length ≤ 1000000 ∧ Q (.lst ((oa (2 * ds.length + hs.length) hs ds).map vD)) n
theorem ok__law_o_all {f : Addr} {fd : FuncData} (F : Fun K "_law_o_all" "_law_o_all" s__law_o_all f fd) (hm : mg "_law_o_all" = some (.ref f)) (B : Bi mg)    : CalD P w K mg base T CX0 1 "_law_o_all" s__law_o_all ["distances", "holes"] m__law_o_all := by
  refine okD F hm sc__law_o_all ar2 (fun cdv A outer s G H n E ED hr => ⟨_, (pdss_cons (pds_set (i := 2) sc__law_o_all.nd rfl (.inl rfl) (pd_op od_add (pd_op od_mul pd_int (pd_callB cd_len (by rfl) B.len (by decide +kernel) (pda_cons (pdv 0) pda_nil))) (pd_callB cd_len (by rfl) B.len (by decide +kernel) (pda_cons (pdv 1) pda_nil))))
      (pdss_cons (pds_set (i := 3) sc__law_o_all.nd rfl (.inl rfl) (pd_lst (pda_cons (pd_tup (pda_cons (pd_tup pda_nil) (pda_cons (pd_callTy cd_tuple (by rfl) B.tuple (by decide +kernel) (pda_cons (pdv 1) pda_nil)) pda_nil))) pda_nil)))
      (pdss_cons (pds_for PassesOwn.never rfl (pdi_range1 (by rfl) B.range (pda_cons (pd_callB cd_len (by rfl) B.len (by decide +kernel) (pda_cons (pdv 0) pda_nil)) pda_nil)) (pdg_name (i := 4) sc__law_o_all.nd rfl (.inl rfl)) (pdss_cons (pds_set (i := 5) sc__law_o_all.nd rfl (.inl rfl) (pd_op od_sub (pd_op od_sub (pd_callB cd_len (by rfl) B.len (by decide +kernel) (pda_cons (pdv 0) pda_nil)) pd_int) (pdv 4)))
      (pdss_cons (pds_own (i := 6) sc__law_o_all.nd rfl (.inl rfl) (pdf_lst pda_nil))
      (pdss_cons (pds_for PassesOwn.never rfl (pdi_list (pdv 3)) (pdg_tup (n := 2) rfl (pdgs_cons (pdg_name (i := 7) sc__law_o_all.nd rfl (.inl rfl)) (pdgs_cons (pdg_name (i := 8) sc__law_o_all.nd rfl (.inl rfl)) pdgs_nil))) (pdss_one (pds_for PassesOwn.never rfl (pdi_range1 (by rfl) B.range (pda_cons (pd_op od_sub (pdv 2) (pd_ix (pdv 0) (pdv 5))) pda_nil)) (pdg_name (i := 9) sc__law_o_all.nd rfl (.inl rfl)) (pdss_cons (pds_set (i := 10) sc__law_o_all.nd rfl (.inl rfl) (pd_op od_add (pdv 9) (pd_ix (pdv 0) (pdv 5))))
      (pdss_cons (pds_set (i := 11) sc__law_o_all.nd rfl (.inl rfl) (pd_or (pd_cmp (od_eq (hu64 hr)) (pdv 7) (pd_tup pda_nil) (nomark _)) (pd_or (pd_cmp (od_eq (hu64 hr)) (pd_op od_add (pdv 5) pd_int) (pd_callB cd_len (by rfl) B.len (by decide +kernel) (pda_cons (pdv 0) pda_nil)) (nomark _)) (pd_or (pd_cmp (od_ne (hu64 hr)) (pd_ix (pdv 0) (pd_op od_add (pdv 5) pd_int)) (pd_ix (pdv 0) (pdv 5)) (nomark _)) (pd_one (pd_cmp od_lt (pdv 9) (pd_ix (pd_ix (pdv 7) pd_int) pd_int) (nomark _)))))))
      (pdss_one (pds_if (pdw_pt (pdw_and (pdt_cmp od_notInI (pdv 9) (pdv 8) rfl) (pdw_and (pdt_cmp od_notInI (pdv 10) (pdv 8) rfl) (pdw_and1 (pdt_val (pdv 11)))))) (pdss_one (pds_expr (pd_append (i := 6) rfl (by first | exact Or.inl rfl | exact Or.inr (Or.inl rfl) | exact Or.inr (Or.inr rfl)) (pd_tup (pda_cons (pd_op od_add (pd_tup (pda_cons (pd_tup (pda_cons (pdv 9) (pda_cons (pdv 10) pda_nil))) pda_nil)) (pdv 7)) (pda_cons (pd_op od_add (pdv 8) (pd_tup (pda_cons (pdv 9) (pda_cons (pdv 10) pda_nil)))) pda_nil)))))) pdss_nil)))))))
      (pdss_one (pds_set (i := 3) sc__law_o_all.nd rfl (.inl rfl) (pdv 6)))))))
      (pdss_one (pds_ret (pd_lcP rfl sc__law_o_all.nd (pdi_list (pdv 3)) (blkOk_by (own := [("pairs", 7), ("taken", 8)]) (N := N__law_o_all) (sc := defScope s__law_o_all) (by decide +kernel)) (fun _ _ _ _ _ => pg_tup rfl (pgs_cons (pg_name (i := 7) sc__law_o_all.nd rfl (by first | exact .inl rfl | exact .inr rfl)) (pgs_cons (pg_name (i := 8) sc__law_o_all.nd rfl (by first | exact .inl rfl | exact .inr rfl)) pgs_nil))) (fun _ _ _ _ _ => pdts_nil) (fun _ _ _ _ _ => (pdv 7)))))))), fun ds Qd hl h => ?_⟩)
  obtain ⟨a, b, rfl, ds, hs, rfl, rfl, h3, h4, hz, hQ⟩ := h
  walk_at "dl"
  rw [List.length_map, List.length_map]
  refine ⟨⟨by omega, by omega⟩, ?_⟩
  rw [show ((ds.length : Nat) : Int).toNat = ds.length by omega, rgD_nat]
  have hL1 : ds.length ≤ 0 ∨ 1 ≤ 2 * ds.length + hs.length := by omega
  generalize hLe : 2 * ds.length + hs.length = L at hQ hz h4
  rw [show 2 * (ds.length : Int) + (hs.length : Int) = (L : Int) by omega]
  refine loop_inv iD (fun xs S => ∃ (k : Nat) (y4 y5 y7 y8 y9 y10 y11 : Option SV) (y6 : Option SV), xs = (List.range ds.length).drop k ∧ k ≤ ds.length ∧ (ownB (some y7) = false ∧ ownB (some y8) = false) ∧ S = ⟨[some (.p (.tup (ds.map iD))), some (.p (.tup (hs.map iD))), some (.p (.int L)), some (.p (.lst ((oa L hs (ds.drop (ds.length - k))).map (rwD2 hs)))), y4, y5, y6, y7, y8, y9, y10, y11], n⟩)
    (fun x xs S hI K2 hK => ?_) (fun S hI => ?_) _ _ ⟨0, none, none, none, none, none, none, none, none, rfl, by omega, ⟨rfl, rfl⟩, by rw [Nat.sub_zero, List.drop_length]; rfl⟩
  · obtain ⟨k, y4, y5, y7, y8, y9, y10, y11, y6, hxs, hk, hO, rfl⟩ := hI
    obtain ⟨rfl, hk2, hxs2⟩ := drop_range hxs
    have hat : ds.length - (x + 1) < ds.length := by omega
    have hdr : ds.drop (ds.length - (x + 1)) = ds[ds.length - (x + 1)] :: ds.drop (ds.length - x) := by
      rw [List.drop_eq_getElem_cons hat, show ds.length - (x + 1) + 1 = ds.length - x by omega]
    have hd1 : ds[ds.length - (x + 1)]? = some ds[ds.length - (x + 1)] := List.getElem?_eq_getElem hat
    have hd2 := h3 _ (List.getElem_mem hat)
    generalize ds[ds.length - (x + 1)] = d at hdr hd1 hd2
    have hhead : ds[ds.length - x]? = (ds.drop (ds.length - x)).head? := by rw [List.head?_drop]
    have hnil : ds.drop (ds.length - x) = [] ↔ x = 0 := by
      rw [List.drop_eq_nil_iff]
      omega
    have hdl : (ds.drop (ds.length - x)).length = x := by
      rw [List.length_drop]
      omega
    generalize ds.drop (ds.length - x) = ds' at hdr hhead hnil hdl
    have hA : ∀ {j : Int}, j = (ds.length : Int) - 1 - x → atI (ds.map iD) j = some (.int d) := fun hj => at_nat hd1 (by omega)
    have hsz : (oa L hs (ds.drop (ds.length - (x + 1)))).length ≤ 1000000 := by
      refine Nat.le_trans (oa_len L hs _) (Nat.le_trans ?_ hz)
      exact Nat.pow_le_pow_right (by omega) (by rw [List.length_drop]; omega)
    rw [hdr] at hsz
    simp only [iD]
    walk_at "dl"
    have hoa : oa L hs (d :: ds') = (oa L hs ds').flatMap fun v => (List.range (L - d)).filterMap (oOne hs d ds' v) := rfl
    refine loop_inv (rwD2 hs) (fun vs S => ∃ (out : List (List Pr)) (y7 y8 y9 y10 y11 : Option SV), (ownB (some y7) = false ∧ ownB (some y8) = false) ∧ (∀ v ∈ vs, v ∈ oa L hs ds') ∧ oa L hs (d :: ds') = out ++ vs.flatMap (fun v => (List.range (L - d)).filterMap (oOne hs d ds' v)) ∧
        S = ⟨[some (.p (.tup (ds.map iD))), some (.p (.tup (hs.map iD))), some (.p (.int L)), some (.p (.lst ((oa L hs ds').map (rwD2 hs)))), some (.p (.int x)), some (.p (.int ((ds.length : Int) - 1 - x))), some (.ol (out.map (rwD2 hs))), y7, y8, y9, y10, y11], n⟩)
      (fun v vs S hI K3 hK3 => ?_) (fun S hI => ?_) _ _ ⟨[], y7, y8, y9, y10, y11, hO, fun v hv => hv, by rw [hoa]; rfl, by rw [List.length_map]; rfl⟩
    · obtain ⟨out, y7, y8, y9, y10, y11, hO2, hmem, ho, rfl⟩ := hI
      rw [List.flatMap_cons] at ho
      simp only [rwD2]
      walk_at "dl"
      refine ⟨_, hA rfl, _, rfl, _, rfl, ⟨by omega, by omega⟩, ?_⟩
      rw [show ((L : Int) - (d : Int)).toNat = L - d by omega, rgD_nat]
      refine loop_inv iD (fun fs S => ∃ (out : List (List Pr)) (y9 y10 y11 : Option SV), oa L hs (d :: ds') = out ++ (fs.filterMap (oOne hs d ds' v) ++ vs.flatMap (fun v => (List.range (L - d)).filterMap (oOne hs d ds' v))) ∧
          S = ⟨[some (.p (.tup (ds.map iD))), some (.p (.tup (hs.map iD))), some (.p (.int L)), some (.p (.lst ((oa L hs ds').map (rwD2 hs)))), some (.p (.int x)), some (.p (.int ((ds.length : Int) - 1 - x))), some (.ol (out.map (rwD2 hs))), some (.p (vD v)), some (.p (.tup ((tkn hs v).map iD))), y9, y10, y11], n⟩)
        (fun f fs S hI K4 hK4 => ?_) (fun S hI => ?_) _ _ ⟨out, y9, y10, y11, ho, rfl⟩
      · obtain ⟨out, y9, y10, y11, ho, rfl⟩ := hI
        have hol : out.length ≤ 1000000 := by
          have := congrArg List.length ho
          rw [List.length_append] at this
          omega
        simp only [iD]
        generalize hT : dIfS (dAnd (dB (dOp (gInI true) (dVar 9) (dVar 8))) (dAnd (dB (dOp (gInI true) (dVar 10) (dVar 8))) (dB (dVar 11)))) (dDrop (dAppend 6 (dTup (dCons (dOp gAdd (dTup (dCons (dTup (dCons (dVar 9) (dCons (dVar 10) dNil))) dNil)) (dVar 7)) (dCons (dOp gAdd (dVar 8) (dTup (dCons (dVar 9) (dCons (dVar 10) dNil)))) dNil))))) dNext = TT
        walk_at "dl"
        rw [hA rfl]
        walk_at "dl"
        rw [w_eqV]
        have hvl := oa_vlen (hmem v List.mem_cons_self)
        have hlen : (tkn hs v).length ≤ 1000000 := by
          rw [tkn_len]
          omega
        have hpr : gAdd (D.tup [D.tup [D.int (f : Int), D.int ((f + d : Nat) : Int)]]) (vD v) = some (vD ((f, f + d) :: v)) := w_conV (p := (f, f + d)) (by omega)
        have fin : ∀ b : Bool, b = (decide (v = []) || decide (ds' = []) || !decide (ds'.head? = some d) || hdB f v) →
            TT { nx := K4, rt := fun d S => Qd d S.n, bk := K3, ct := K4 }
              ⟨[some (.p (.tup (ds.map iD))), some (.p (.tup (hs.map iD))), some (.p (.int L)), some (.p (.lst ((oa L hs ds').map (rwD2 hs)))), some (.p (.int x)), some (.p (.int ((ds.length : Int) - 1 - x))), some (.ol (out.map (rwD2 hs))), some (.p (vD v)), some (.p (.tup ((tkn hs v).map iD))), some (.p (.int f)), some (.p (.int ((f : Int) + d))), some (.p (.bl b))], n⟩ := fun b hb => by
          rw [show ((f : Int) + (d : Int)) = ((f + d : Nat) : Int) by omega, ← hT]
          walk_at "dl"
          have hdue : dueB hs d ds' v f = (!decide (f ∈ tkn hs v) && !decide (f + d ∈ tkn hs v) && b) := by
            rw [hb]
            exact dueB_eq
          have go : ∀ c : Bool, dueB hs d ds' v f = c → ∀ S, (c = false → S = (⟨[some (.p (.tup (ds.map iD))), some (.p (.tup (hs.map iD))), some (.p (.int L)), some (.p (.lst ((oa L hs ds').map (rwD2 hs)))), some (.p (.int x)), some (.p (.int ((ds.length : Int) - 1 - x))), some (.ol (out.map (rwD2 hs))), some (.p (vD v)), some (.p (.tup ((tkn hs v).map iD))), some (.p (.int f)), some (.p (.int ((f + d : Nat) : Int))), some (.p (.bl b))], n⟩ : DS)) →
              (c = true → S = (⟨[some (.p (.tup (ds.map iD))), some (.p (.tup (hs.map iD))), some (.p (.int L)), some (.p (.lst ((oa L hs ds').map (rwD2 hs)))), some (.p (.int x)), some (.p (.int ((ds.length : Int) - 1 - x))), some (.ol ((out ++ [(f, f + d) :: v]).map (rwD2 hs))), some (.p (vD v)), some (.p (.tup ((tkn hs v).map iD))), some (.p (.int f)), some (.p (.int ((f + d : Nat) : Int))), some (.p (.bl b))], n⟩ : DS)) → K4 S := fun c hc S h1 h2 => by
            rw [List.filterMap_cons] at ho
            cases c with
            | false =>
              have e : oOne hs d ds' v f = none := if_neg (by rw [hc]; decide)
              rw [e] at ho
              rw [h1 rfl]
              exact hK4 _ ⟨out, _, _, _, ho, rfl⟩
            | true =>
              have e : oOne hs d ds' v f = some ((f, f + d) :: v) := if_pos hc
              rw [e] at ho
              rw [h2 rfl]
              exact hK4 _ ⟨out ++ [(f, f + d) :: v], _, _, _, by rw [ho]; simp, rfl⟩
          refine ⟨_, w_inN, _, rfl, ?_⟩
          by_cases c1 : f ∈ tkn hs v
          · rw [decide_eq_true c1] at hdue ⊢
            exact go false (by rw [hdue]; simp) _ (fun _ => rfl) fun z => by cases z
          · rw [decide_eq_false c1] at hdue ⊢
            walk_at "dl"
            refine ⟨_, w_inN, _, rfl, ?_⟩
            by_cases c2 : f + d ∈ tkn hs v
            · rw [decide_eq_true c2] at hdue ⊢
              exact go false (by rw [hdue]; simp) _ (fun _ => rfl) fun z => by cases z
            · rw [decide_eq_false c2] at hdue ⊢
              walk_at "dl"
              cases b with
              | false => exact go false (by rw [hdue]; rfl) _ (fun _ => rfl) fun z => by cases z
              | true =>
                refine ⟨_, hpr, by rw [List.length_map]; omega, by rw [List.length_map]; omega, go true (by rw [hdue]; rfl) _ (fun z => by cases z) fun _ => ?_⟩
                rw [List.map_append]
                simp [rwD2, tkn, iD]
        by_cases c1 : v = []
        · refine ⟨_, rfl, _, rfl, ?_⟩
          rw [if_pos (decide_eq_true c1)]
          exact fin true (by rw [decide_eq_true c1]; rfl)
        · refine ⟨_, rfl, _, rfl, ?_⟩
          rw [if_neg (by simpa using c1), List.length_map]
          by_cases c2 : ds' = []
          · have := hnil.mp c2
            rw [if_pos (decide_eq_true (by omega))]
            exact fin true (by rw [decide_eq_true c2]; simp)
          · have hx0 : x ≠ 0 := fun z => c2 (hnil.mpr z)
            rw [if_neg (by simp; omega)]
            obtain ⟨e0, r0, er⟩ : ∃ e0 r0, ds' = e0 :: r0 := by
              cases ds' with
              | nil => exact absurd rfl c2
              | cons a b => exact ⟨a, b, rfl⟩
            have hh2 : ds[ds.length - x]? = some e0 := by rw [hhead, er]; rfl
            refine ⟨_, at_nat hh2 (by omega), _, w_neI, _, rfl, ?_⟩
            have ehd : ds'.head? = some e0 := by rw [er]; rfl
            by_cases c3 : e0 = d
            · rw [if_neg (by simp [c3])]
              obtain ⟨p0, v0, ev⟩ : ∃ p0 v0, v = p0 :: v0 := by
                cases v with
                | nil => exact absurd rfl c1
                | cons a b => exact ⟨a, b, rfl⟩
              have g1 : gIx (vD v) (D.int 0) = some (nD p0) := by
                rw [ev]
                show gIx (.tup (nD p0 :: v0.map nD)) (.int 0) = _
                rw [w_ixT]
                exact atI_at (i := 0) (by decide) (by simp)
              have g2 : gIx (nD p0) (D.int 0) = some (.int p0.1) := rfl
              refine ⟨_, g1, _, g2, _, w_ltI, ?_⟩
              refine fin _ ?_
              rw [decide_eq_false c1, decide_eq_false c2, ehd, c3, decide_eq_true rfl, ev]
              simp [hdB]
            · rw [if_pos (by simp; omega)]
              refine fin true ?_
              rw [ehd, show decide (some e0 = some d) = false from decide_eq_false fun z => c3 (Option.some.inj z)]
              simp
      · obtain ⟨out, y9, y10, y11, ho, rfl⟩ := hI
        exact hK3 _ ⟨out, _, _, _, _, _, ⟨rfl, rfl⟩, fun u hu => hmem u (List.mem_cons_of_mem _ hu), ho, rfl⟩
    · obtain ⟨out, y7, y8, y9, y10, y11, hO2, hmem, ho, rfl⟩ := hI
      walk_at "dl"
      have eo : oa L hs (ds.drop (ds.length - (x + 1))) = out := by
        rw [hdr, ho, List.flatMap_nil, List.append_nil]
      rw [← eo]
      exact hK _ ⟨x + 1, _, _, _, _, _, _, _, _, hxs2, by omega, hO2, rfl⟩
  · obtain ⟨k, y4, y5, y7, y8, y9, y10, y11, y6, hxs, hk, hO, rfl⟩ := hI
    have hk2 : k = ds.length := by
      have := congrArg List.length hxs
      rw [List.length_drop, List.length_range, List.length_nil] at this
      omega
    subst hk2
    rw [Nat.sub_self, List.drop_zero]
    walk_at "dl"
    refine ⟨hO, ?_⟩
    refine comp_on (rwD2 hs) (fun v => some (vD v)) _ [] (fun v hv => ⟨_, rfl, fun K hK => ?_⟩) (by
      have := oa_len L hs ds
      simp
      omega) ?_
    · walk_at "dl"
      exact hK
    · rw [fm_map, List.nil_append]
      exact hQ

abbrev s__law_dice : Stmt := topS 28
abbrev N__law_dice : List Str := ["script", "spot", "own", "mixed", "cell"]
theorem sc__law_dice : FnScope N__law_dice ["script", "spot"] (defScope s__law_dice) := ⟨rfl, rfl, rfl, by decide +kernel, rfl, by decide +kernel, by decide +kernel⟩
theorem b__law_dice (kV doc pm : Value) (an : Option Addr) (cdv ct : Value) (us : List Value) (hl : us.length = (["script", "spot"] : List Str).length) : bindArgs (PySem.W.fnOf "_law_dice" "_law_dice" (defArgs s__law_dice) (defBody s__law_dice) (defScope s__law_dice) .none kV doc pm an cdv ct) ⟨us, []⟩ = pure ((["script", "spot"] : List Str).zip us) := match us, hl with | [_, _], _ => rfl
def m__law_dice : MT := mt2 fun a b n Q _ => ∃ (l : List Int) (i : Int), a = .lst (l.map .int) ∧ l.length ≤ 100 ∧ b = .int i ∧ 0 ≤ i ∧ i ≤ 1000 ∧ n ≤ Big ∧ Q .dice n
theorem ok__law_dice {f : Addr} {fd : FuncData} (F : Fun K "_law_dice" "_law_dice" s__law_dice f fd) (hm : mg "_law_dice" = some (.ref f)) (B : Bi mg)    : CalD P w K mg base T CX0 1 "_law_dice" s__law_dice ["script", "spot"] m__law_dice := by
  refine okD F hm sc__law_dice ar2 (fun cdv A outer s G H n E ED hr => ⟨_, (pdss_cons (pds_set (i := 2) sc__law_dice.nd rfl (.inl rfl) (pd_if (pdt_cmp od_lt (pdv 1) (pd_callB cd_len (by rfl) B.len (by decide +kernel) (pda_cons (pdv 0) pda_nil)) (nomark _)) (pd_ix (pdv 0) (pdv 1)) (pd_op od_add (pd_op od_mul pd_int (pdv 1)) pd_int)))
      (pdss_cons (pds_set (i := 3) sc__law_dice.nd rfl (.inl rfl) (pd_op od_add pd_int (pd_op od_mul pd_int (pdv 1))))
      (pdss_cons (pds_for PassesOwn.never rfl (pdi_list (pd_op od_add (pd_slice (pdv 0) pdo_none (pdo_some pd_int)) (pd_lst (pda_cons (pdv 2) pda_nil)))) (pdg_name (i := 4) sc__law_dice.nd rfl (.inl rfl)) (pdss_one (pds_set (i := 3) sc__law_dice.nd rfl (.inl rfl) (pd_op od_mod (pd_callTy cd_int (by rfl) B.int (by decide +kernel) (pda_cons (pd_op od_add (pd_op od_mul (pdv 3) pd_int) (pd_op od_mod (pd_callTy cd_int (by rfl) B.int (by decide +kernel) (pda_cons (pdv 4) pda_nil)) pd_int)) pda_nil)) pd_int))))
      (pdss_one (pds_ret (pd_dice (pda_cons (pd_if (pdw_pt (pdw_or (pdt_cmp od_lt (pdv 2) pd_int (nomark _)) (pdw_or1 (pdt_cmp od_ge (pdv 2) (pd_op od_pow pd_int pd_int) (nomark _))))) (pd_callB cd_abs (by rfl) B.abs (by decide +kernel) (pda_cons (pdv 2) pda_nil)) pd_int) (pda_cons (pdv 3) (pda_cons pd_int pda_nil))))))))), fun ds Qd hl h => ?_⟩)
  obtain ⟨a, b, rfl, l, i, rfl, hl2, rfl, h0, h1, hn, hQ⟩ := h
  walk_at "dl"
  simp only [cutD_map]
  refine ite_own (q := fun z => atI (List.map D.int l) i = some z) (fun hi => ?_) fun own => ?_
  · have hi' : i < l.length := by simpa using hi
    have h2 : i.toNat < l.length := by omega
    exact ⟨l[i.toNat], by rw [atI_at h0 (by simpa using hi'), List.getElem?_map, List.getElem?_eq_getElem h2]; rfl⟩
  · rw [show (List.map D.int (DL.cutD l none (some 6)) ++ [D.int own]) = ((DL.cutD l none (some 6)) ++ [own]).map D.int by simp]
    have lc := cutD_len l none (some 6)
    refine ⟨by rw [List.length_map]; omega, loop_inv D.int (fun _ S => ∃ (m : Int) (x : Option SV), 0 ≤ m ∧ m < 2147480009 ∧ S = ⟨[some (SV.p (.lst (l.map .int))), some (.p (.int i)), some (.p (.int own)), some (.p (.int m)), x], n⟩) (fun x xs S hI K2 hK => ?_) (fun S hI => ?_) _ _ ⟨_, none, by omega, by omega, rfl⟩⟩
    · obtain ⟨m, y, m0, m1, rfl⟩ := hI
      walk_at "dl"
      exact hK _ ⟨_, _, Int.emod_nonneg _ (by decide), Int.emod_lt_of_pos _ (by decide), rfl⟩
    · obtain ⟨m, y, m0, m1, rfl⟩ := hI
      walk_at "dl"
      have fin : ∀ o : Int, 0 ≤ o → ∃ o' m' : Int, [D.int o, D.int m, D.int 0] = [D.int o', D.int m', D.int 0] ∧ 0 ≤ o' ∧ 0 ≤ m' ∧ m' < 2147480009 ∧ n ≤ Big ∧ Qd D.dice n := fun o ho => ⟨o, m, rfl, ho, m0, m1, hn, hQ⟩
      by_cases c1 : own < 0
      · rw [if_pos (decide_eq_true c1)]
        exact ⟨_, rfl, fin _ (by rw [if_pos c1]; omega)⟩
      · rw [if_neg (by simpa using c1)]
        refine ⟨_, w_g2I.trans (if_pos (by decide)), _, rfl, _, rfl, ?_⟩
        split
        · exact ⟨_, rfl, fin _ (by rw [if_neg c1]; omega)⟩
        · exact fin 0 (by omega)
abbrev s__law_roll : Stmt := topS 29
abbrev N__law_roll : List Str := ["dice", "total", "found"]
theorem sc__law_roll : FnScope N__law_roll ["dice", "total"] (defScope s__law_roll) := ⟨rfl, rfl, rfl, by decide +kernel, rfl, by decide +kernel, by decide +kernel⟩
theorem b__law_roll (kV doc pm : Value) (an : Option Addr) (cdv ct : Value) (us : List Value) (hl : us.length = (["dice", "total"] : List Str).length) : bindArgs (PySem.W.fnOf "_law_roll" "_law_roll" (defArgs s__law_roll) (defBody s__law_roll) (defScope s__law_roll) .none kV doc pm an cdv ct) ⟨us, []⟩ = pure ((["dice", "total"] : List Str).zip us) := match us, hl with | [_, _], _ => rfl
abbrev m__law_roll : MT := m_roll
theorem ok__law_roll {f : Addr} {fd : FuncData} (F : Fun K "_law_roll" "_law_roll" s__law_roll f fd) (hm : mg "_law_roll" = some (.ref f)) (B : Bi mg) : CalD P w K mg base T CX0 1 "_law_roll" s__law_roll ["dice", "total"] m__law_roll :=
  okRoll F hm sc__law_roll fun cdv A outer s H E =>
    pss_cons (ps_if (pt_cmpR op_gt (pe_ix ix_list (pv 0) pe_int (by intro _ _; rfl)) pe_int rfl) (pss_cons (ps_set (i := 2) sc__law_roll.nd rfl (.inl rfl) (pe_op op_mod (pe_callTy call_int1 (by rfl) B.int (by decide +kernel) (pa_cons (pe_ix ix_list (pv 0) pe_int (by intro _ _; rfl)) pa_nil) (by decide) (by decide) rfl rfl) (pv 1)) rfl (.inl rfl))
     (pss_cons (ps_asg (pe_op op_fdiv (pe_ix ix_list (pv 0) pe_int (by intro _ _; rfl)) (pv 1)) (pg_sub (pv 0) pe_int set_list (by intro _; rfl)) rfl rfl rfl)
     (pss_one (ps_ret (pv 2))))) pss_nil)
     (pss_cons (ps_asg (pe_op op_add (pe_ix ix_list (pv 0) pe_int (by intro _ _; rfl)) pe_int) (pg_sub (pv 0) pe_int set_list (by intro _; rfl)) rfl rfl rfl)
     (pss_cons (ps_asg (pe_op op_mod (pe_callTy call_int1 (by rfl) B.int (by decide +kernel) (pa_cons (pe_op op_add (pe_op op_add (pe_op op_mul (pe_ix ix_list (pv 0) pe_int (by intro _ _; rfl)) pe_int) (pe_op op_mul (pe_op op_mul (pe_ix ix_list (pv 0) pe_int (by intro _ _; rfl)) (pe_ix ix_list (pv 0) pe_int (by intro _ _; rfl))) pe_int)) pe_int) pa_nil) (by decide) (by decide) rfl rfl) pe_int) (pg_sub (pv 0) pe_int set_list (by intro _; rfl)) rfl rfl rfl)
     (pss_one (ps_ret (pe_op op_mod (pe_callTy call_int1 (by rfl) B.int (by decide +kernel) (pa_cons (pe_op op_fdiv (pe_ix ix_list (pv 0) pe_int (by intro _ _; rfl)) pe_int) pa_nil) (by decide) (by decide) rfl rfl) (pv 1))))))

abbrev s__law_pick : Stmt := topS 30
abbrev N__law_pick : List Str := ["dice", "things"]
theorem sc__law_pick : FnScope N__law_pick ["dice", "things"] (defScope s__law_pick) := ⟨rfl, rfl, rfl, by decide +kernel, rfl, by decide +kernel, by decide +kernel⟩
theorem b__law_pick (kV doc pm : Value) (an : Option Addr) (cdv ct : Value) (us : List Value) (hl : us.length = (["dice", "things"] : List Str).length) : bindArgs (PySem.W.fnOf "_law_pick" "_law_pick" (defArgs s__law_pick) (defBody s__law_pick) (defScope s__law_pick) .none kV doc pm an cdv ct) ⟨us, []⟩ = pure ((["dice", "things"] : List Str).zip us) := match us, hl with | [_, _], _ => rfl
def m__law_pick : MT := mt2 fun a b n Q _ => a = .dice ∧ ∃ l : List D, (b = .lst l ∨ b = .tup l) ∧ l ≠ [] ∧ l.length ≤ 1000000 ∧ 0 < n ∧ ∀ d ∈ l, Q d (n - 1)
theorem ok__law_pick {f : Addr} {fd : FuncData} (F : Fun K "_law_pick" "_law_pick" s__law_pick f fd) (hm : mg "_law_pick" = some (.ref f)) (B : Bi mg)  (C__law_roll : CalD P w K mg base T CX0 1 "_law_roll" s__law_roll ["dice", "total"] m__law_roll)  : CalD P w K mg base T CX0 2 "_law_pick" s__law_pick ["dice", "things"] m__law_pick := by
  refine okD F hm sc__law_pick ar2 (fun cdv A outer s G H n E ED hr => ⟨_, (pdss_one (pds_ret (pd_ix (pdv 1) (pd_callZ C__law_roll lk0 (hr.mono (by decide)) (by rfl) b__law_roll (pda_cons (pdv 0) (pda_cons (pd_callB cd_len (by rfl) B.len (by decide +kernel) (pda_cons (pdv 1) pda_nil)) pda_nil)))))), fun ds Qd hl h => ?_⟩)
  obtain ⟨a, b, rfl, rfl, l, hb, hne, hl2, hn, hQ⟩ := h
  have hpos : 0 < l.length := by cases l with
    | nil => exact absurd rfl hne
    | cons x r => simp
  have at_ : ∀ r : Int, 0 ≤ r → r < l.length → ∃ z, atI l r = some z ∧ Qd z (n - 1) := fun r r0 r1 => by
    have h2 : r.toNat < l.length := by omega
    exact ⟨l[r.toNat], by rw [atI_at r0 r1, List.getElem?_eq_getElem h2], hQ _ (List.getElem_mem _)⟩
  rcases hb with rfl | rfl
  · walk_at "dl"
    exact ⟨_, rfl, by omega, by omega, hn, fun r r0 r1 _ => at_ r r0 r1⟩
  · walk_at "dl"
    exact ⟨_, rfl, by omega, by omega, hn, fun r r0 r1 _ => at_ r r0 r1⟩
theorem comp_inv {α : Type} (c : α → D) (I : List α → List D → Nat → Prop) {gd : D → Option (List (Nat × D))} {dt : DT} {de : DE} {sl0 : List (Option SV)} {Q : List D → Nat → Prop}
    (step : ∀ x xs acc n, I (x :: xs) acc n → acc.length < 16777216 ∧ ∃ l, gd (c x) = some l ∧ ∀ K : List D → Nat → Prop, (∀ acc' n', I xs acc' n' → K acc' n') → dt ⟨setsD sl0 l, n⟩ fun b S2 => S2.sl = setsD sl0 l ∧ if b = true then de S2 fun y S3 => S3.sl = setsD sl0 l ∧ K (acc ++ [y]) S3.n else K acc S2.n)
    (fin : ∀ acc n, I [] acc n → Q acc n) : ∀ (xs : List α) (acc : List D) (n : Nat), I xs acc n → dComp gd dt de sl0 (xs.map c) acc n Q
  | [], acc, n, h => fin acc n h
  | x :: xs, acc, n, h => by
    obtain ⟨h1, l, h2, h3⟩ := step x xs acc n h
    exact ⟨h1, l, h2, h3 (fun acc' n' => dComp gd dt de sl0 (xs.map c) acc' n' Q) fun acc' n' hi => comp_inv c I step fin xs acc' n' hi⟩
abbrev s__law_o_distances : Stmt := topS 33
abbrev N__law_o_distances : List Str := ["dice", "most", "turn"]
theorem sc__law_o_distances : FnScope N__law_o_distances ["dice", "most"] (defScope s__law_o_distances) := ⟨rfl, rfl, rfl, by decide +kernel, rfl, by decide +kernel, by decide +kernel⟩
theorem b__law_o_distances (kV doc pm : Value) (an : Option Addr) (cdv ct : Value) (us : List Value) (hl : us.length = (["dice", "most"] : List Str).length) : bindArgs (PySem.W.fnOf "_law_o_distances" "_law_o_distances" (defArgs s__law_o_distances) (defBody s__law_o_distances) (defScope s__law_o_distances) .none kV doc pm an cdv ct) ⟨us, []⟩ = pure ((["dice", "most"] : List Str).zip us) := match us, hl with | [_, _], _ => rfl
def m__law_o_distances : MT := mt2 fun a b n Q _ => a = .dice ∧ ∃ j : Int, b = .int j ∧ 1 ≤ j ∧ j ≤ 6 ∧ 100 ≤ n ∧ ∀ (ds : List Nat) n', DsI (ds.map fun n : Nat => (n : Int)) → ds.length ≤ j.toNat → (∀ d ∈ ds, d ≤ 9) → n - 100 ≤ n' → n' ≤ n → Q (.tup (ds.map iD)) n'
theorem ok__law_o_distances {f : Addr} {fd : FuncData} (F : Fun K "_law_o_distances" "_law_o_distances" s__law_o_distances f fd) (hm : mg "_law_o_distances" = some (.ref f)) (B : Bi mg)  (C__law_roll : CalD P w K mg base T CX0 1 "_law_roll" s__law_roll ["dice", "total"] m__law_roll) (C__law_pick : CalD P w K mg base T CX0 2 "_law_pick" s__law_pick ["dice", "things"] m__law_pick)  : CalD P w K mg base T CX0 3 "_law_o_distances" s__law_o_distances ["dice", "most"] m__law_o_distances := by
  refine okD F hm sc__law_o_distances ar2 (fun cdv A outer s G H n E ED hr => ⟨_, (pdss_one (pds_ret (pd_callTy cd_tuple (by rfl) B.tuple (by decide +kernel) (pda_cons (pd_sorted (by rfl) B.sorted (by decide +kernel) (pda_cons (pd_lc rfl sc__law_o_distances.nd (pdi_range1 (by rfl) B.range (pda_cons (pd_op od_add pd_int (pd_callZ C__law_roll lk0 (hr.mono (by decide)) (by rfl) b__law_roll (pda_cons (pdv 0) (pda_cons (pdv 1) pda_nil)))) pda_nil)) (blkOk_by (own := [("turn", 2)]) (N := N__law_o_distances) (sc := defScope s__law_o_distances) (by decide +kernel)) (fun _ _ _ _ _ => pg_name (i := 2) sc__law_o_distances.nd rfl (by first | exact .inl rfl | exact .inr rfl)) (fun _ _ _ _ _ => pdts_nil) (fun _ _ _ _ _ => (pd_op od_add pd_int (pd_callZ C__law_pick lk0 (hr.mono (by decide)) (by rfl) b__law_pick (pda_cons (pdv 0) (pda_cons (pd_lst (pda_cons pd_int (pda_cons pd_int (pda_cons (pd_callZ C__law_roll lk0 (hr.mono (by decide)) (by rfl) b__law_roll (pda_cons (pdv 0) (pda_cons pd_int pda_nil))) (pda_cons (pd_callZ C__law_roll lk0 (hr.mono (by decide)) (by rfl) b__law_roll (pda_cons (pdv 0) (pda_cons pd_int pda_nil))) pda_nil))))) pda_nil)))))) pda_nil)) pda_nil)))), fun ds Qd hl h => ?_⟩)
  obtain ⟨a, b, rfl, rfl, j, rfl, h0, h6, hn, hQ⟩ := h
  walk_at "dl"
  refine ⟨_, rfl, by omega, by omega, by omega, fun r r0 r1 _ => ?_⟩
  walk_at "dl"
  refine ⟨⟨by omega, by omega⟩, ?_⟩
  refine comp_inv (fun x : D => x) (fun xs acc n' => ∃ l : List Int, acc = l.map D.int ∧ (∀ x ∈ l, 1 ≤ x ∧ x ≤ 9) ∧ l.length + xs.length = (1 + r).toNat ∧ n ≤ n' + 1 + 3 * l.length ∧ n' ≤ n) ?_ ?_ _ _ _ ?_ |> fun h => by rwa [List.map_id'] at h
  · rintro x xs acc n' ⟨l, rfl, hl0, hl1, hn', hn2⟩
    rw [List.length_cons] at hl1
    refine ⟨by rw [List.length_map]; omega, _, rfl, fun K hK => ?_⟩
    walk_at "dl"
    refine ⟨_, rfl, by omega, by omega, by omega, fun q q0 q1 _ => ?_⟩
    refine ⟨_, rfl, by omega, by omega, by omega, fun q' q0' q1' _ => ?_⟩
    refine ⟨_, _, rfl, rfl, _, .inl rfl, by simp, by simp, by omega, fun d hd _ => ?_⟩
    obtain ⟨z, rfl, z0, z1⟩ : ∃ z : Int, d = .int z ∧ 0 ≤ z ∧ z ≤ 8 := by
      simp only [List.mem_cons, List.not_mem_nil, or_false] at hd
      rcases hd with rfl | rfl | rfl | rfl
      · exact ⟨_, rfl, by omega, by omega⟩
      · exact ⟨_, rfl, by omega, by omega⟩
      · exact ⟨_, rfl, by omega, by omega⟩
      · exact ⟨_, rfl, by omega, by omega⟩
    walk_at "dl"
    refine hK _ _ ⟨l ++ [1 + z], by rw [List.map_append]; rfl, fun y hy => ?_, by rw [List.length_append]; simp; omega, by rw [List.length_append]; simp; omega, by omega⟩
    rcases List.mem_append.mp hy with hy | hy
    · exact hl0 y hy
    · rw [List.mem_singleton] at hy
      omega
  · rintro acc n' ⟨l, rfl, hl0, hl1, hn', hn2⟩
    rw [List.length_nil] at hl1
    refine ⟨l, rfl, fun ns' hp ha => ?_⟩
    have hlen := hp.length_eq
    have hd : DsI ns' := ⟨fun z => by
      rw [z] at hlen
      simp at hlen
      omega, by omega, fun d hdm => by
      have := hl0 d (hp.subset hdm)
      omega, ha⟩
    obtain ⟨ds, e⟩ := ds_nat hd
    subst e
    have e3 : (List.map D.int (List.map (fun n : Nat => (n : Int)) ds)) = ds.map iD := by rw [List.map_map]; rfl
    rw [e3]
    rw [List.length_map] at hlen
    refine hQ ds n' hd (by omega) (fun d hdm => ?_) (by omega) hn2
    have := hl0 d (hp.subset (List.mem_map.mpr ⟨d, hdm, rfl⟩))
    omega
  · refine ⟨[], rfl, fun x hx => absurd hx List.not_mem_nil, ?_, by simp; omega, by omega⟩
    rw [rgD_len]
    simp
end
end K1
set_option maxHeartbeats 1000000
namespace K1
open PySem PySem.Spec PyProof.Rows L2 DL KP
local macro_rules | `(tactic| walk_at "dl") => `(tactic| simp only [dSeq, dRet, dDice, dSortI, dMaxI, dLstRg, dLstRg1, dDst, dfDictT, dDGetN, dDPutN, dDisp, dSortKey, dSort3, dAugA, dStar, dZipT, dLenOl, dnAt, gdTrip, w_all3, dPopAt, dAppend, otAt, dCallG, noOwn, gdPair, dAsg, dIfS, dVar, dC, dOp, dB, dChain, dAnd, dOr, dNot, dAndV, dOrV, dNotV, dCall, dNil, dCons, dFn, dIf, dTup, dLst, dDrop, dNext, dNeg, dSl, dNoPart, dPart, dRaise, dYes, dTupI, dLstI, dStrI, dRg1, dRg2, dEnumL, dEnumT, dRevL, dRevT, dLc, setsD, wipeD, dPar, dPar3, dOwn, dfRep, dfLst, dfList, dfDict, dParFF, dParFP, dParPF, dFor, dgTup, dgCons, dgName, dgNil, dAsgG, dgSetIx, olAt, odAt, ent, froz,
  List.map_cons, List.map_nil, List.getElem?_cons_zero, List.getElem?_cons_succ, List.set_cons_zero, List.set_cons_succ, List.replicate, List.length_cons, List.length_nil, List.cons_append, List.nil_append, Nat.reduceAdd, Nat.reduceSub, Nat.reduceLeDiff,
  w_aug, decide_true, decide_false, w_iteA, w_some, w_none, w_bl, w_bl2, w_int, w_lst, w_tup, w_eq, w_mulL, w_mulR, w_mod, w_div, Int.reduceLT, Int.reduceNeg, Int.reducePow, Int.reduceAdd, Int.reduceSub, Int.reduceMul, and_self, w_cons, w_set, w_lrange, w_lrange1, w_ltup, w_llst, w_par, w_par3, w_tupL, w_tupT, w_listL, w_listT, w_all1, w_all2, w_own0, w_ownP, w_g2T, w_addI, w_addL, w_addT, w_lenT, w_lenL, w_intI, w_intB, w_eqI, w_neI, w_eqB, w_neB, w_ixT, w_ixL, w_slL, w_slT, w_keyI, w_keyS, w_ex, w_two, w_three, if_true, if_false, Bool.false_eq_true, Bool.true_eq_false, Bool.not_true, Bool.not_false, eq_self, true_and, and_true])

section
variable {P : Program} {w : World} {K : PySem.W.Frag} {mg : MG} {base : Heap} {T : TT0}


abbrev s__law_shuffled : Stmt := topS 32
abbrev N__law_shuffled : List Str := ["dice", "things", "left", "found", "turn"]
theorem sc__law_shuffled : FnScope N__law_shuffled ["dice", "things"] (defScope s__law_shuffled) := ⟨rfl, rfl, rfl, by decide +kernel, rfl, by decide +kernel, by decide +kernel⟩
theorem b__law_shuffled (kV doc pm : Value) (an : Option Addr) (cdv ct : Value) (us : List Value) (hl : us.length = (["dice", "things"] : List Str).length) : bindArgs (PySem.W.fnOf "_law_shuffled" "_law_shuffled" (defArgs s__law_shuffled) (defBody s__law_shuffled) (defScope s__law_shuffled) .none kV doc pm an cdv ct) ⟨us, []⟩ = pure ((["dice", "things"] : List Str).zip us) := match us, hl with | [_, _], _ => rfl
def m__law_shuffled : MT := mt2 fun a b n Q _ => a = .dice ∧ ∃ l : List D, (b = .lst l ∨ b = .tup l) ∧ l.length ≤ 1000 ∧ l.length ≤ n ∧ ∀ l', l'.Perm l → Q (.lst l') (n - l.length)
theorem seqI {r : Int} {n : Nat} (h0 : 0 ≤ r) (h1 : r < n) : seqIndex? r n = some r.toNat := by
  have h2 : ¬ r < 0 := by omega
  simp [seqIndex?, h0, h1, h2]
theorem perm_erase : ∀ {l : List D} {j : Nat} (h : j < l.length), (l[j] :: l.eraseIdx j).Perm l
  | x :: l, 0, _ => .refl _
  | x :: l, j + 1, h => by
    have h2 : j < l.length := by simpa using h
    show (l[j] :: x :: l.eraseIdx j).Perm (x :: l)
    exact (List.Perm.swap x l[j] _).trans ((perm_erase h2).cons x)
theorem ok__law_shuffled {f : Addr} {fd : FuncData} (F : Fun K "_law_shuffled" "_law_shuffled" s__law_shuffled f fd) (hm : mg "_law_shuffled" = some (.ref f)) (B : Bi mg)  (C__law_roll : CalD P w K mg base T CX0 1 "_law_roll" s__law_roll ["dice", "total"] m__law_roll)  : CalD P w K mg base T CX0 2 "_law_shuffled" s__law_shuffled ["dice", "things"] m__law_shuffled := by
  refine okD F hm sc__law_shuffled ar2 (fun cdv A outer s G H n E ED hr => ⟨_, (pdss_cons (pds_parFF (i := 2) (j := 3) rfl sc__law_shuffled.nd rfl rfl (by decide) rfl rfl (pdf_list (by rfl) B.list (pda_cons (pdv 1) pda_nil)) (pdf_lst pda_nil) (by rfl))
      (pdss_cons (pds_for PassesOwn.never rfl (pdi_range1 (by rfl) B.range (pda_cons (pd_lenOl (i := 2) (by rfl) B.len rfl (by first | exact Or.inl rfl | exact Or.inr (Or.inl rfl) | exact Or.inr (Or.inr rfl))) pda_nil)) (pdg_name (i := 4) sc__law_shuffled.nd rfl (.inl rfl)) (pdss_one (pds_expr (pd_append (i := 3) rfl (by first | exact Or.inl rfl | exact Or.inr (Or.inl rfl) | exact Or.inr (Or.inr rfl)) (pd_popAt (i := 2) rfl (by first | exact Or.inl rfl | exact Or.inr (Or.inl rfl) | exact Or.inr (Or.inr rfl)) (pd_callZ C__law_roll lk0 (hr.mono (by decide)) (by rfl) b__law_roll (pda_cons (pdv 0) (pda_cons (pd_lenOl (i := 2) (by rfl) B.len rfl (by first | exact Or.inl rfl | exact Or.inr (Or.inl rfl) | exact Or.inr (Or.inr rfl))) pda_nil))))))))
      (pdss_one (pds_ret (pdv 3))))), fun ds Qd hl h => ?_⟩)
  obtain ⟨a, b, rfl, rfl, l, hb, hz, hn, hQ⟩ := h
  rcases hb with rfl | rfl
  all_goals
    walk_at "dl"
    refine ⟨_, l, rfl, rfl, ⟨by omega, by omega⟩, ?_⟩
    rw [rgD_eq]
    refine loop_inv D.int (fun xs S => ∃ (lf fd : List D) (u v : Option SV) (n' : Nat), (fd ++ lf).Perm l ∧ lf.length = xs.length ∧ n' + l.length = n + xs.length ∧ S = ⟨[some (.p .dice), u, some (.ol lf), some (.ol fd), v], n'⟩) (fun x xs S hI K2 hK => ?_) (fun S hI => ?_) _ _ ⟨l, [], _, _, n, .refl _, by simp [rgI_len], by simp [rgI_len], rfl⟩
    · obtain ⟨lf, fd, u, v, n', hp, hlf, hn', rfl⟩ := hI
      rw [List.length_cons] at hlf hn'
      have hle := hp.length_eq
      rw [List.length_append] at hle
      walk_at "dl"
      refine ⟨_, rfl, by omega, by omega, by omega, fun r r0 r1 _ => ?_⟩
      have hj : r.toNat < lf.length := by omega
      have hsi := seqI r0 (show r < lf.length by omega)
      refine ⟨lf, r, r.toNat, lf[r.toNat], rfl, rfl, by omega, by omega, hsi, List.getElem?_eq_getElem hj, ?_⟩
      refine ⟨by omega, hK _ ⟨lf.eraseIdx r.toNat, fd ++ [lf[r.toNat]], _, _, _, ?_, ?_, ?_, rfl⟩⟩
      · rw [List.append_assoc]
        exact ((perm_erase hj).append_left fd).trans hp
      · rw [List.length_eraseIdx_of_lt hj]
        omega
      · omega
    · obtain ⟨lf, fd, u, v, n', hp, hlf, hn', rfl⟩ := hI
      have e : lf = [] := List.eq_nil_of_length_eq_zero hlf
      subst e
      rw [List.append_nil] at hp
      rw [List.length_nil] at hn'
      walk_at "dl"
      have := hQ fd hp
      rw [show n - l.length = n' by omega] at this
      exact this
theorem cut_take {α : Type} (l : List α) (k : Nat) : DL.cutD l none (some (k : Int)) = l.take k := by
  unfold DL.cutD
  have e1 : HT.sIx l.length l.length (some (k : Int)) = min k l.length := by
    rw [HT.sIx_nat]
  have e2 : HT.sIx l.length 0 none = 0 := rfl
  rw [e1, e2, List.drop_zero, Nat.sub_zero]
  rcases (by omega : l.length ≤ k ∨ k < l.length) with c | c
  · rw [List.take_of_length_le (by omega), List.take_of_length_le c]
  · rw [Nat.min_eq_left (by omega)]
theorem perm_nats {l' : List D} {l : List Nat} (h : l'.Perm (l.map iD)) : ∃ ks : List Nat, l' = ks.map iD ∧ ks.Perm l := by
  refine ⟨l'.map fun d => match d with | .int i => i.toNat | _ => 0, ?_, ?_⟩
  · rw [List.map_map]
    refine ((List.map_congr_left fun d hd => ?_).trans (List.map_id' l')).symm
    obtain ⟨k, _, rfl⟩ := List.mem_map.mp (h.subset hd)
    rfl
  · have h2 := h.map fun d => match d with | .int i => i.toNat | _ => 0
    rw [List.map_map] at h2
    have e : l.map ((fun d : D => match d with | .int i => i.toNat | _ => 0) ∘ iD) = l := (List.map_congr_left fun x _ => rfl).trans (List.map_id' l)
    rwa [e] at h2
abbrev s__law_o_holes : Stmt := topS 34
abbrev N__law_o_holes : List Str := ["dice", "distances", "many"]
theorem sc__law_o_holes : FnScope N__law_o_holes ["dice", "distances"] (defScope s__law_o_holes) := ⟨rfl, rfl, rfl, by decide +kernel, rfl, by decide +kernel, by decide +kernel⟩
theorem b__law_o_holes (kV doc pm : Value) (an : Option Addr) (cdv ct : Value) (us : List Value) (hl : us.length = (["dice", "distances"] : List Str).length) : bindArgs (PySem.W.fnOf "_law_o_holes" "_law_o_holes" (defArgs s__law_o_holes) (defBody s__law_o_holes) (defScope s__law_o_holes) .none kV doc pm an cdv ct) ⟨us, []⟩ = pure ((["dice", "distances"] : List Str).zip us) := match us, hl with | [_, _], _ => rfl
def m__law_o_holes : MT := mt2 fun a b n Q _ => a = .dice ∧ ∃ ds : List Nat, b = .tup (ds.map iD) ∧ ds.length ≤ 8 ∧ 100 ≤ n ∧ ∀ hs n', HsN ds hs → hs.length ≤ 3 → n - 100 ≤ n' → n' ≤ n → Q (.tup (hs.map iD)) n'
theorem ok__law_o_holes {f : Addr} {fd : FuncData} (F : Fun K "_law_o_holes" "_law_o_holes" s__law_o_holes f fd) (hm : mg "_law_o_holes" = some (.ref f)) (B : Bi mg)  (C__law_pick : CalD P w K mg base T CX0 2 "_law_pick" s__law_pick ["dice", "things"] m__law_pick) (C__law_shuffled : CalD P w K mg base T CX0 2 "_law_shuffled" s__law_shuffled ["dice", "things"] m__law_shuffled)  : CalD P w K mg base T CX0 3 "_law_o_holes" s__law_o_holes ["dice", "distances"] m__law_o_holes := by
  refine okD F hm sc__law_o_holes ar2 (fun cdv A outer s G H n E ED hr => ⟨_, (pdss_cons (pds_set (i := 2) sc__law_o_holes.nd rfl (.inl rfl) (pd_callZ C__law_pick lk0 (hr.mono (by decide)) (by rfl) b__law_pick (pda_cons (pdv 0) (pda_cons (pd_lst (pda_cons pd_int (pda_cons pd_int (pda_cons pd_int (pda_cons pd_int (pda_cons pd_int pda_nil)))))) pda_nil))))
      (pdss_one (pds_ret (pd_callTy cd_tuple (by rfl) B.tuple (by decide +kernel) (pda_cons (pd_sorted (by rfl) B.sorted (by decide +kernel) (pda_cons (pd_slice (pd_callZ C__law_shuffled lk0 (hr.mono (by decide)) (by rfl) b__law_shuffled (pda_cons (pdv 0) (pda_cons (pd_listRg1 rfl (by rfl) B.list (by rfl) B.range (pd_op od_add (pd_op od_mul pd_int (pd_callB cd_len (by rfl) B.len (by decide +kernel) (pda_cons (pdv 1) pda_nil))) (pdv 2))) pda_nil))) pdo_none (pdo_some (pdv 2))) pda_nil)) pda_nil))))), fun ds Qd hl h => ?_⟩)
  obtain ⟨a, b, rfl, rfl, ds, rfl, h8, hn, hQ⟩ := h
  walk_at "dl"
  refine ⟨_, _, rfl, rfl, _, .inl rfl, by simp, by simp, by omega, fun d hd _ => ?_⟩
  obtain ⟨k, rfl, k3⟩ : ∃ k : Nat, d = .int k ∧ k ≤ 3 := by
    simp only [List.mem_cons, List.not_mem_nil, or_false] at hd
    rcases hd with rfl | rfl | rfl | rfl | rfl
    · exact ⟨0, rfl, by omega⟩
    · exact ⟨0, rfl, by omega⟩
    · exact ⟨1, rfl, by omega⟩
    · exact ⟨2, rfl, by omega⟩
    · exact ⟨3, rfl, by omega⟩
  rw [List.length_map]
  have e1 : (2 * (ds.length : Int) + (k : Int)).toNat = 2 * ds.length + k := by omega
  refine ⟨_, rfl, _, rfl, ⟨by omega, by omega⟩, by omega, ?_⟩
  rw [e1, rgD_nat]
  refine ⟨_, _, rfl, rfl, _, .inl rfl, by simp; omega, by simp; omega, fun l' hp hle => ⟨_, rfl, _, rfl, ?_⟩⟩
  obtain ⟨ks, rfl, hks⟩ := perm_nats hp
  rw [cut_take, ← List.map_take]
  refine ⟨cN (ks.take k), by rw [nats_ints], fun ns' hp2 ha => ?_⟩
  have hkl := hks.length_eq
  rw [List.length_range] at hkl
  have hnn : ∀ x ∈ ns', 0 ≤ x := fun x hx => by
    obtain ⟨y, _, rfl⟩ := List.mem_map.mp (hp2.subset hx)
    omega
  obtain ⟨hs, rfl⟩ : ∃ hs : List Nat, ns' = cN hs := ⟨ns'.map Int.toNat, by
    show _ = List.map _ (List.map _ _)
    rw [List.map_map]
    refine ((List.map_congr_left fun x hx => ?_).trans (List.map_id' ns')).symm
    have := hnn x hx
    show ((x.toNat : Nat) : Int) = x
    omega⟩
  have hp3 : hs.Perm (ks.take k) := perm_of_cast hp2
  have hlen := hp3.length_eq
  rw [List.length_take] at hlen
  have hnd : hs.Nodup := hp3.nodup_iff.mpr (List.Pairwise.sublist (List.take_sublist _ _) (hks.nodup_iff.mpr List.nodup_range))
  rw [← nats_ints]
  refine hQ hs _ ⟨?_, fun x hx => ?_, by omega⟩ (by omega) ?_ ?_
  · rw [List.pairwise_map] at ha
    refine (ha.and hnd).imp fun {a b} z => ?_
    have z1 := z.1
    have z2 := z.2
    omega
  · have := List.mem_range.mp (hks.subset (List.mem_of_mem_take (hp3.subset hx)))
    omega
  · simp
    omega
  · simp
    omega
abbrev tI (l : List Int) : D := .tup (l.map .int)
def LT1 (xs : List D) (k : Nat) : Prop := ∃ ls : List (List Int), xs = ls.map tI ∧ ls.length ≤ k ∧ ∀ l ∈ ls, l.length ≤ 100
def NearV (x : D) : Prop := x = .non ∨ (∃ l, x = .lst l) ∨ ∃ ls : List (List Int), x = .tup (ls.map tI) ∧ ls.length ≤ 300 ∧ ∀ l ∈ ls, l.length ≤ 100
theorem LT1.cut {xs : List D} {k : Nat} (h : LT1 xs k) (a b : Option Int) : LT1 (DL.cutD xs a b) k := by
  obtain ⟨ls, rfl, h1, h2⟩ := h
  rw [DL.cutD_map]
  have := cutD_len ls a b
  refine ⟨_, rfl, by omega, fun l hl => h2 l ?_⟩
  unfold DL.cutD at hl
  first
    | exact List.mem_of_mem_drop (List.mem_of_mem_take hl)
    | exact List.mem_of_mem_take (List.mem_of_mem_drop hl)
theorem LT1.app {xs ys : List D} {k j : Nat} (h : LT1 xs k) (g : LT1 ys j) : LT1 (xs ++ ys) (k + j) := by
  obtain ⟨ls, rfl, h1, h2⟩ := h
  obtain ⟨ms, rfl, g1, g2⟩ := g
  refine ⟨ls ++ ms, by rw [List.map_append], by rw [List.length_append]; omega, fun l hl => ?_⟩
  rcases List.mem_append.mp hl with z | z
  · exact h2 l z
  · exact g2 l z
theorem LT1.one {xs : List D} {k : Nat} (h : LT1 xs k) (l : List Int) (hl : l.length ≤ 100) : LT1 (xs ++ [tI l]) (k + 1) := h.app ⟨[l], rfl, by simp, fun m hm => by
  rw [List.mem_singleton] at hm
  rw [hm]
  exact hl⟩
theorem LT1.rev {xs : List D} {k : Nat} (h : LT1 xs k) : LT1 xs.reverse k := by
  obtain ⟨ls, rfl, h1, h2⟩ := h
  exact ⟨ls.reverse, by rw [List.map_reverse], by rw [List.length_reverse]; omega, fun l hl => h2 l (List.mem_reverse.mp hl)⟩
theorem LT1.nv {xs : List D} {k : Nat} (h : LT1 xs k) (hk : k ≤ 300) : NearV (.tup xs) := by
  obtain ⟨ls, rfl, h1, h2⟩ := h
  exact .inr (.inr ⟨ls, rfl, by omega, h2⟩)
abbrev s__law_near : Stmt := topS 36
abbrev N__law_near : List Str := ["dice", "value", "at", "first", "second", "by", "moved"]
theorem sc__law_near : FnScope N__law_near ["dice", "value"] (defScope s__law_near) := ⟨rfl, rfl, rfl, by decide +kernel, rfl, by decide +kernel, by decide +kernel⟩
theorem b__law_near (kV doc pm : Value) (an : Option Addr) (cdv ct : Value) (us : List Value) (hl : us.length = (["dice", "value"] : List Str).length) : bindArgs (PySem.W.fnOf "_law_near" "_law_near" (defArgs s__law_near) (defBody s__law_near) (defScope s__law_near) .none kV doc pm an cdv ct) ⟨us, []⟩ = pure ((["dice", "value"] : List Str).zip us) := match us, hl with | [_, _], _ => rfl
def m__law_near : MT := mt2 fun a b n Q _ => a = .dice ∧ ∃ v : List Pr, b = .tup (v.map nD) ∧ v ≠ [] ∧ v.length ≤ 20 ∧ 50 ≤ n ∧ ∀ x n', NearV x → n - 50 ≤ n' → n' ≤ n → Q x n'
theorem ok__law_near {f : Addr} {fd : FuncData} (F : Fun K "_law_near" "_law_near" s__law_near f fd) (hm : mg "_law_near" = some (.ref f)) (B : Bi mg)  (C__law_roll : CalD P w K mg base T CX0 1 "_law_roll" s__law_roll ["dice", "total"] m__law_roll) (C__law_pick : CalD P w K mg base T CX0 2 "_law_pick" s__law_pick ["dice", "things"] m__law_pick)  : CalD P w K mg base T CX0 3 "_law_near" s__law_near ["dice", "value"] m__law_near := by
  refine okD F hm sc__law_near ar2 (fun cdv A outer s G H n E ED hr => ⟨_, (pdss_cons (pds_set (i := 2) sc__law_near.nd rfl (.inl rfl) (pd_callZ C__law_roll lk0 (hr.mono (by decide)) (by rfl) b__law_roll (pda_cons (pdv 0) (pda_cons (pd_callB cd_len (by rfl) B.len (by decide +kernel) (pda_cons (pdv 1) pda_nil)) pda_nil))))
      (pdss_cons (pds_asg (pd_ix (pdv 1) (pdv 2)) (pdg_tup (n := 2) rfl (pdgs_cons (pdg_name (i := 3) sc__law_near.nd rfl (.inl rfl)) (pdgs_cons (pdg_name (i := 4) sc__law_near.nd rfl (.inl rfl)) pdgs_nil))))
      (pdss_cons (pds_set (i := 5) sc__law_near.nd rfl (.inl rfl) (pd_callZ C__law_pick lk0 (hr.mono (by decide)) (by rfl) b__law_pick (pda_cons (pdv 0) (pda_cons (pd_lst (pda_cons pd_int (pda_cons (pd_neg pd_int) (pda_cons pd_int pda_nil)))) pda_nil))))
      (pdss_cons (pds_set (i := 6) sc__law_near.nd rfl (.inl rfl) (pd_op od_add (pd_op od_add (pd_slice (pdv 1) pdo_none (pdo_some (pdv 2))) (pd_tup (pda_cons (pd_tup (pda_cons (pd_op od_add (pdv 3) (pdv 5)) (pda_cons (pd_op od_add (pdv 4) (pdv 5)) pda_nil))) pda_nil))) (pd_slice (pdv 1) (pdo_some (pd_op od_add (pdv 2) pd_int)) pdo_none)))
      (pdss_one (pds_ret (pd_callZ C__law_pick lk0 (hr.mono (by decide)) (by rfl) b__law_pick (pda_cons (pdv 0) (pda_cons (pd_lst (pda_cons (pdv 6) (pda_cons (pdv 6) (pda_cons (pd_revT (pdv 1)) (pda_cons (pd_op od_add (pd_slice (pdv 1) (pdo_some pd_int) pdo_none) (pd_slice (pdv 1) pdo_none (pdo_some pd_int))) (pda_cons (pd_callTy cd_list (by rfl) B.list (by decide +kernel) (pda_cons (pdv 1) pda_nil)) (pda_cons pd_non (pda_cons (pd_op od_add (pd_op od_add (pd_slice (pdv 1) pdo_none (pdo_some (pdv 2))) (pd_tup (pda_cons (pd_tup (pda_cons (pdv 4) (pda_cons (pdv 3) pda_nil))) pda_nil))) (pd_slice (pdv 1) (pdo_some (pd_op od_add (pdv 2) pd_int)) pdo_none)) (pda_cons (pd_op od_add (pd_op od_add (pd_slice (pdv 1) pdo_none (pdo_some (pdv 2))) (pd_tup (pda_cons (pd_op od_add (pd_ix (pdv 1) (pdv 2)) (pd_tup (pda_cons pd_int pda_nil))) pda_nil))) (pd_slice (pdv 1) (pdo_some (pd_op od_add (pdv 2) pd_int)) pdo_none)) pda_nil))))))))) pda_nil))))))))), fun ds Qd hl h => ?_⟩)
  obtain ⟨a, b, rfl, rfl, v, rfl, hne, hl20, hn, hQ⟩ := h
  have hpos := List.length_pos_iff.mpr hne
  walk_at "dl"
  rw [List.length_map]
  refine ⟨_, rfl, by omega, by omega, by omega, fun r r0 r1 _ => ?_⟩
  have hr : v[r.toNat]? = some (v[r.toNat]'(by omega)) := List.getElem?_eq_getElem (by omega)
  generalize v[r.toNat]'(by omega) = p at hr
  have hat : gIx (.tup (v.map nD)) (.int r) = some (nD p) := by
    rw [w_ixT, atI_at r0 (by simp; omega), List.getElem?_map, hr]
    rfl
  refine ⟨_, hat, _, rfl, rfl, _, _, rfl, _, _, rfl, rfl, ?_⟩
  refine ⟨_, _, rfl, rfl, _, .inl rfl, by simp, by simp, by omega, fun d hd _ => ?_⟩
  obtain ⟨k, rfl⟩ : ∃ k : Int, d = .int k := by
    simp only [List.mem_cons, List.not_mem_nil, or_false] at hd
    rcases hd with rfl | rfl | rfl <;> exact ⟨_, rfl⟩
  walk_at "dl"
  have hc : ∀ a b, (DL.cutD (v.map nD) a b).length ≤ 20 := fun a b => by
    have := cutD_len (v.map nD) a b
    rw [List.length_map] at this
    omega
  have c1 := hc none (some r)
  have c2 := hc (some (r + 1)) none
  have c3 := hc (some 1) none
  have c4 := hc none (some 1)
  simp only [List.length_append, List.length_cons, List.length_nil]
  have hat2 : atI (v.map nD) r = some (nD p) := by
    rw [← w_ixT]
    exact hat
  have hz : gAdd (nD p) (D.tup [D.int 0]) = some (tI [p.1, p.2, 0]) := by
    show gAdd (.tup [.int p.1, .int p.2]) (D.tup [D.int 0]) = _
    rw [w_addT, if_pos (by simp)]
    rfl
  refine ⟨by omega, by omega, by omega, by omega, by omega, _, hat2, _, hz, by omega, by omega, ?_⟩
  refine ⟨_, _, rfl, rfl, _, .inl rfl, by simp, by simp, by omega, fun x hx _ => hQ x _ ?_ (by omega) (by omega)⟩
  have hv : LT1 (v.map nD) 20 := ⟨v.map fun p => [(p.1 : Int), (p.2 : Int)], by rw [List.map_map]; rfl, by rw [List.length_map]; omega, fun l hl => by
    obtain ⟨p, _, rfl⟩ := List.mem_map.mp hl
    show 2 ≤ 100
    decide⟩
  simp only [List.mem_cons, List.not_mem_nil, or_false] at hx
  rcases hx with rfl | rfl | rfl | rfl | rfl | rfl | rfl | rfl
  · exact (((hv.cut none (some r)).one [p.1 + k, p.2 + k] (by show 2 ≤ 100; decide)).app (hv.cut (some (r + 1)) none)).nv (by omega)
  · exact (((hv.cut none (some r)).one [p.1 + k, p.2 + k] (by show 2 ≤ 100; decide)).app (hv.cut (some (r + 1)) none)).nv (by omega)
  · exact hv.rev.nv (by omega)
  · exact ((hv.cut (some 1) none).app (hv.cut none (some 1))).nv (by omega)
  · exact .inr (.inl ⟨_, rfl⟩)
  · exact .inl rfl
  · exact (((hv.cut none (some r)).one [p.2, p.1] (by show 2 ≤ 100; decide)).app (hv.cut (some (r + 1)) none)).nv (by omega)
  · exact (((hv.cut none (some r)).one [p.1, p.2, 0] (by show 3 ≤ 100; decide)).app (hv.cut (some (r + 1)) none)).nv (by omega)
end
end K1
set_option maxHeartbeats 1000000
namespace K1
open PySem PySem.Spec PyProof.Rows L2 DL KP
local macro_rules | `(tactic| walk_at "dl") => `(tactic| simp only [dSeq, dRet, dDice, dSortI, dMaxI, dLstRg, dLstRg1, dDst, dfDictT, dDGetN, dDPutN, dDisp, dSortKey, dSort3, dAugA, dStar, dZipT, dLenOl, dnAt, gdTrip, w_all3, dPopAt, dAppend, otAt, dCallG, noOwn, gdPair, dAsg, dIfS, dVar, dC, dOp, dB, dChain, dAnd, dOr, dNot, dAndV, dOrV, dNotV, dCall, dNil, dCons, dFn, dIf, dTup, dLst, dDrop, dNext, dNeg, dSl, dNoPart, dPart, dRaise, dYes, dTupI, dLstI, dStrI, dRg1, dRg2, dEnumL, dEnumT, dRevL, dRevT, dLc, setsD, wipeD, dPar, dPar3, dOwn, dfRep, dfLst, dfList, dfDict, dParFF, dParFP, dParPF, dFor, dgTup, dgCons, dgName, dgNil, dAsgG, dgSetIx, olAt, odAt, ent, froz,
  List.map_cons, List.map_nil, List.getElem?_cons_zero, List.getElem?_cons_succ, List.set_cons_zero, List.set_cons_succ, List.replicate, List.length_cons, List.length_nil, List.cons_append, List.nil_append, Nat.reduceAdd, Nat.reduceSub, Nat.reduceLeDiff,
  w_aug, decide_true, decide_false, w_iteA, w_some, w_none, w_bl, w_bl2, w_int, w_lst, w_tup, w_eq, w_mulL, w_mulR, w_mod, w_div, Int.reduceLT, Int.reduceNeg, Int.reducePow, Int.reduceAdd, Int.reduceSub, Int.reduceMul, and_self, w_cons, w_set, w_lrange, w_lrange1, w_ltup, w_llst, w_par, w_par3, w_tupL, w_tupT, w_listL, w_listT, w_all1, w_all2, w_own0, w_ownP, w_g2T, w_addI, w_addL, w_addT, w_lenT, w_lenL, w_intI, w_intB, w_eqI, w_neI, w_eqB, w_neB, w_ixT, w_ixL, w_slL, w_slT, w_keyI, w_keyS, w_ex, w_two, w_three, if_true, if_false, Bool.false_eq_true, Bool.true_eq_false, Bool.not_true, Bool.not_false, eq_self, true_and, and_true])

section
variable {P : Program} {w : World} {K : PySem.W.Frag} {mg : MG} {base : Heap} {T : TT0}






theorem ref_raise {x f ret : Str} {de : (Exc → Nat → Prop) → DE} {S : DS} {Q : D → DS → Prop} (d : D) (n1 : Nat)
    (hde : ∀ (R : D → Nat → Prop) (N : DS → Prop), R d n1 → de (fun ex n => ∃ d, ex = (x, f, d) ∧ R d n) ⟨noOwn S.sl, S.n⟩ (fun _ S2 => N S2)) (hQ : Q d ⟨S.sl, n1⟩) : dRef x f ret de S Q :=
  hde (fun d n => n ≤ S.n → Q d ⟨S.sl, n⟩) _ fun _ => hQ
theorem ref_r0 {x f ret : Str} {de : (Exc → Nat → Prop) → DE} {S : DS} {Q : D → DS → Prop} (d : D)
    (hde : ∀ (R : D → Nat → Prop) (N : DS → Prop), R d S.n → de (fun ex n => ∃ d, ex = (x, f, d) ∧ R d n) ⟨noOwn S.sl, S.n⟩ (fun _ S2 => N S2)) (hQ : Q d ⟨S.sl, S.n⟩) : dRef x f ret de S Q := ref_raise d S.n hde hQ
theorem vOk_ints {l : List Int} (h : l.length ≤ 100000) : vOk (.tup (l.map .int)) := ⟨rfl, fun xs e => by
  injection e with e
  subst e
  refine ⟨fun x hx => ?_, by rw [List.length_map]; exact h⟩
  obtain ⟨i, _, rfl⟩ := List.mem_map.mp hx
  rfl⟩
theorem w_neRefl {k : Nat} {d : D} (h : Ok k d) (hk : k ≤ 64) (hs : d.isStr = false) : gNe d d = some (.bl false) := by
  rw [w_neO h h hk hk hs, deq_refl h]
  rfl
theorem arg_badD {a h : D} {n : Nat} {E : Exc → Nat → Prop} {Q : List Nat → List Nat → Prop} (ha : vOk a) (hb : areDs a = false) (he : E ("BadArgument", "name", .str "distances") n) : ArgH a h n E Q :=
  ⟨ha, fun _ => he, fun ds e hd => by rw [e, nats_ints, ds_iff.mpr hd] at hb; cases hb⟩
theorem vOk_nats {ds : List Nat} (hd : ds.length ≤ 100000) : vOk (.tup (ds.map iD)) := by
  rw [nats_ints]
  exact vOk_ints (by rw [List.length_map]; exact hd)
theorem arg_badH {ds : List Nat} {h : D} {n : Nat} {E : Exc → Nat → Prop} {Q : List Nat → List Nat → Prop} (hd : DsI (cN ds)) (hh : vOk h) (hb : areHs (lenH (cN ds) h) h = false) (he : E ("BadArgument", "name", .str "holes") n) : ArgH (.tup (ds.map iD)) h n E Q := by
  have h8 := hd.le
  rw [List.length_map] at h8
  refine ⟨vOk_nats (by omega), fun e => ?_, fun ds' e hd' => ?_⟩
  · rw [nats_ints, ds_iff.mpr hd] at e
    cases e
  · have e2 := nat_cast_inj e
    subst e2
    refine ⟨hh, fun _ => he, fun hs e hhs => ?_⟩
    rw [e, hs_iff.mpr hhs] at hb
    cases hb
theorem arg_ok {ds hs : List Nat} {n : Nat} {E : Exc → Nat → Prop} {Q : List Nat → List Nat → Prop} (hd : DsI (cN ds)) (hh : HsN ds hs) (hq : Q ds hs) : ArgH (.tup (ds.map iD)) (.tup (hs.map iD)) n E Q := by
  have h8 := hd.le
  rw [List.length_map] at h8
  have hh8 := hh.le
  refine ⟨vOk_nats (by omega), fun e => ?_, fun ds' e hd' => ?_⟩
  · rw [nats_ints, ds_iff.mpr hd] at e
    cases e
  · have e2 := nat_cast_inj e
    subst e2
    refine ⟨vOk_nats (by omega), fun e => ?_, fun hs' e hhs => ?_⟩
    · rw [hs_iff.mpr hh] at e
      cases e
    · have e3 := nat_cast_inj e
      subst e3
      exact hq
theorem hs_bad {L : Int} {l : List Int} (h : ascB true l = false ∨ (∃ x ∈ l, x < 0 ∨ L ≤ x) ∨ 8 < l.length) : areHs L (.tup (l.map .int)) = false := by
  rw [hs_at]
  rcases h with h | ⟨x, hx, h⟩ | h
  · rw [h, Bool.and_false]
  · rw [Bool.and_eq_false_iff]
    left
    unfold areIn
    rw [Bool.and_eq_false_iff]
    right
    rw [Bool.eq_false_iff]
    intro z
    have := all_isIn.mp z x hx
    omega
  · rw [Bool.and_eq_false_iff]
    left
    unfold areIn
    rw [List.length_map, show decide ((l.length : Int) ≤ 8) = false from decide_eq_false (by omega)]
    simp
theorem w_eqD4 : gEq (.lst [.str "distances", .str "holes", .str "holes", .str "distances"]) (.lst [.str "distances", .str "holes", .str "holes", .str "distances"]) = some (.bl true) := by
  have o1 : Ok 0 (.str "distances") := ⟨rfl, by rw [D.py, PyData.canLay0]; decide +kernel, by simp [D.py, PyData.depth]⟩
  have o2 : Ok 0 (.str "holes") := ⟨rfl, by rw [D.py, PyData.canLay0]; decide +kernel, by simp [D.py, PyData.depth]⟩
  have h : Ok 1 (.lst [.str "distances", .str "holes", .str "holes", .str "distances"]) := .lst fun d hd => by
    simp only [List.mem_cons, List.not_mem_nil, or_false] at hd
    rcases hd with rfl | rfl | rfl | rfl <;> assumption
  rw [w_eqO h h (by omega) (by omega) rfl, deq_refl h]
abbrev s__law_refuses : Stmt := topS 37
abbrev N__law_refuses : List Str := ["dice", "distances", "told", "bad", "odd"]
theorem sc__law_refuses : FnScope N__law_refuses ["dice", "distances"] (defScope s__law_refuses) := ⟨rfl, rfl, rfl, by decide +kernel, rfl, by decide +kernel, by decide +kernel⟩
theorem b__law_refuses (kV doc pm : Value) (an : Option Addr) (cdv ct : Value) (us : List Value) (hl : us.length = (["dice", "distances"] : List Str).length) : bindArgs (PySem.W.fnOf "_law_refuses" "_law_refuses" (defArgs s__law_refuses) (defBody s__law_refuses) (defScope s__law_refuses) .none kV doc pm an cdv ct) ⟨us, []⟩ = pure ((["dice", "distances"] : List Str).zip us) := match us, hl with | [_, _], _ => rfl
def m__law_refuses : MT := mt2 fun a b n Q _ => a = .dice ∧ ∃ ds : List Nat, b = .tup (ds.map iD) ∧ DsI (cN ds) ∧ 10 ≤ n ∧ ∀ n', n - 10 ≤ n' → n' ≤ n → Q (.bl true) n'
theorem ok__law_refuses {f : Addr} (F : FunL K mg base T "_law_refuses" s__law_refuses f) (hm : mg "_law_refuses" = some (.ref f)) (B : Bi mg)  (C__law_pick : CalD P w K mg base T CX0 2 "_law_pick" s__law_pick ["dice", "things"] m__law_pick) (C_fits_parity : CalD P w K mg base T (L2.CX P w) 5 "fits_parity" s_fits_parity ["distances", "holes"] m_fits_parity) (C_is_filling : CalD P w K mg base T (L2.CX P w) 5 "is_filling" s_is_filling ["distances", "holes", "value"] m_is_filling) (C_filling : CalD P w K mg base T (L2.CX P w) 5 "filling" s_filling ["distances", "holes"] m_filling) (C_fillings : CalD P w K mg base T (L2.CX P w) 5 "fillings" s_fillings ["distances", "holes"] m_fillings) (R__law_refused : RefD P w K mg "_law_refused" "BadArgument" "name" "")  : CalD P w K mg base T CX0 8 "_law_refuses" s__law_refuses ["dice", "distances"] m__law_refuses := by
  refine okDL F hm sc__law_refuses ar2 (fun cdv A outer s G H n E ED hr LA => ⟨_, (pdss_cons (pds_set (i := 3) sc__law_refuses.nd rfl (.inr rfl) (pd_callZ C__law_pick lk0 (hr.mono (by decide)) (by rfl) b__law_pick (pda_cons (pdv 0) (pda_cons (pd_lst (pda_cons pd_non (pda_cons (pd_tup pda_nil) (pda_cons (pd_callTy cd_list (by rfl) B.list (by decide +kernel) (pda_cons (pdv 1) pda_nil)) (pda_cons (pd_tup (pda_cons pd_int (pda_cons pd_int pda_nil))) (pda_cons (pd_tup (pda_cons pd_int pda_nil)) (pda_cons (pd_tup (pda_cons pd_int pda_nil)) (pda_cons (pd_op od_mulT2 (pd_tup (pda_cons pd_int pda_nil)) pd_int) (pda_cons (pd_tup (pda_cons pd_bl pda_nil)) pda_nil))))))))) pda_nil))))
      (pdss_cons (pds_set (i := 4) sc__law_refuses.nd rfl (.inr rfl) (pd_callZ C__law_pick lk0 (hr.mono (by decide)) (by rfl) b__law_pick (pda_cons (pdv 0) (pda_cons (pd_lst (pda_cons pd_non (pda_cons (pd_lst (pda_cons pd_int pda_nil)) (pda_cons (pd_tup (pda_cons pd_int (pda_cons pd_int pda_nil))) (pda_cons (pd_tup (pda_cons pd_int (pda_cons pd_int pda_nil))) (pda_cons (pd_tup (pda_cons (pd_neg pd_int) pda_nil)) (pda_cons (pd_tup (pda_cons (pd_op od_add (pd_op od_mul pd_int (pd_callB cd_len (by rfl) B.len (by decide +kernel) (pda_cons (pdv 1) pda_nil))) pd_int) pda_nil)) (pda_cons (pd_tup (pda_cons pd_int (pda_cons pd_int (pda_cons pd_int (pda_cons pd_int (pda_cons pd_int (pda_cons pd_int (pda_cons pd_int (pda_cons pd_int (pda_cons pd_int pda_nil)))))))))) pda_nil)))))))) pda_nil))))
      (pdss_cons (pds_set (i := 2) sc__law_refuses.nd rfl (.inl rfl) (pd_lst (pda_cons (pd_refused (k := 5) R__law_refused LA (hr.mono (by decide)) (by rfl) (LamX.lamS_by (sc := defScope s__law_refuses) (by decide +kernel)) (de := _) (fun A outer s2 H2 E2 fL c' G2 H02 n2 ED2 hr2 L2 => (pd_callZ C_fillings (lkX L2 (passes_call (takes_of rfl rfl rfl rfl) fun _ _ _ _ h => h)) (hr2.mono (by decide)) (by rfl) b_fillings (pda_cons (pdv 3) (pda_cons (pdv 4) pda_nil))))) (pda_cons (pd_refused (k := 5) R__law_refused LA (hr.mono (by decide)) (by rfl) (LamX.lamS_by (sc := defScope s__law_refuses) (by decide +kernel)) (de := _) (fun A outer s2 H2 E2 fL c' G2 H02 n2 ED2 hr2 L2 => (pd_callZ C_filling (lkX L2 (passes_call (takes_of rfl rfl rfl rfl) fun _ _ _ _ h => h)) (hr2.mono (by decide)) (by rfl) b_filling (pda_cons (pdv 1) (pda_cons (pdv 4) pda_nil))))) (pda_cons (pd_refused (k := 5) R__law_refused LA (hr.mono (by decide)) (by rfl) (LamX.lamS_by (sc := defScope s__law_refuses) (by decide +kernel)) (de := _) (fun A outer s2 H2 E2 fL c' G2 H02 n2 ED2 hr2 L2 => (pd_callZ C_is_filling (lkX L2 (passes_call (takes_of rfl rfl rfl rfl) fun _ _ _ _ h => h)) (hr2.mono (by decide)) (by rfl) b_is_filling (pda_cons (pdv 1) (pda_cons (pdv 4) (pda_cons (pd_tup pda_nil) pda_nil)))))) (pda_cons (pd_refused (k := 5) R__law_refused LA (hr.mono (by decide)) (by rfl) (LamX.lamS_by (sc := defScope s__law_refuses) (by decide +kernel)) (de := _) (fun A outer s2 H2 E2 fL c' G2 H02 n2 ED2 hr2 L2 => (pd_callZ C_fits_parity (lkX L2 (passes_call (takes_of rfl rfl rfl rfl) fun _ _ _ _ h => h)) (hr2.mono (by decide)) (by rfl) b_fits_parity (pda_cons (pdv 3) (pda_cons (pd_tup pda_nil) pda_nil))))) pda_nil))))))
      (pdss_one (pds_ret (pd_cmp (od_eq (hu64 hr)) (pdv 2) (pd_lst (pda_cons pd_str (pda_cons pd_str (pda_cons pd_str (pda_cons pd_str pda_nil))))) (nomark _))))))), fun ds Qd hl h => ?_⟩)
  obtain ⟨a, b, rfl, rfl, ds, rfl, hd, hn, hQ⟩ := h
  walk_at "dl"
  refine ⟨_, rfl, _, _, rfl, rfl, _, .inl rfl, by simp, by simp, by omega, fun d hdm _ => ?_⟩
  have hbd : vOk d ∧ areDs d = false := by
    simp only [List.mem_cons, List.not_mem_nil, or_false] at hdm
    rcases hdm with rfl | rfl | rfl | rfl | rfl | rfl | rfl | rfl
    · exact ⟨⟨rfl, fun xs e => by cases e⟩, rfl⟩
    · exact ⟨vOk_ints (l := []) (by simp), rfl⟩
    · exact ⟨⟨rfl, fun xs e => by cases e⟩, rfl⟩
    · exact ⟨vOk_ints (l := [2, 1]) (by simp), by decide +kernel⟩
    · exact ⟨vOk_ints (l := [0]) (by simp), by decide +kernel⟩
    · exact ⟨vOk_ints (l := [31]) (by simp), by decide +kernel⟩
    · exact ⟨vOk_ints (l := [1, 1, 1, 1, 1, 1, 1, 1, 1]) (by simp), by decide +kernel⟩
    · refine ⟨⟨rfl, fun xs e => ?_⟩, rfl⟩
      injection e with e
      subst e
      refine ⟨fun x hx => ?_, by simp⟩
      rw [List.mem_singleton.mp hx]
      rfl
  refine ⟨_, _, rfl, rfl, _, .inl rfl, by simp, by simp, by omega, fun h hhm _ => ?_⟩
  have hbh : vOk h ∧ areHs (lenH (cN ds) h) h = false := by
    simp only [List.mem_cons, List.not_mem_nil, or_false] at hhm
    rcases hhm with rfl | rfl | rfl | rfl | rfl | rfl | rfl
    · exact ⟨⟨rfl, fun xs e => by cases e⟩, rfl⟩
    · exact ⟨⟨rfl, fun xs e => by cases e⟩, rfl⟩
    · exact ⟨vOk_ints (l := [1, 0]) (by simp), hs_bad (l := [1, 0]) (.inl (by decide))⟩
    · exact ⟨vOk_ints (l := [0, 0]) (by simp), hs_bad (l := [0, 0]) (.inl (by decide))⟩
    · exact ⟨vOk_ints (l := [-1]) (by simp), hs_bad (l := [-1]) (.inr (.inl ⟨-1, by simp, by omega⟩))⟩
    · refine ⟨vOk_ints (l := [2 * ((ds.map iD).length : Int) + 1]) (by simp), hs_bad (l := [2 * ((ds.map iD).length : Int) + 1]) (.inr (.inl ⟨_, List.mem_singleton.mpr rfl, .inr ?_⟩))⟩
      show 2 * ((cN ds).length : Int) + 1 ≤ 2 * ((ds.map iD).length : Int) + 1
      rw [List.length_map, List.length_map]
      omega
    · exact ⟨vOk_ints (l := [0, 1, 2, 3, 4, 5, 6, 7, 8]) (by simp), hs_bad (l := [0, 1, 2, 3, 4, 5, 6, 7, 8]) (.inr (.inr (by decide)))⟩
  refine ref_r0 (.str "distances") (fun R N hR => ?_) ?_
  · walk_at "dl"
    exact ⟨_, _, rfl, arg_badD hbd.1 hbd.2 ⟨_, rfl, hR⟩⟩
  refine ref_r0 (.str "holes") (fun R N hR => ?_) ?_
  · walk_at "dl"
    exact ⟨_, _, rfl, arg_badH hd hbh.1 hbh.2 ⟨_, rfl, hR⟩⟩
  refine ref_r0 (.str "holes") (fun R N hR => ?_) ?_
  · walk_at "dl"
    exact ⟨_, _, _, rfl, arg_badH hd hbh.1 hbh.2 ⟨_, rfl, hR⟩⟩
  refine ref_r0 (.str "distances") (fun R N hR => ?_) ?_
  · walk_at "dl"
    exact ⟨_, _, rfl, arg_badD hbd.1 hbd.2 ⟨_, rfl, hR⟩⟩
  exact ⟨_, w_eqD4, hQ _ (by show n - 10 ≤ n - 1 - 1; omega) (by show n - 1 - 1 ≤ n; omega)⟩
end
end K1
set_option maxHeartbeats 1000000
namespace K1
open PySem PySem.Spec PyProof.Rows L2 DL KP
local macro_rules | `(tactic| walk_at "dl") => `(tactic| simp only [dSeq, dRet, dDice, dSortI, dMaxI, dLstRg, dLstRg1, dDst, dfDictT, dDGetN, dDPutN, dDisp, dSortKey, dSort3, dAugA, dStar, dZipT, dLenOl, dnAt, gdTrip, w_all3, dPopAt, dAppend, otAt, dCallG, noOwn, gdPair, dAsg, dIfS, dVar, dC, dOp, dB, dChain, dAnd, dOr, dNot, dAndV, dOrV, dNotV, dCall, dNil, dCons, dFn, dIf, dTup, dLst, dDrop, dNext, dNeg, dSl, dNoPart, dPart, dRaise, dYes, dTupI, dLstI, dStrI, dRg1, dRg2, dEnumL, dEnumT, dRevL, dRevT, dLc, setsD, wipeD, dPar, dPar3, dOwn, dfRep, dfLst, dfList, dfDict, dParFF, dParFP, dParPF, dFor, dgTup, dgCons, dgName, dgNil, dAsgG, dgSetIx, olAt, odAt, ent, froz,
  List.map_cons, List.map_nil, List.getElem?_cons_zero, List.getElem?_cons_succ, List.set_cons_zero, List.set_cons_succ, List.replicate, List.length_cons, List.length_nil, List.cons_append, List.nil_append, Nat.reduceAdd, Nat.reduceSub, Nat.reduceLeDiff,
  w_aug, decide_true, decide_false, w_iteA, w_some, w_none, w_bl, w_bl2, w_int, w_lst, w_tup, w_eq, w_mulL, w_mulR, w_mod, w_div, Int.reduceLT, Int.reduceNeg, Int.reducePow, Int.reduceAdd, Int.reduceSub, Int.reduceMul, and_self, w_cons, w_set, w_lrange, w_lrange1, w_ltup, w_llst, w_par, w_par3, w_tupL, w_tupT, w_listL, w_listT, w_all1, w_all2, w_own0, w_ownP, w_g2T, w_addI, w_addL, w_addT, w_lenT, w_lenL, w_intI, w_intB, w_eqI, w_neI, w_eqB, w_neB, w_ixT, w_ixL, w_slL, w_slT, w_keyI, w_keyS, w_ex, w_two, w_three, if_true, if_false, Bool.false_eq_true, Bool.true_eq_false, Bool.not_true, Bool.not_false, eq_self, true_and, and_true])

section
variable {P : Program} {w : World} {K : PySem.W.Frag} {mg : MG} {base : Heap} {T : TT0}












abbrev rowsN (ds hs : List Nat) : List (List Pr) := oa (lenN ds hs) hs ds
/-- what filling tells -/
def Found (ds hs : List Nat) (x : D) : Prop := (x = .non ∧ rowsN ds hs = []) ∨ ∃ w ∈ rowsN ds hs, x = vD w
theorem fill_go {ds hs : List Nat} {n : Nat} {Q : D → Nat → Prop} {E : Exc → Nat → Prop} (hd : DsI (cN ds)) (hh : HsN ds hs) (h : ∀ x, Found ds hs x → Q x n) : m_filling [.tup (ds.map iD), .tup (hs.map iD)] n Q E :=
  ⟨_, _, rfl, arg_ok hd hh ⟨fun e => h _ (.inl ⟨rfl, e⟩), fun w hw => h _ (.inr ⟨w, hw, rfl⟩)⟩⟩
theorem fills_go {ds hs : List Nat} {n : Nat} {Q : D → Nat → Prop} {E : Exc → Nat → Prop} (hd : DsI (cN ds)) (hh : HsN ds hs) (h : Q (.int (rowsN ds hs).length) n) : m_fillings [.tup (ds.map iD), .tup (hs.map iD)] n Q E :=
  ⟨_, _, rfl, arg_ok hd hh h⟩
theorem isf_go {ds hs : List Nat} {v : D} {n : Nat} {Q : D → Nat → Prop} {E : Exc → Nat → Prop} (hd : DsI (cN ds)) (hh : HsN ds hs) (hv : VV v) (h : ∀ b : Bool, (b = true ↔ ∃ w ∈ rowsN ds hs, v = vD w) → Q (.bl b) n) : m_is_filling [.tup (ds.map iD), .tup (hs.map iD), v] n Q E :=
  ⟨_, _, _, rfl, arg_ok hd hh ⟨hv, h⟩⟩
theorem par_go {ds hs : List Nat} {n : Nat} {Q : D → Nat → Prop} {E : Exc → Nat → Prop} (hd : DsI (cN ds)) (hh : HsN ds hs) (h : Q (.bl (decide ((freeL (lenN ds hs) hs).sum % 2 = ds.sum % 2))) n) : m_fits_parity [.tup (ds.map iD), .tup (hs.map iD)] n Q E :=
  ⟨_, _, rfl, arg_ok hd hh h⟩
theorem free_fm (ds hs : List Nat) : (List.range (2 * ds.length + hs.length)).filterMap (fun p => if p ∈ hs then none else some (iD p)) = (freeL (lenN ds hs) hs).map iD := by
  unfold freeL
  generalize List.range (2 * ds.length + hs.length) = rs
  induction rs with
  | nil => rfl
  | cons p rs ih =>
    by_cases c : p ∈ hs
    · rw [List.filterMap_cons, if_pos c, List.filter_cons, if_neg (by rw [decide_eq_true c]; decide)]
      exact ih
    · rw [List.filterMap_cons, if_neg c, List.filter_cons, if_pos (by rw [decide_eq_false c]; rfl)]
      show iD p :: _ = iD p :: _
      rw [ih]
def pL (p : Pr) : List Int := [(p.1 : Int), (p.2 : Int)]
theorem vD_tI (v : List Pr) : vD v = .tup ((v.map pL).map tI) := by
  unfold vD
  rw [List.map_map]
  rfl
theorem pL_inj : ∀ {a b : List Pr}, a.map pL = b.map pL → a = b
  | [], [], _ => rfl
  | [], _ :: _, h => by cases h
  | _ :: _, [], h => by cases h
  | x :: a, y :: b, h => by
    rw [List.map_cons, List.map_cons] at h
    injection h with h1 h2
    unfold pL at h1
    injection h1 with e1 h1
    injection h1 with e2 h1
    rw [pL_inj h2, Prod.ext (by omega : x.1 = y.1) (by omega : x.2 = y.2)]
theorem near_vD {v : List Pr} (h : v.length ≤ 300) : NearV (vD v) := .inr (.inr ⟨v.map pL, vD_tI v, by rw [List.length_map]; exact h, fun l hl => by
  obtain ⟨p, _, rfl⟩ := List.mem_map.mp hl
  show 2 ≤ 100
  decide⟩)
theorem VV_near {x : D} (h : NearV x) : VV x := by
  rcases h with rfl | ⟨l, rfl⟩ | ⟨ls, rfl, h1, h2⟩
  · exact ⟨rfl, fun xs e => by cases e⟩
  · exact ⟨rfl, fun xs e => by cases e⟩
  · refine ⟨rfl, fun xs e => ?_⟩
    injection e with e
    subst e
    refine ⟨by rw [List.length_map]; omega, fun x hx => ?_⟩
    obtain ⟨l, hl, rfl⟩ := List.mem_map.mp hx
    refine ⟨_, rfl, by rw [List.length_map]; exact h2 l hl, fun y hy => ?_⟩
    obtain ⟨i, _, rfl⟩ := List.mem_map.mp hy
    exact .inl ⟨i, rfl⟩
theorem w_inD {neg : Bool} {x : D} {l : List D} (hx : x.ok = true) (hl : (D.lst l).ok = true) : gInD neg x (.lst l) = some (.bl (if neg then !(l.any fun z => deq z x) else l.any fun z => deq z x)) := if_pos ⟨hx, hl⟩
theorem EqI.tt : EqI (fun ls : List (List Int) => D.tup (ls.map tI)) := (EqI.int.tup).tup
theorem in_tt {rs : List (List Pr)} {ls : List (List Int)} : ((rs.map vD).any fun z => deq z (.tup (ls.map tI))) = true ↔ ∃ w ∈ rs, D.tup (ls.map tI) = vD w := by
  rw [List.any_eq_true]
  constructor
  · rintro ⟨z, hz, h⟩
    obtain ⟨w, hw, rfl⟩ := List.mem_map.mp hz
    refine ⟨w, hw, ?_⟩
    rw [vD_tI] at h ⊢
    rw [show deq (D.tup ((w.map pL).map tI)) (D.tup (ls.map tI)) = decide (w.map pL = ls) from EqI.tt _ _, decide_eq_true_eq] at h
    rw [h]
  · rintro ⟨w, hw, h⟩
    refine ⟨vD w, List.mem_map.mpr ⟨w, hw, rfl⟩, ?_⟩
    rw [h]
    exact deq_refl (Ok.v w)
theorem in_vD {rs : List (List Pr)} {v : List Pr} : ((rs.map vD).any fun z => deq z (vD v)) = true ↔ ∃ w ∈ rs, vD v = vD w := by
  rw [vD_tI]
  exact in_tt
theorem fsA : fsL [("filling", m_filling)] "filling" = m_filling := fsL_hd
theorem fsB : fsL [("fillings", m_fillings)] "fillings" = m_fillings := fsL_hd
theorem fsC : fsL [("is_filling", m_is_filling)] "is_filling" = m_is_filling := fsL_hd
theorem fsD : fsL [("fits_parity", m_fits_parity)] "fits_parity" = m_fits_parity := fsL_hd
abbrev s__law_right : Stmt := topS 38
abbrev N__law_right : List Str := ["dice", "distances", "holes", "rows", "found", "free", "fits", "start", "turn", "near", "place", "distance"]
theorem sc__law_right : FnScope N__law_right ["dice"] (defScope s__law_right) := ⟨rfl, rfl, rfl, by decide +kernel, rfl, by decide +kernel, by decide +kernel⟩
theorem b__law_right (kV doc pm : Value) (an : Option Addr) (cdv ct : Value) (us : List Value) (hl : us.length = (["dice"] : List Str).length) : bindArgs (PySem.W.fnOf "_law_right" "_law_right" (defArgs s__law_right) (defBody s__law_right) (defScope s__law_right) .none kV doc pm an cdv ct) ⟨us, []⟩ = pure ((["dice"] : List Str).zip us) := match us, hl with | [_], _ => rfl
def m__law_right : MT := mt1 fun a n Q _ => a = .dice ∧ 1000 ≤ n ∧ ∀ n', n - 1000 ≤ n' → Q (.bl true) n'
theorem ok__law_right {f : Addr} {fd : FuncData} (F : Fun K "_law_right" "_law_right" s__law_right f fd) (hm : mg "_law_right" = some (.ref f)) (B : Bi mg)  (C__law_o_distances : CalD P w K mg base T CX0 3 "_law_o_distances" s__law_o_distances ["dice", "most"] m__law_o_distances) (C__law_o_holes : CalD P w K mg base T CX0 3 "_law_o_holes" s__law_o_holes ["dice", "distances"] m__law_o_holes) (C_filling : CalD P w K mg base T (L2.CX P w) 5 "filling" s_filling ["distances", "holes"] m_filling) (C__law_o_all : CalD P w K mg base T CX0 1 "_law_o_all" s__law_o_all ["distances", "holes"] m__law_o_all) (C_fillings : CalD P w K mg base T (L2.CX P w) 5 "fillings" s_fillings ["distances", "holes"] m_fillings) (C_is_filling : CalD P w K mg base T (L2.CX P w) 5 "is_filling" s_is_filling ["distances", "holes", "value"] m_is_filling) (C_fits_parity : CalD P w K mg base T (L2.CX P w) 5 "fits_parity" s_fits_parity ["distances", "holes"] m_fits_parity) (C__law_pick : CalD P w K mg base T CX0 2 "_law_pick" s__law_pick ["dice", "things"] m__law_pick) (C__law_near : CalD P w K mg base T CX0 3 "_law_near" s__law_near ["dice", "value"] m__law_near) (C__law_refuses : CalD P w K mg base T CX0 8 "_law_refuses" s__law_refuses ["dice", "distances"] m__law_refuses)  : CalD P w K mg base T CX0 9 "_law_right" s__law_right ["dice"] m__law_right := by
  refine okD F hm sc__law_right ar1 (fun cdv A outer s G H n E ED hr => ⟨_, (pdss_cons (pds_set (i := 1) sc__law_right.nd rfl (.inl rfl) (pd_callZ C__law_o_distances lk0 (hr.mono (by decide)) (by rfl) b__law_o_distances (pda_cons (pdv 0) (pda_cons pd_int pda_nil))))
      (pdss_cons (pds_set (i := 2) sc__law_right.nd rfl (.inr rfl) (pd_callZ C__law_o_holes lk0 (hr.mono (by decide)) (by rfl) b__law_o_holes (pda_cons (pdv 0) (pda_cons (pdv 1) pda_nil))))
      (pdss_cons (pds_par (i := 3) (j := 4) rfl sc__law_right.nd rfl rfl (by decide) rfl rfl (pda_cons (pd_callZ C__law_o_all lk0 (hr.mono (by decide)) (by rfl) b__law_o_all (pda_cons (pdv 1) (pda_cons (pdv 2) pda_nil))) (pda_cons (pd_callGK0 (k := 5) ["filling"] (fsL [("filling", m_filling)]) (can_cons (C_filling.canK (np := 0) (ks := ["holes", "distances"]) (perm := [(false, 1), (false, 0)]) (by decide) (fun _ _ _ _ _ _ us ws hu hw => match us, ws, hu, hw with | [], [_, _], _, _ => rfl)) can_nil) lkN (hr.mono (by decide)) (pd_fn (by rfl) C_filling.at_) (pda_kcons (pdv 2) (pda_kcons (pdv 1) pda_knil))) pda_nil)) (by rfl))
      (pdss_cons (pds_if (pdw_pt (pdw_or (pdt_cmp (od_ne (hu64 hr)) (pd_callZ C_fillings lkN (hr.mono (by decide)) (by rfl) b_fillings (pda_cons (pdv 1) (pda_cons (pdv 2) pda_nil))) (pd_callB cd_len (by rfl) B.len (by decide +kernel) (pda_cons (pdv 3) pda_nil)) (nomark _)) (pdw_or (pdt_cmp (od_ne (hu64 hr)) (pd_callGK0 (k := 5) ["fillings"] (fsL [("fillings", m_fillings)]) (can_cons (C_fillings.canK (np := 0) (ks := ["holes", "distances"]) (perm := [(false, 1), (false, 0)]) (by decide) (fun _ _ _ _ _ _ us ws hu hw => match us, ws, hu, hw with | [], [_, _], _, _ => rfl)) can_nil) lkN (hr.mono (by decide)) (pd_fn (by rfl) C_fillings.at_) (pda_kcons (pdv 2) (pda_kcons (pdv 1) pda_knil))) (pd_callB cd_len (by rfl) B.len (by decide +kernel) (pda_cons (pdv 3) pda_nil)) (nomark _)) (pdw_or1 (pdt_cmp (od_ne (hu64 hr)) (pd_cmp od_isN (pdv 4) pd_non (nomark _)) (pd_cmp (od_eq (hu64 hr)) (pdv 3) (pd_lst pda_nil) (nomark _)) (nomark _)))))) (pdss_one (pds_ret pd_bl)) pdss_nil)
      (pdss_cons (pds_if (pdw_pt (pdw_and (pdt_cmp od_notN (pdv 4) pd_non (nomark _)) (pdw_and1 (pdw_pt (pdw_or (pdt_cmp (od_notInD (hu65 hr)) (pdv 4) (pdv 3) rfl) (pdw_or1 (pdt_cmp od_notB (pd_callZ C_is_filling lkN (hr.mono (by decide)) (by rfl) b_is_filling (pda_cons (pdv 1) (pda_cons (pdv 2) (pda_cons (pdv 4) pda_nil)))) pd_bl (nomark _)))))))) (pdss_one (pds_ret pd_bl)) pdss_nil)
      (pdss_cons (pds_setLc (k := 5) rfl sc__law_right.nd rfl rfl (sw_true rfl rfl rfl (by decide +kernel)) (pdi_range1 (by rfl) B.range (pda_cons (pd_op od_add (pd_op od_mul pd_int (pd_callB cd_len (by rfl) B.len (by decide +kernel) (pda_cons (pdv 1) pda_nil))) (pd_callB cd_len (by rfl) B.len (by decide +kernel) (pda_cons (pdv 2) pda_nil))) pda_nil)) (blkOk_by (own := [("place", 10)]) (N := N__law_right) (sc := defScope s__law_right) (by decide +kernel)) (fun _ _ _ _ _ => pg_name (i := 10) sc__law_right.nd rfl (by first | exact .inl rfl | exact .inr rfl)) (fun _ _ _ _ _ => (pdts_one (pdt_cmp od_notInI (pdv 10) (pdv 2) rfl))) (fun _ _ _ _ _ => (pdv 10)))
      (pdss_cons (pds_set (i := 6) sc__law_right.nd rfl (.inl rfl) (pd_cmp (od_eq (hu64 hr)) (pd_op od_mod (pd_callTy cd_int (by rfl) B.int (by decide +kernel) (pda_cons (pd_op od_add (pd_callB (cd_sumB rfl) (by rfl) B.sum (by decide +kernel) (pda_cons (pdv 5) pda_nil)) (pd_callB (cd_sumB rfl) (by rfl) B.sum (by decide +kernel) (pda_cons (pdv 1) pda_nil))) pda_nil)) pd_int) pd_int (nomark _)))
      (pdss_cons (pds_if (pdw_pt (pdw_or (pdt_cmp (od_ne (hu64 hr)) (pd_callZ C_fits_parity lkN (hr.mono (by decide)) (by rfl) b_fits_parity (pda_cons (pdv 1) (pda_cons (pdv 2) pda_nil))) (pdv 6) (nomark _)) (pdw_or (pdt_cmp (od_ne (hu64 hr)) (pd_callGK0 (k := 5) ["fits_parity"] (fsL [("fits_parity", m_fits_parity)]) (can_cons (C_fits_parity.canK (np := 0) (ks := ["holes", "distances"]) (perm := [(false, 1), (false, 0)]) (by decide) (fun _ _ _ _ _ _ us ws hu hw => match us, ws, hu, hw with | [], [_, _], _, _ => rfl)) can_nil) lkN (hr.mono (by decide)) (pd_fn (by rfl) C_fits_parity.at_) (pda_kcons (pdv 2) (pda_kcons (pdv 1) pda_knil))) (pdv 6) (nomark _)) (pdw_or1 (pdw_pt (pdw_and (pdt_cmp (od_ne (hu64 hr)) (pdv 3) (pd_lst pda_nil) (nomark _)) (pdw_and1 (pdt_not (pdt_val (pdv 6)))))))))) (pdss_one (pds_ret pd_bl)) pdss_nil)
      (pdss_cons (pds_set (i := 7) sc__law_right.nd rfl (.inl rfl) (pd_if (pdt_cmp (od_ne (hu64 hr)) (pdv 3) (pd_lst pda_nil) (nomark _)) (pd_callZ C__law_pick lk0 (hr.mono (by decide)) (by rfl) b__law_pick (pda_cons (pdv 0) (pda_cons (pdv 3) pda_nil))) (pd_callTy cd_tuple (by rfl) B.tuple (by decide +kernel) (pda_cons (pd_lc rfl sc__law_right.nd (pdi_tup (pdv 1)) (blkOk_by (own := [("distance", 11)]) (N := N__law_right) (sc := defScope s__law_right) (by decide +kernel)) (fun _ _ _ _ _ => pg_name (i := 11) sc__law_right.nd rfl (by first | exact .inl rfl | exact .inr rfl)) (fun _ _ _ _ _ => pdts_nil) (fun _ _ _ _ _ => (pd_tup (pda_cons pd_int (pda_cons (pdv 11) pda_nil))))) pda_nil))))
      (pdss_cons (pds_for PassesOwn.never rfl (pdi_range1 (by rfl) B.range (pda_cons pd_int pda_nil)) (pdg_name (i := 8) sc__law_right.nd rfl (.inl rfl)) (pdss_cons (pds_set (i := 9) sc__law_right.nd rfl (.inl rfl) (pd_callZ C__law_near lk0 (hr.mono (by decide)) (by rfl) b__law_near (pda_cons (pdv 0) (pda_cons (pdv 7) pda_nil))))
      (pdss_one (pds_if (pdt_cmp (od_ne (hu64 hr)) (pd_callGK (k := 5) ["is_filling"] (fsL [("is_filling", m_is_filling)]) (can_cons (C_is_filling.canK (np := 2) (ks := ["value"]) (perm := [(true, 0), (true, 1), (false, 0)]) (by decide) (fun _ _ _ _ _ _ us ws hu hw => match us, ws, hu, hw with | [_, _], [_], _, _ => rfl)) can_nil) lkN (hr.mono (by decide)) (pd_fn (by rfl) C_is_filling.at_) (pda_cons (pdv 1) (pda_cons (pdv 2) pda_nil)) (pda_kcons (pdv 9) pda_knil)) (pd_and (pd_callB cd_isi (by rfl) B.isinstance (by decide +kernel) (pda_cons (pdv 9) (pda_cons (pd_ty (t := "tuple") (by rfl) B.tuple (by decide +kernel)) pda_nil))) (pd_one (pd_cmp (od_inD (hu65 hr)) (pdv 9) (pdv 3) rfl))) (nomark _)) (pdss_one (pds_ret pd_bl)) pdss_nil))))
      (pdss_one (pds_ret (pd_callZ C__law_refuses lk0 (hr.mono (by decide)) (by rfl) b__law_refuses (pda_cons (pdv 0) (pda_cons (pdv 1) pda_nil))))))))))))))), fun ds Qd hl h => ?_⟩)
  obtain ⟨a, rfl, rfl, hn, hQ⟩ := h
  generalize hT4 : dSeq (dFor _ _ _) (dRet (dCall ED0 m__law_refuses _)) = T4
  generalize hT3 : dSeq (dAsg 7 _) T4 = T3
  generalize hT2 : dSeq (dAsg 5 _) _ = T2
  walk_at "dl"
  refine ⟨_, _, rfl, rfl, 5, rfl, by decide, by decide, by omega, fun ds n1 hd hd5 hd9 hn1 hn1b _ => ?_⟩
  have h5 : ds.length ≤ 5 := hd5
  refine ⟨_, _, rfl, rfl, ds, rfl, by omega, by omega, fun hs n2 hh hh3 hn2 hn2b _ => ?_⟩
  have hpw : (2 * ds.length + hs.length) ^ ds.length ≤ 1000000 := Nat.le_trans (Nat.pow_le_pow_left (show 2 * ds.length + hs.length ≤ 13 by omega) _) (Nat.le_trans (Nat.pow_le_pow_right (by decide) h5) (by decide))
  refine ⟨_, _, rfl, ds, hs, rfl, rfl, fun d hdm => ?_, by omega, hpw, fun _ => ⟨_, rfl, List.mem_cons_self, ?_⟩⟩
  · have h1 := hd9 d hdm
    have h2 := hd.bd d (List.mem_map.mpr ⟨d, hdm, rfl⟩)
    omega
  have g := good_hs hd hh
  rw [fsA]
  refine fill_go hd hh fun x hx _ => fills_go hd hh fun _ => ⟨_, rfl, ?_⟩
  have hR : oa (2 * ds.length + hs.length) hs ds = rowsN ds hs := rfl
  rw [hR]
  have hnl : gNe (.int ((rowsN ds hs).length : Int)) (.int (((rowsN ds hs).map vD).length : Int)) = some (.bl false) := by
    rw [List.length_map]
    exact w_neRefl (Ok.int (k := 0) _) (by decide) rfl
  refine ⟨_, hnl, _, rfl, ?_⟩
  rw [if_neg (by decide)]
  refine ⟨_, rfl, List.mem_cons_self, ?_⟩
  rw [fsB]
  refine fills_go hd hh fun _ => ⟨_, rfl, _, hnl, _, rfl, ?_⟩
  rw [if_neg (by decide)]
  generalize hB : ({ nx := fun S => Qd D.non S.n, rt := fun d S => Qd d S.n } : DEnds) = B0
  have hrt : B0.rt = fun d S => Qd d S.n := by rw [← hB]
  have key : T2 B0 ⟨[some (.p .dice), some (.p (.tup (ds.map iD))), some (.p (.tup (hs.map iD))), some (.p (.lst ((rowsN ds hs).map vD))), some (.p x), none, none, none, none, none, none, none], n2⟩ := by
    rw [← hT2]
    walk_at "dl"
    rw [List.length_map, List.length_map]
    refine ⟨⟨by omega, by omega⟩, ?_⟩
    rw [show (2 * (ds.length : Int) + (hs.length : Int)).toNat = 2 * ds.length + hs.length by omega, rgD_nat]
    refine comp_on iD (fun p => if p ∈ hs then none else some (iD p)) _ [] (fun p hpm => ⟨_, rfl, fun K hK => ?_⟩) (by simp; omega) ?_
    · simp only [iD]
      walk_at "dl"
      refine ⟨_, w_inN, _, rfl, ?_⟩
      by_cases c : p ∈ hs
      · rw [if_pos c] at hK
        rw [decide_eq_true c]
        exact hK
      · rw [if_neg c] at hK
        rw [decide_eq_false c]
        exact hK
    · rw [List.nil_append, free_fm]
      have epar : decide (((((freeL (lenN ds hs) hs).sum : Nat) : Int) + ((ds.sum : Nat) : Int)) % 2 = 0) = decide ((freeL (lenN ds hs) hs).sum % 2 = ds.sum % 2) := by
        apply decide_eq_decide.mpr
        omega
      have hfit : rowsN ds hs ≠ [] → (freeL (lenN ds hs) hs).sum % 2 = ds.sum % 2 := fun hne => by
        obtain ⟨w, hw⟩ := List.exists_mem_of_ne_nil _ hne
        exact fil_parity g.2.pos g.2.asc hh.nd hh.lt g.2.hL rfl ((oa_iff g.2.pos g.2.asc).mp hw)
      generalize hpb : decide ((freeL (lenN ds hs) hs).sum % 2 = ds.sum % 2) = pb at epar
      have key3 : T3 B0 ⟨[some (.p .dice), some (.p (.tup (ds.map iD))), some (.p (.tup (hs.map iD))), some (.p (.lst ((rowsN ds hs).map vD))), some (.p x), some (.p (.lst ((freeL (lenN ds hs) hs).map iD))), some (.p (.bl pb)), none, none, none, none, none], n2⟩ := by
        have key4 : ∀ (v : List Pr) (n3 : Nat), v ≠ [] → v.length ≤ 20 → n2 - 1 ≤ n3 → n3 ≤ n2 → T4 B0 ⟨[some (.p .dice), some (.p (.tup (ds.map iD))), some (.p (.tup (hs.map iD))), some (.p (.lst ((rowsN ds hs).map vD))), some (.p x), some (.p (.lst ((freeL (lenN ds hs) hs).map iD))), some (.p (.bl pb)), some (.p (vD v)), none, none, none, none], n3⟩ := fun v n3 hv1 hv2 hn3 hn3b => by
          rw [← hT4, ← hB]
          walk_at "dl"
          refine ⟨⟨by decide, by decide⟩, ?_⟩
          refine loop_invD (fun xs S => ∃ (y8 y9 : Option SV) (n' : Nat), xs.length ≤ 6 ∧ n3 ≤ n' + 50 * (6 - xs.length) ∧ n' ≤ n3 ∧ S = ⟨[some (.p .dice), some (.p (.tup (ds.map iD))), some (.p (.tup (hs.map iD))), some (.p (.lst ((rowsN ds hs).map vD))), some (.p x), some (.p (.lst ((freeL (lenN ds hs) hs).map iD))), some (.p (.bl pb)), some (.p (vD v)), y8, y9, none, none], n'⟩)
            (fun z xs S hI K2 hK => ?_) (fun S hI => ?_) _ _ ⟨none, none, n3, by rw [rgD_len]; decide, by omega, by omega, rfl⟩
          · obtain ⟨y8, y9, n', hx6, hn', hn2c, rfl⟩ := hI
            rw [List.length_cons] at hx6 hn'
            walk_at "dl"
            refine ⟨_, _, rfl, rfl, v, rfl, hv1, hv2, by omega, fun y n4 hy hn4 hn4b _ => ⟨_, rfl, List.mem_cons_self, ?_⟩⟩
            rw [fsC]
            refine isf_go hd hh (VV_near hy) fun b hb _ => ?_
            have hcont : K2 ⟨[some (.p .dice), some (.p (.tup (ds.map iD))), some (.p (.tup (hs.map iD))), some (.p (.lst ((rowsN ds hs).map vD))), some (.p x), some (.p (.lst ((freeL (lenN ds hs) hs).map iD))), some (.p (.bl pb)), some (.p (vD v)), some (.p z), some (.p y), none, none], n4⟩ := hK _ ⟨_, _, n4, by omega, by omega, by omega, rfl⟩
            have hokl : Ok 3 (.lst ((rowsN ds hs).map vD)) := Ok.lst fun d hdm => by
              obtain ⟨v, _, rfl⟩ := List.mem_map.mp hdm
              exact Ok.v v
            rcases hy with rfl | ⟨l, rfl⟩ | ⟨ls, rfl, hy1, hy2⟩
            · have eb : b = false := by
                rw [Bool.eq_false_iff]
                intro z
                obtain ⟨w, _, e⟩ := hb.mp z
                cases e
              subst eb
              refine ⟨_, w_isTup rfl, _, rfl, ?_⟩
              rw [show D.isTup .non = false from rfl, if_neg (by decide)]
              refine ⟨_, w_neB, _, rfl, ?_⟩
              rw [decide_eq_true rfl, if_neg (by decide)]
              exact hcont
            · have eb : b = false := by
                rw [Bool.eq_false_iff]
                intro z
                obtain ⟨w, _, e⟩ := hb.mp z
                cases e
              subst eb
              refine ⟨_, w_isTup rfl, _, rfl, ?_⟩
              rw [show D.isTup (.lst l) = false from rfl, if_neg (by decide)]
              refine ⟨_, w_neB, _, rfl, ?_⟩
              rw [decide_eq_true rfl, if_neg (by decide)]
              exact hcont
            · have hoky : Ok 2 (.tup (ls.map tI)) := Ok.tup fun d hdm => by
                obtain ⟨l, _, rfl⟩ := List.mem_map.mp hdm
                exact Ok.tupI l
              have eb : (((rowsN ds hs).map vD).any fun z => deq z (.tup (ls.map tI))) = b := by
                rw [Bool.eq_iff_iff, in_tt]
                exact hb.symm
              refine ⟨_, w_isTup rfl, _, rfl, ?_⟩
              rw [show D.isTup (.tup (ls.map tI)) = true from rfl, if_pos rfl]
              refine ⟨_, w_inD (hoky.ok (by decide)) (hokl.ok (by decide)), ?_⟩
              rw [eb, if_neg (by decide)]
              refine ⟨_, w_neB, _, rfl, ?_⟩
              rw [decide_eq_true rfl, if_neg (by decide)]
              exact hcont
          · obtain ⟨y8, y9, n', hx6, hn', hn2c, rfl⟩ := hI
            rw [List.length_nil] at hn'
            walk_at "dl"
            refine ⟨_, _, rfl, rfl, ds, rfl, hd, by omega, fun n5 hn5 hn5b _ => hQ _ (by omega)⟩
        have hokv : ∀ d ∈ (rowsN ds hs).map vD, Ok 2 d := fun d hdm => by
          obtain ⟨v, _, rfl⟩ := List.mem_map.mp hdm
          exact Ok.v v
        rw [← hT3]
        walk_at "dl"
        refine ⟨_, w_neL hokv (by decide), _, rfl, ?_⟩
        by_cases hne : rowsN ds hs = []
        · rw [show decide (List.map vD (rowsN ds hs) = []) = true from decide_eq_true (by rw [hne]; rfl), if_neg (by decide)]
          refine comp_on iD (fun d => some (nD (0, d))) _ [] (fun d hdm => ⟨_, rfl, fun K hK => ?_⟩) (by simp; omega) ?_
          · simp only [iD]
            walk_at "dl"
            exact hK
          · rw [fm_map, List.nil_append]
            have e : D.tup (ds.map fun d => nD (0, d)) = vD (ds.map fun d => (0, d)) := by
              unfold vD
              rw [List.map_map]
              rfl
            rw [e]
            refine key4 _ _ (fun z => ?_) (by rw [List.length_map]; omega) (by omega) (by omega)
            have := List.map_eq_nil_iff.mp z
            exact hd.ne (by rw [this]; rfl)
        · rw [show decide (List.map vD (rowsN ds hs) = []) = false from decide_eq_false fun z => hne (List.map_eq_nil_iff.mp z), if_pos (show (!false) = true from rfl)]
          refine ⟨_, _, rfl, rfl, _, .inl rfl, fun z => hne (List.map_eq_nil_iff.mp z), ?_, by omega, fun d hdm _ => ?_⟩
          · rw [List.length_map]
            exact Nat.le_trans (oa_len _ hs ds) hpw
          · obtain ⟨w, hw, rfl⟩ := List.mem_map.mp hdm
            have hwl := oa_vlen hw
            refine key4 w _ (fun z => ?_) (by omega) (by omega) (by omega)
            rw [z] at hwl
            have hne2 := List.length_pos_iff.mpr hd.ne
            rw [List.length_map] at hne2
            simp at hwl
            omega
      have hokv : ∀ d ∈ (rowsN ds hs).map vD, Ok 2 d := fun d hdm => by
        obtain ⟨v, _, rfl⟩ := List.mem_map.mp hdm
        exact Ok.v v
      refine ⟨_, w_sumL, _, w_sumT, _, rfl, _, rfl, _, w_mod (by decide), _, w_eqI, ?_⟩
      rw [epar]
      refine par_go hd hh fun _ => ⟨_, w_neB, _, rfl, ?_⟩
      rw [hpb, decide_eq_true rfl, if_neg (by decide)]
      refine ⟨_, rfl, List.mem_cons_self, ?_⟩
      rw [fsD]
      refine par_go hd hh fun _ => ⟨_, w_neB, _, rfl, ?_⟩
      rw [hpb, decide_eq_true rfl, if_neg (by decide)]
      refine ⟨_, w_neL hokv (by decide), _, rfl, ?_⟩
      by_cases hne : rowsN ds hs = []
      · rw [show decide (List.map vD (rowsN ds hs) = []) = true from decide_eq_true (by rw [hne]; rfl), if_neg (by decide)]
        exact key3
      · rw [show decide (List.map vD (rowsN ds hs) = []) = false from decide_eq_false fun z => hne (List.map_eq_nil_iff.mp z), if_pos (show (!false) = true from rfl)]
        refine ⟨_, rfl, ?_⟩
        rw [← hpb, decide_eq_true (hfit hne), if_neg (by decide)]
        rw [← hpb, decide_eq_true (hfit hne)] at key3
        exact key3
  have hokv : ∀ d ∈ (rowsN ds hs).map vD, Ok 2 d := fun d hdm => by
    obtain ⟨v, _, rfl⟩ := List.mem_map.mp hdm
    exact Ok.v v
  have hokl : Ok 3 (.lst ((rowsN ds hs).map vD)) := Ok.lst hokv
  rcases hx with ⟨rfl, hR0⟩ | ⟨w, hw, rfl⟩
  · rw [hR0] at key hokv ⊢
    refine ⟨_, rfl, _, w_eqL hokv (by decide), _, w_neB, _, rfl, ?_⟩
    rw [if_neg (by decide)]
    refine ⟨_, rfl, _, rfl, ?_⟩
    rw [if_neg (by decide)]
    exact key
  · refine ⟨_, rfl, _, w_eqL hokv (by decide), _, w_neB, _, rfl, ?_⟩
    have hne : rowsN ds hs ≠ [] := fun z => by rw [z] at hw; cases hw
    rw [show (vD w).isNon = false from rfl, show decide (List.map vD (rowsN ds hs) = []) = false from decide_eq_false fun z => hne (List.map_eq_nil_iff.mp z), if_neg (by decide)]
    refine ⟨_, rfl, _, rfl, (if_pos rfl).mpr ?_⟩
    refine ⟨_, w_inD ((Ok.v w).ok (by decide)) (hokl.ok (by decide)), _, rfl, ?_⟩
    rw [in_vD.mpr ⟨w, hw, rfl⟩, if_pos rfl, if_neg (by decide)]
    refine isf_go hd hh (VV_near (near_vD (by
      have := oa_vlen hw
      omega))) fun b hb _ => ?_
    rw [hb.mpr ⟨w, hw, rfl⟩]
    refine ⟨_, rfl, _, rfl, ?_⟩
    rw [if_neg (by decide)]
    exact key
end
end K1
set_option maxHeartbeats 1000000
namespace K1
open PySem PySem.Spec PyProof.Rows L2 DL KP
local macro_rules | `(tactic| walk_at "dl") => `(tactic| simp only [dSeq, dRet, dDice, dSortI, dMaxI, dLstRg, dLstRg1, dDst, dfDictT, dDGetN, dDPutN, dDisp, dSortKey, dSort3, dAugA, dStar, dZipT, dLenOl, dnAt, gdTrip, w_all3, dPopAt, dAppend, otAt, dCallG, noOwn, gdPair, dAsg, dIfS, dVar, dC, dOp, dB, dChain, dAnd, dOr, dNot, dAndV, dOrV, dNotV, dCall, dNil, dCons, dFn, dIf, dTup, dLst, dDrop, dNext, dNeg, dSl, dNoPart, dPart, dRaise, dYes, dTupI, dLstI, dStrI, dRg1, dRg2, dEnumL, dEnumT, dRevL, dRevT, dLc, setsD, wipeD, dPar, dPar3, dOwn, dfRep, dfLst, dfList, dfDict, dParFF, dParFP, dParPF, dFor, dgTup, dgCons, dgName, dgNil, dAsgG, dgSetIx, olAt, odAt, ent, froz,
  List.map_cons, List.map_nil, List.getElem?_cons_zero, List.getElem?_cons_succ, List.set_cons_zero, List.set_cons_succ, List.replicate, List.length_cons, List.length_nil, List.cons_append, List.nil_append, Nat.reduceAdd, Nat.reduceSub, Nat.reduceLeDiff,
  w_aug, decide_true, decide_false, w_iteA, w_some, w_none, w_bl, w_bl2, w_int, w_lst, w_tup, w_eq, w_mulL, w_mulR, w_mod, w_div, Int.reduceLT, Int.reduceNeg, Int.reducePow, Int.reduceAdd, Int.reduceSub, Int.reduceMul, and_self, w_cons, w_set, w_lrange, w_lrange1, w_ltup, w_llst, w_par, w_par3, w_tupL, w_tupT, w_listL, w_listT, w_all1, w_all2, w_own0, w_ownP, w_g2T, w_addI, w_addL, w_addT, w_lenT, w_lenL, w_intI, w_intB, w_eqI, w_neI, w_eqB, w_neB, w_ixT, w_ixL, w_slL, w_slT, w_keyI, w_keyS, w_ex, w_two, w_three, if_true, if_false, Bool.false_eq_true, Bool.true_eq_false, Bool.not_true, Bool.not_false, eq_self, true_and, and_true])

section
variable {P : Program} {w : World} {K : PySem.W.Frag} {mg : MG} {base : Heap} {T : TT0}




def plN (k a : Nat) : List Nat := (List.range k).map (· + a)
def f1 (k : Nat) : Bool := decide (0 < ((rowsN (plN k 1) []).length : Int)) == decide (((k : Int) % 4) ∈ [(0 : Int), 1])
def f2 (k : Nat) : Bool := decide (0 < ((rowsN (plN k 1) [2 * k - 1]).length : Int)) == decide (((k : Int) % 4) ∈ [(2 : Int), 3])
def f3 (k : Nat) : Bool := decide (0 < ((rowsN (plN k 2) []).length : Int)) == decide (((k : Int) % 4) ∈ [(0 : Int), 3])
def f4 (k : Nat) : Bool := areDs (.tup ((cN (plN k 1)).map .int)) && areDs (.tup ((cN (plN k 2)).map .int))
theorem f1_ok : ∀ k ∈ [1, 2, 3, 4, 5, 6], f1 k = true := List.all_eq_true.mp (by decide +kernel)
theorem f2_ok : ∀ k ∈ [1, 2, 3, 4, 5, 6], f2 k = true := List.all_eq_true.mp (by decide +kernel)
theorem f3_ok : ∀ k ∈ [1, 2, 3, 4, 5, 6], f3 k = true := List.all_eq_true.mp (by decide +kernel)
theorem f4_ok : ∀ k ∈ [1, 2, 3, 4, 5, 6], f4 k = true := List.all_eq_true.mp (by decide +kernel)
theorem pl_len (k a : Nat) : (plN k a).length = k := by simp [plN]
theorem no_hs {ds : List Nat} : HsN ds [] := ⟨List.Pairwise.nil, fun x hx => absurd hx List.not_mem_nil, by decide⟩
theorem w_gtI {i j : Int} : g2I bTrue (fun i j => D.bl (decide (j < i))) (.int i) (.int j) = some (.bl (decide (j < i))) := rfl
abbrev s__law_rules_right : Stmt := topS 39
abbrev N__law_rules_right : List Str := ["n", "plain", "later", "told", "one"]
theorem sc__law_rules_right : FnScope N__law_rules_right ["n"] (defScope s__law_rules_right) := ⟨rfl, rfl, rfl, by decide +kernel, rfl, by decide +kernel, by decide +kernel⟩
theorem b__law_rules_right (kV doc pm : Value) (an : Option Addr) (cdv ct : Value) (us : List Value) (hl : us.length = (["n"] : List Str).length) : bindArgs (PySem.W.fnOf "_law_rules_right" "_law_rules_right" (defArgs s__law_rules_right) (defBody s__law_rules_right) (defScope s__law_rules_right) .none kV doc pm an cdv ct) ⟨us, []⟩ = pure ((["n"] : List Str).zip us) := match us, hl with | [_], _ => rfl
def m__law_rules_right : MT := mt1 fun a n Q _ => ∃ k : Int, a = .int k ∧ 1 ≤ k ∧ k ≤ 6 ∧ Q (.bl true) n
theorem ok__law_rules_right {f : Addr} {fd : FuncData} (F : Fun K "_law_rules_right" "_law_rules_right" s__law_rules_right f fd) (hm : mg "_law_rules_right" = some (.ref f)) (B : Bi mg)  (C_fillings : CalD P w K mg base T (L2.CX P w) 5 "fillings" s_fillings ["distances", "holes"] m_fillings)  : CalD P w K mg base T CX0 6 "_law_rules_right" s__law_rules_right ["n"] m__law_rules_right := by
  refine okD F hm sc__law_rules_right ar1 (fun cdv A outer s G H n E ED hr => ⟨_, (pdss_cons (pds_par (i := 1) (j := 2) rfl sc__law_rules_right.nd rfl rfl (by decide) rfl rfl (pda_cons (pd_callTy cd_tuple (by rfl) B.tuple (by decide +kernel) (pda_cons (pd_lc rfl sc__law_rules_right.nd (pdi_range1 (by rfl) B.range (pda_cons (pdv 0) pda_nil)) (blkOk_by (own := [("one", 4)]) (N := N__law_rules_right) (sc := defScope s__law_rules_right) (by decide +kernel)) (fun _ _ _ _ _ => pg_name (i := 4) sc__law_rules_right.nd rfl (by first | exact .inl rfl | exact .inr rfl)) (fun _ _ _ _ _ => pdts_nil) (fun _ _ _ _ _ => (pd_op od_add (pdv 4) pd_int))) pda_nil)) (pda_cons (pd_callTy cd_tuple (by rfl) B.tuple (by decide +kernel) (pda_cons (pd_lc rfl sc__law_rules_right.nd (pdi_range1 (by rfl) B.range (pda_cons (pdv 0) pda_nil)) (blkOk_by (own := [("one", 4)]) (N := N__law_rules_right) (sc := defScope s__law_rules_right) (by decide +kernel)) (fun _ _ _ _ _ => pg_name (i := 4) sc__law_rules_right.nd rfl (by first | exact .inl rfl | exact .inr rfl)) (fun _ _ _ _ _ => pdts_nil) (fun _ _ _ _ _ => (pd_op od_add (pdv 4) pd_int))) pda_nil)) pda_nil)) (by rfl))
      (pdss_cons (pds_set (i := 3) sc__law_rules_right.nd rfl (.inl rfl) (pd_lst (pda_cons (pd_cmp od_gt (pd_callZ C_fillings lkN (hr.mono (by decide)) (by rfl) b_fillings (pda_cons (pdv 1) (pda_cons (pd_tup pda_nil) pda_nil))) pd_int (nomark _)) (pda_cons (pd_cmp od_gt (pd_callZ C_fillings lkN (hr.mono (by decide)) (by rfl) b_fillings (pda_cons (pdv 1) (pda_cons (pd_tup (pda_cons (pd_op od_sub (pd_op od_mul pd_int (pdv 0)) pd_int) pda_nil)) pda_nil))) pd_int (nomark _)) (pda_cons (pd_cmp od_gt (pd_callZ C_fillings lkN (hr.mono (by decide)) (by rfl) b_fillings (pda_cons (pdv 2) (pda_cons (pd_tup pda_nil) pda_nil))) pd_int (nomark _)) pda_nil)))))
      (pdss_one (pds_ret (pd_cmp (od_eq (hu64 hr)) (pdv 3) (pd_lst (pda_cons (pd_cmp od_inI (pd_op od_mod (pd_callTy cd_int (by rfl) B.int (by decide +kernel) (pda_cons (pdv 0) pda_nil)) pd_int) (pd_tup (pda_cons pd_int (pda_cons pd_int pda_nil))) rfl) (pda_cons (pd_cmp od_inI (pd_op od_mod (pd_callTy cd_int (by rfl) B.int (by decide +kernel) (pda_cons (pdv 0) pda_nil)) pd_int) (pd_tup (pda_cons pd_int (pda_cons pd_int pda_nil))) rfl) (pda_cons (pd_cmp od_inI (pd_op od_mod (pd_callTy cd_int (by rfl) B.int (by decide +kernel) (pda_cons (pdv 0) pda_nil)) pd_int) (pd_tup (pda_cons pd_int (pda_cons pd_int pda_nil))) rfl) pda_nil)))) (nomark _)))))), fun ds Qd hl h => ?_⟩)
  obtain ⟨a, rfl, k, rfl, h1, h6, hQ⟩ := h
  obtain ⟨j, rfl⟩ : ∃ j : Nat, k = (j : Int) := ⟨k.toNat, by omega⟩
  have hj : j ∈ [1, 2, 3, 4, 5, 6] := by
    simp only [List.mem_cons, List.not_mem_nil, or_false]
    omega
  have g1 := f1_ok j hj
  have g2 := f2_ok j hj
  have g3 := f3_ok j hj
  have g4 := f4_ok j hj
  unfold f1 at g1
  unfold f2 at g2
  unfold f3 at g3
  unfold f4 at g4
  rw [beq_iff_eq] at g1 g2 g3
  rw [Bool.and_eq_true] at g4
  have d1 : DsI (cN (plN j 1)) := ds_iff.mp g4.1
  have d2 : DsI (cN (plN j 2)) := ds_iff.mp g4.2
  walk_at "dl"
  refine ⟨⟨by omega, by omega⟩, ?_⟩
  rw [show ((j : Int)).toNat = j by omega, rgD_nat]
  refine comp_on iD (fun p => some (iD (p + 1))) _ [] (fun p hpm => ⟨_, rfl, fun K hK => ?_⟩) (by simp; omega) ?_
  · simp only [iD]
    walk_at "dl"
    exact hK
  · rw [fm_map, List.nil_append]
    refine ⟨⟨by omega, by omega⟩, ?_⟩
    refine comp_on iD (fun p => some (iD (p + 2))) _ [] (fun p hpm => ⟨_, rfl, fun K hK => ?_⟩) (by simp; omega) ?_
    · simp only [iD]
      walk_at "dl"
      exact hK
    · rw [fm_map, List.nil_append]
      have e1 : ((List.range j).map fun p => iD (p + 1)) = (plN j 1).map iD := by
        unfold plN
        rw [List.map_map]
        rfl
      have e2 : ((List.range j).map fun p => iD (p + 2)) = (plN j 2).map iD := by
        unfold plN
        rw [List.map_map]
        rfl
      have e3 : D.tup [D.int (2 * (j : Int) - 1)] = .tup ([2 * j - 1].map iD) := by
        show D.tup [D.int (2 * (j : Int) - 1)] = .tup [D.int ((2 * j - 1 : Nat) : Int)]
        rw [show (2 * (j : Int) - 1) = ((2 * j - 1 : Nat) : Int) by omega]
      have e4 : D.tup [] = .tup (([] : List Nat).map iD) := rfl
      have hh2 : HsN (plN j 1) [2 * j - 1] := ⟨List.pairwise_singleton .., fun x hx => by
        rw [List.mem_singleton] at hx
        rw [pl_len]
        simp
        omega, by show 1 ≤ 8; decide⟩
      rw [e1, e2, e3, e4]
      refine fills_go d1 no_hs fun _ => ⟨_, w_gtI, ?_⟩
      refine fills_go d1 hh2 fun _ => ⟨_, w_gtI, ?_⟩
      refine fills_go d2 no_hs fun _ => ⟨_, w_gtI, _, w_in2, _, w_in2, _, w_in2, ?_⟩
      rw [g1, g2, g3]
      have hok : Ok 1 (D.lst [D.bl (decide (((j : Int) % 4) ∈ [(0 : Int), 1])), D.bl (decide (((j : Int) % 4) ∈ [(2 : Int), 3])), D.bl (decide (((j : Int) % 4) ∈ [(0 : Int), 3]))]) := Ok.lst fun d hd => by
        simp only [List.mem_cons (b := D.bl _), List.not_mem_nil, or_false] at hd
        rcases hd with h | h | h
        · rw [h]; exact Ok.bl _
        · rw [h]; exact Ok.bl _
        · rw [h]; exact Ok.bl _
      refine ⟨_, (w_eqO hok hok (by decide) (by decide) rfl).trans (congrArg (fun b => some (D.bl b)) (deq_refl hok)), ?_⟩
      exact hQ
theorem six : (rowsN [1, 2, 3, 4] []).length = 6 := by decide +kernel
abbrev s_law : Stmt := topS 40
abbrev N_law : List Str := ["script", "spot"]
theorem sc_law : FnScope N_law ["script"] (defScope s_law) := ⟨rfl, rfl, rfl, by decide +kernel, rfl, by decide +kernel, by decide +kernel⟩
theorem b_law (kV doc pm : Value) (an : Option Addr) (cdv ct : Value) (us : List Value) (hl : us.length = (["script"] : List Str).length) : bindArgs (PySem.W.fnOf "law" "law" (defArgs s_law) (defBody s_law) (defScope s_law) .none kV doc pm an cdv ct) ⟨us, []⟩ = pure ((["script"] : List Str).zip us) := match us, hl with | [_], _ => rfl
def m_law : MT := mt1 fun a n Q _ => ∃ l : List Int, a = .lst (l.map .int) ∧ l.length ≤ 100 ∧ n = 10000 ∧ ∀ n', Q (.bl true) n'
theorem law_m (ns : List Int) (hl : ns.length ≤ 63) (_ : ∀ z ∈ ns, Builtin.Int.intBits z ≤ 1048576) : m_law [.lst (ns.map .int)] 10000 (fun d _ => d = .bl true) ED0 := ⟨_, rfl, ns, rfl, by omega, rfl, fun _ => rfl⟩
theorem ok_law {f : Addr} {fd : FuncData} (F : Fun K "law" "law" s_law f fd) (hm : mg "law" = some (.ref f)) (B : Bi mg)  (C__law_right : CalD P w K mg base T CX0 9 "_law_right" s__law_right ["dice"] m__law_right) (C__law_dice : CalD P w K mg base T CX0 1 "_law_dice" s__law_dice ["script", "spot"] m__law_dice) (C_fillings : CalD P w K mg base T (L2.CX P w) 5 "fillings" s_fillings ["distances", "holes"] m_fillings) (C__law_rules_right : CalD P w K mg base T CX0 6 "_law_rules_right" s__law_rules_right ["n"] m__law_rules_right) (C__law_roll : CalD P w K mg base T CX0 1 "_law_roll" s__law_roll ["dice", "total"] m__law_roll)  : CalD P w K mg base T CX0 10 "law" s_law ["script"] m_law := by
  refine okD F hm sc_law ar1 (fun cdv A outer s G H n E ED hr => ⟨_, (pdss_cons (pds_for PassesOwn.never rfl (pdi_range1 (by rfl) B.range (pda_cons (pd_callB (cd_max2 rfl) (by rfl) B.max (by decide +kernel) (pda_cons pd_int (pda_cons (pd_callB (cd_min2 rfl) (by rfl) B.min (by decide +kernel) (pda_cons pd_int (pda_cons (pd_callB cd_len (by rfl) B.len (by decide +kernel) (pda_cons (pdv 0) pda_nil)) pda_nil))) pda_nil))) pda_nil)) (pdg_name (i := 1) sc_law.nd rfl (.inl rfl)) (pdss_one (pds_if (pdt_not (pdt_val (pd_callZ C__law_right lk0 (hr.mono (by decide)) (by rfl) b__law_right (pda_cons (pd_callZ C__law_dice lk0 (hr.mono (by decide)) (by rfl) b__law_dice (pda_cons (pdv 0) (pda_cons (pdv 1) pda_nil))) pda_nil)))) (pdss_one (pds_ret pd_bl)) pdss_nil)))
      (pdss_one (pds_ret (pd_and (pd_callZ C__law_rules_right lk0 (hr.mono (by decide)) (by rfl) b__law_rules_right (pda_cons (pd_op od_add pd_int (pd_callZ C__law_roll lk0 (hr.mono (by decide)) (by rfl) b__law_roll (pda_cons (pd_callZ C__law_dice lk0 (hr.mono (by decide)) (by rfl) b__law_dice (pda_cons (pdv 0) (pda_cons pd_int pda_nil))) (pda_cons pd_int pda_nil)))) pda_nil)) (pd_one (pd_cmp (od_eq (hu64 hr)) (pd_callZ C_fillings lkN (hr.mono (by decide)) (by rfl) b_fillings (pda_cons (pd_tup (pda_cons pd_int (pda_cons pd_int (pda_cons pd_int (pda_cons pd_int pda_nil))))) (pda_cons (pd_tup pda_nil) pda_nil))) pd_int (nomark _))))))), fun ds Qd hl h => ?_⟩)
  obtain ⟨a, rfl, l, rfl, hl2, rfl, hQ⟩ := h
  walk_at "dl"
  refine ⟨_, rfl, _, rfl, _, rfl, ?_⟩
  have hj : ∀ m : Int, 0 ≤ m → ∃ j : Int, (if (if m < 5 then m else 5) > 1 then (if m < 5 then m else 5) else 1) = j ∧ 1 ≤ j ∧ j ≤ 5 := fun m hm => ⟨_, rfl, by split <;> omega, by split <;> split <;> omega⟩
  obtain ⟨j, ej, j1, j4⟩ := hj ((List.map D.int l).length : Int) (by omega)
  rw [ej]
  refine ⟨⟨by omega, by omega⟩, ?_⟩
  rw [rgD_nat]
  refine loop_inv iD (fun xs S => ∃ d1 n', xs.length ≤ 5 ∧ 10000 ≤ n' + 1000 * (5 - xs.length) ∧ n' ≤ 10000 ∧ (∀ t ∈ xs, t ≤ 1000) ∧ S = ⟨[some (.p (.lst (l.map .int))), d1], n'⟩) ?_ ?_ _ _ ⟨_, _, by simp; omega, by omega, by omega, fun t ht => by
    have := List.mem_range.mp ht
    omega, rfl⟩
  · rintro x xs S ⟨d1, n', hl4, hn', hn2, hx, rfl⟩ K2 hK
    rw [List.length_cons] at hn' hl4
    have hx0 := hx x List.mem_cons_self
    simp only [iD]
    walk_at "dl"
    refine ⟨_, _, rfl, l, x, rfl, hl2, rfl, by omega, by omega, by unfold Big; omega, fun _ => ?_⟩
    refine ⟨_, rfl, rfl, by omega, fun n3 hn3 hn4 => ?_⟩
    walk_at "dl"
    exact hK _ ⟨_, _, by omega, by omega, by omega, fun t ht => hx t (List.mem_cons_of_mem _ ht), rfl⟩
  · rintro S ⟨d1, n', _, hn', hn2, _, rfl⟩
    rw [List.length_nil] at hn'
    walk_at "dl"
    refine ⟨_, _, rfl, l, 0, rfl, hl2, rfl, by decide, by decide, by unfold Big; omega, fun _ => ?_⟩
    refine ⟨_, rfl, by decide, by decide, by omega, fun r r0 r1 _ => ⟨_, rfl, ?_⟩⟩
    refine ⟨_, rfl, _, rfl, by omega, by omega, fun _ => ⟨_, rfl, ?_⟩⟩
    rw [if_pos rfl]
    have e1 : D.tup [D.int 1, D.int 2, D.int 3, D.int 4] = .tup ([1, 2, 3, 4].map iD) := rfl
    have e4 : D.tup [] = .tup (([] : List Nat).map iD) := rfl
    rw [e1, e4]
    refine fills_go (ds_iff.mp (by decide +kernel)) no_hs fun _ => ⟨_, w_eqI, ?_⟩
    rw [six]
    exact hQ _
end
end K1
set_option maxHeartbeats 0
namespace K1.E
open PySem PySem.Spec PyProof.Rows L2 DL
def topS (i : Nat) : Stmt := PySem.Challenge.pw_pairrows_k01_whole_fillings.main.body.getD i (.Pass ⟨0, 0, 0, 0⟩)
def dOf (i : Nat) (x : Str) : He.DefD := ⟨(x, none), x, x, defArgs (topS i), defBody (topS i), defScope (topS i), [], []⟩
def fn : List He.DefD := ([dOf 4 "is_in", dOf 5 "are_in", dOf 6 "demand", dOf 12 "are_distances", dOf 13 "length_of", dOf 14 "are_holes", dOf 15 "demand_holes", dOf 16 "least_free", dOf 17 "taken_by", dOf 18 "states_after", dOf 19 "counts_after", dOf 20 "all_fillings", dOf 21 "in_order", dOf 22 "fillings", dOf 23 "filling", dOf 24 "are_pairs", dOf 25 "is_filling", dOf 26 "fits_parity", dOf 28 "_law_dice", dOf 29 "_law_roll"] : List He.DefD) ++ ([dOf 30 "_law_pick", dOf 31 "_law_refused", dOf 32 "_law_shuffled", dOf 33 "_law_o_distances", dOf 34 "_law_o_holes", dOf 35 "_law_o_all", dOf 36 "_law_near", dOf 37 "_law_refuses", dOf 38 "_law_right", dOf 39 "_law_rules_right", dOf 40 "law"] : List He.DefD)
def fa : List He.Fa := ([.glo "is_in", .glo "are_in", .glo "demand", .glo "are_distances", .glo "length_of", .glo "are_holes", .glo "demand_holes", .glo "least_free", .glo "taken_by", .glo "states_after", .glo "counts_after", .glo "all_fillings", .glo "in_order", .glo "fillings", .glo "filling", .glo "are_pairs", .glo "is_filling", .glo "fits_parity", .glo "_law_dice", .glo "_law_roll"] : List He.Fa) ++ ([.glo "_law_pick", .glo "_law_refused", .glo "_law_shuffled", .glo "_law_o_distances", .glo "_law_o_holes", .glo "_law_o_all", .glo "_law_near", .glo "_law_refuses", .glo "_law_right", .glo "_law_rules_right", .glo "law", .glo "BadArgument", .free "isinstance", .free "len", .free "all", .free "abs", .free "sum", .free "sorted", .free "int", .free "bool"] : List He.Fa) ++ ([.free "tuple", .free "list", .free "str", .free "max", .free "min", .free "repr", .free "range", .free "enumerate", .free "zip", .free "set", .free "super", .int "MOST_DISTANCE" 30, .int "MOST_PAIRS" 8, .int "MOST_LENGTH" 100, .int "MOST_HOLES" 8] : List He.Fa)
def loose : List Str := (["PairError", "BadArgument", "is_in", "are_in", "demand", "MOST_PAIRS", "MOST_DISTANCE", "MOST_HOLES", "MOST_LENGTH", "are_distances", "length_of", "are_holes", "demand_holes", "least_free", "taken_by", "states_after", "counts_after", "all_fillings", "in_order", "fillings"] : List Str) ++ (["filling", "are_pairs", "is_filling", "fits_parity", "_law_dice", "_law_roll", "_law_pick", "_law_refused", "_law_shuffled", "_law_o_distances", "_law_o_holes", "_law_o_all", "_law_near", "_law_refuses", "_law_right", "_law_rules_right"] : List Str)
def tf : List He.Defn := [("in_order", none), ("_law_refuses", none)]
def clsB : Stmt → List Stmt := fun s => match s with
  | .ClassDef _ _ _ b _ _ _ _ _ _ _ => b
  | _ => []
def mS_BadArgument : Stmt := (clsB (topS 2)).getD 0 (.Pass ⟨0, 0, 0, 0⟩)
def q_BadArgument : DefQ := ⟨"BadArgument", "BadArgument.__init__", defArgs mS_BadArgument, defBody mS_BadArgument, defScope mS_BadArgument⟩
def qs : List DefQ := [q_BadArgument]
def ex (K : PySem.W.Frag) : Bool := initB "BadArgument" "BadArgument.__init__" "/claim/cut.py" "name" K && (refB "BadArgument" "name" K && (decide ((He.cT K ("in_order", none)).2 ≠ (He.cT K ("_law_refuses", none)).2)))
abbrev R : PySem.W.OpenRow := PySem.W.OpenLaw.row PySem.Challenge.rw_pairrows_k01_whole_fillings
abbrev hk : PySem.W.Hook := hookY 5 fa fn [] tf ex qs
def ob (s : PySem.W.SharedT) : AlY := obsY 5 fa fn [] tf ex qs (HandSHeadRun.getT s)
theorem ob_eq (s : PySem.W.SharedT) : ob s = hk.obs s.abs := obsY_eq (HandSHeadRun.getT_eq s)
theorem run (w : World) : HandSHeadRun.RunEq R (PySem.W.view R.prog [40]) hk ob 4000 loose w := by
  intro os
  kernel_rfl
end K1.E
set_option maxHeartbeats 0
namespace K1.E
open PySem PySem.Spec PyProof.Rows L2 DL
section
variable {w : World} {K : PySem.W.Frag} {mg : MG} {h base : Heap}
abbrev P0 : Program := PySem.Challenge.rw_pairrows_k01_whole_fillings.prog
abbrev Sy (w : World) (h : Heap) (K : PySem.W.Frag) : Prop := He.SaysX fa fn [] tf ex w h K
theorem rz_BadArgument (X : K.In h) (G : h.Ns mainGlobals mg) (c : Sy w h K) (q : (qs.map fun d => qObs K d.cls) = qs.map DefQ.val) : RaiseC P0 w K mg base "BadArgument" "name" := by
  have qe : qObs K q_BadArgument.cls = q_BadArgument.val := by
    have e2 : (qs.map fun d => qObs K d.cls)[0]? = (qs.map DefQ.val)[0]? := by rw [q]
    exact Option.some.inj e2
  have hx : initB "BadArgument" "BadArgument.__init__" "/claim/cut.py" "name" K = true := (He.ba c.more).1
  have T := initB_ok (P := P0) (d := q_BadArgument) (f := "name") (file := "/claim/cut.py") qe hx (by rfl)
  obtain ⟨fd, o1, o2⟩ := init_ok (w := w) (mg := mg) (base := base) (x := "self") (y := "name") (pl := _) T ⟨rfl, rfl, rfl, by decide +kernel, rfl, rfl, by decide, rfl, rfl, ⟨_, rfl, rfl⟩, by rfl, by decide, by decide⟩ (He.free_ok X G (c.t.d.fact 50 (f := .free "super") rfl)) (fun _ _ _ _ _ _ _ us hl => match us, hl with | [_, _], _ => rfl) (fun env he => by cases env; cases he; rfl) (fun env he => by cases env; cases he; rfl)
  exact ⟨_, _, fd, _, T.oex, T.ini, T.tyI, o1, o2, He.glo_ok X G (c.t.d.fact 31 (f := .glo "BadArgument") rfl)⟩
theorem bi (X : K.In h) (G : h.Ns mainGlobals mg) (c : Sy w h K) : Bi mg := ⟨He.free_ok X G (c.t.d.fact 32 (f := .free "isinstance") rfl), He.free_ok X G (c.t.d.fact 33 (f := .free "len") rfl), He.free_ok X G (c.t.d.fact 34 (f := .free "all") rfl), He.free_ok X G (c.t.d.fact 35 (f := .free "abs") rfl), He.free_ok X G (c.t.d.fact 36 (f := .free "sum") rfl), He.free_ok X G (c.t.d.fact 37 (f := .free "sorted") rfl), He.free_ok X G (c.t.d.fact 38 (f := .free "int") rfl), He.free_ok X G (c.t.d.fact 39 (f := .free "bool") rfl), He.free_ok X G (c.t.d.fact 40 (f := .free "tuple") rfl), He.free_ok X G (c.t.d.fact 41 (f := .free "list") rfl), He.free_ok X G (c.t.d.fact 42 (f := .free "str") rfl), He.free_ok X G (c.t.d.fact 43 (f := .free "max") rfl), He.free_ok X G (c.t.d.fact 44 (f := .free "min") rfl), He.free_ok X G (c.t.d.fact 45 (f := .free "repr") rfl), He.free_ok X G (c.t.d.fact 46 (f := .free "range") rfl), He.free_ok X G (c.t.d.fact 47 (f := .free "enumerate") rfl), He.free_ok X G (c.t.d.fact 48 (f := .free "zip") rfl), He.free_ok X G (c.t.d.fact 49 (f := .free "set") rfl)⟩
theorem rf__law_refused (X : K.In h) (G : h.Ns mainGlobals mg) (c : Sy w h K) : RefD P0 w K mg "_law_refused" "BadArgument" "name" "" := by
  have hx : refB "BadArgument" "name" K = true := (He.ba (He.ba c.more).2).1
  obtain ⟨x1, x2⟩ := He.ba hx
  obtain ⟨x3, x4⟩ := He.ba x2
  obtain ⟨fd, F⟩ := c.t.d.def_ 21 (d := dOf 31 "_law_refused") rfl
  obtain ⟨⟨oc, od, dV, kV, doc, pm, an, cdv, ct, osl, rfl, lk, hcd, hd, hk⟩, kp⟩ := F
  have e : dV = .none := hd.elim (·.2) fun h => absurd rfl h.1
  subst e
  exact ⟨_, _, "call", "e", _, _, _, _, _, _, _, _, _, _, _, _, _, _, oc, kV, doc, pm, cdv, ct, an, od, osl, He.glo_ok X G (c.t.d.fact 21 (f := .glo "_law_refused") rfl), kp, lk, hcd, .all (fun us hl => match us, hl with | [_], _ => rfl), ⟨rfl, rfl, rfl, by decide +kernel, rfl, by decide +kernel, by decide +kernel⟩, .inl (by rfl), rfl, He.glo_ok X G (c.t.d.fact 31 (f := .glo "BadArgument") rfl), by decide, by decide, rfl, xfB_ok x1, He.eqO_ok x3, by decide, by decide, by decide, by decide, of_decide_eq_true x4⟩
theorem law_ok (X : K.In h) (G : h.Ns mainGlobals mg) (c : Sy w h K) (q : (qs.map fun d => qObs K d.cls) = qs.map DefQ.val) (Gb : base.Ns mainGlobals mg) (TB : ∀ p ∈ tf, LamX.TabB base mg (He.cT K p).1 (He.cT K p).2) :
    CalD P0 w K mg base (tbs K tf) CX0 10 "law" s_law ["script"] m_law := by
  have B : Bi mg := bi X G c
  have rz_BadArgument : RaiseC P0 w K mg base "BadArgument" "name" := rz_BadArgument X G c q
  have rf__law_refused := rf__law_refused X G c
  have k_MOST_DISTANCE : ∃ t, mg "MOST_DISTANCE" = some (.int 30 t) := He.int_ok X G (c.t.d.fact 51 (f := .int "MOST_DISTANCE" 30) rfl)
  have k_MOST_PAIRS : ∃ t, mg "MOST_PAIRS" = some (.int 8 t) := He.int_ok X G (c.t.d.fact 52 (f := .int "MOST_PAIRS" 8) rfl)
  have k_MOST_LENGTH : ∃ t, mg "MOST_LENGTH" = some (.int 100 t) := He.int_ok X G (c.t.d.fact 53 (f := .int "MOST_LENGTH" 100) rfl)
  have k_MOST_HOLES : ∃ t, mg "MOST_HOLES" = some (.int 8 t) := He.int_ok X G (c.t.d.fact 54 (f := .int "MOST_HOLES" 8) rfl)
  obtain ⟨fd_is_in, F_is_in⟩ := c.t.d.def_ 0 (d := dOf 4 "is_in") rfl
  have c_is_in := ok_is_in (P := P0) (w := w) (K := K) (mg := mg) (base := base) (T := tbs K tf) (fun_of F_is_in) (He.glo_ok X G (c.t.d.fact 0 (f := .glo "is_in") rfl)) B
  obtain ⟨fd_are_in, F_are_in⟩ := c.t.d.def_ 1 (d := dOf 5 "are_in") rfl
  have c_are_in := ok_are_in (P := P0) (w := w) (K := K) (mg := mg) (base := base) (T := tbs K tf) (fun_of F_are_in) (He.glo_ok X G (c.t.d.fact 1 (f := .glo "are_in") rfl)) B c_is_in
  obtain ⟨fd_demand, F_demand⟩ := c.t.d.def_ 2 (d := dOf 6 "demand") rfl
  have c_demand := ok_demand (P := P0) (w := w) (K := K) (mg := mg) (base := base) (T := tbs K tf) (fun_of F_demand) (He.glo_ok X G (c.t.d.fact 2 (f := .glo "demand") rfl)) B rz_BadArgument
  obtain ⟨fd_are_distances, F_are_distances⟩ := c.t.d.def_ 3 (d := dOf 12 "are_distances") rfl
  have c_are_distances := ok_are_distances (P := P0) (w := w) (K := K) (mg := mg) (base := base) (T := tbs K tf) (fun_of F_are_distances) (He.glo_ok X G (c.t.d.fact 3 (f := .glo "are_distances") rfl)) B k_MOST_DISTANCE k_MOST_PAIRS c_are_in
  obtain ⟨fd_length_of, F_length_of⟩ := c.t.d.def_ 4 (d := dOf 13 "length_of") rfl
  have c_length_of := ok_length_of (P := P0) (w := w) (K := K) (mg := mg) (base := base) (T := tbs K tf) (fun_of F_length_of) (He.glo_ok X G (c.t.d.fact 4 (f := .glo "length_of") rfl)) B
  obtain ⟨fd_least_free, F_least_free⟩ := c.t.d.def_ 7 (d := dOf 16 "least_free") rfl
  have c_least_free := ok_least_free (P := P0) (w := w) (K := K) (mg := mg) (base := base) (T := tbs K tf) (fun_of F_least_free) (He.glo_ok X G (c.t.d.fact 7 (f := .glo "least_free") rfl)) B
  obtain ⟨fd_taken_by, F_taken_by⟩ := c.t.d.def_ 8 (d := dOf 17 "taken_by") rfl
  have c_taken_by := ok_taken_by (P := P0) (w := w) (K := K) (mg := mg) (base := base) (T := tbs K tf) (fun_of F_taken_by) (He.glo_ok X G (c.t.d.fact 8 (f := .glo "taken_by") rfl)) B
  obtain ⟨fd_states_after, F_states_after⟩ := c.t.d.def_ 9 (d := dOf 18 "states_after") rfl
  have c_states_after := ok_states_after (P := P0) (w := w) (K := K) (mg := mg) (base := base) (T := tbs K tf) (fun_of F_states_after) (He.glo_ok X G (c.t.d.fact 9 (f := .glo "states_after") rfl)) B c_least_free
  obtain ⟨fd_counts_after, F_counts_after⟩ := c.t.d.def_ 10 (d := dOf 19 "counts_after") rfl
  have c_counts_after := ok_counts_after (P := P0) (w := w) (K := K) (mg := mg) (base := base) (T := tbs K tf) (fun_of F_counts_after) (He.glo_ok X G (c.t.d.fact 10 (f := .glo "counts_after") rfl)) B c_states_after
  obtain ⟨fd_all_fillings, F_all_fillings⟩ := c.t.d.def_ 11 (d := dOf 20 "all_fillings") rfl
  have c_all_fillings := ok_all_fillings (P := P0) (w := w) (K := K) (mg := mg) (base := base) (T := tbs K tf) (fun_of F_all_fillings) (He.glo_ok X G (c.t.d.fact 11 (f := .glo "all_fillings") rfl)) B c_taken_by c_counts_after c_length_of
  obtain ⟨fd_in_order, F_in_order⟩ := c.t.d.def_ 12 (d := dOf 21 "in_order") rfl
  have HT_in_order : ((He.cT K ("in_order", none)).2, (("in_order" : Str) ++ ".<locals>.") ++ "<lambda>") ∈ tbs K tf := List.mem_map.mpr ⟨("in_order", none), by decide, rfl⟩
  have NE_in_order : (He.cT K ("in_order", none)).2 ≠ (He.cT K ("_law_refuses", none)).2 := fun z => of_decide_eq_true (show decide ((He.cT K ("in_order", none)).2 ≠ (He.cT K ("_law_refuses", none)).2) = true from (He.ba (He.ba c.more).2).2) z
  have HU_in_order : ∀ p ∈ tbs K tf, p.1 = (He.cT K ("in_order", none)).2 → p.2 = (("in_order" : Str) ++ ".<locals>.") ++ "<lambda>" := fun p hp hq => by
    obtain ⟨z, hz, e⟩ := List.mem_map.mp hp
    rcases List.mem_cons.mp hz with hz | hz
    · rw [hz] at e
      rw [← e]
    · rw [List.mem_singleton.mp hz] at e
      rw [← e] at hq
      exact absurd hq.symm NE_in_order
  have c_in_order := ok_in_order (P := P0) (w := w) (K := K) (mg := mg) (base := base) (T := tbs K tf) (funL_of F_in_order (TB ("in_order", none) (by decide)) HT_in_order HU_in_order) (He.glo_ok X G (c.t.d.fact 12 (f := .glo "in_order") rfl)) B
  obtain ⟨fd_are_pairs, F_are_pairs⟩ := c.t.d.def_ 15 (d := dOf 24 "are_pairs") rfl
  have c_are_pairs := ok_are_pairs (P := P0) (w := w) (K := K) (mg := mg) (base := base) (T := tbs K tf) (fun_of F_are_pairs) (He.glo_ok X G (c.t.d.fact 15 (f := .glo "are_pairs") rfl)) B k_MOST_LENGTH c_are_in c_in_order
  obtain ⟨fd_are_holes, F_are_holes⟩ := c.t.d.def_ 5 (d := dOf 14 "are_holes") rfl
  have c_are_holes := ok_are_holes (P := P0) (w := w) (K := K) (mg := mg) (base := base) (T := tbs K tf) (fun_of F_are_holes) (He.glo_ok X G (c.t.d.fact 5 (f := .glo "are_holes") rfl)) B k_MOST_HOLES c_are_in c_length_of
  obtain ⟨fd_demand_holes, F_demand_holes⟩ := c.t.d.def_ 6 (d := dOf 15 "demand_holes") rfl
  have c_demand_holes := ok_demand_holes (P := P0) (w := w) (K := K) (mg := mg) (base := base) (T := tbs K tf) (fun_of F_demand_holes) (He.glo_ok X G (c.t.d.fact 6 (f := .glo "demand_holes") rfl)) B c_demand c_are_distances c_are_holes
  obtain ⟨fd_fillings, F_fillings⟩ := c.t.d.def_ 13 (d := dOf 22 "fillings") rfl
  have c_fillings := ok_fillings (P := P0) (w := w) (K := K) (mg := mg) (base := base) (T := tbs K tf) (fun_of F_fillings) (He.glo_ok X G (c.t.d.fact 13 (f := .glo "fillings") rfl)) B c_demand_holes c_all_fillings
  obtain ⟨fd_filling, F_filling⟩ := c.t.d.def_ 14 (d := dOf 23 "filling") rfl
  have c_filling := ok_filling (P := P0) (w := w) (K := K) (mg := mg) (base := base) (T := tbs K tf) (fun_of F_filling) (He.glo_ok X G (c.t.d.fact 14 (f := .glo "filling") rfl)) B c_demand_holes c_all_fillings c_in_order
  obtain ⟨fd_is_filling, F_is_filling⟩ := c.t.d.def_ 16 (d := dOf 25 "is_filling") rfl
  have c_is_filling := ok_is_filling (P := P0) (w := w) (K := K) (mg := mg) (base := base) (T := tbs K tf) (fun_of F_is_filling) (He.glo_ok X G (c.t.d.fact 16 (f := .glo "is_filling") rfl)) B c_demand_holes c_are_pairs c_length_of
  obtain ⟨fd_fits_parity, F_fits_parity⟩ := c.t.d.def_ 17 (d := dOf 26 "fits_parity") rfl
  have c_fits_parity := ok_fits_parity (P := P0) (w := w) (K := K) (mg := mg) (base := base) (T := tbs K tf) (fun_of F_fits_parity) (He.glo_ok X G (c.t.d.fact 17 (f := .glo "fits_parity") rfl)) B c_demand_holes c_length_of
  obtain ⟨fd__law_o_all, F__law_o_all⟩ := c.t.d.def_ 25 (d := dOf 35 "_law_o_all") rfl
  have c__law_o_all := ok__law_o_all (P := P0) (w := w) (K := K) (mg := mg) (base := base) (T := tbs K tf) (fun_of F__law_o_all) (He.glo_ok X G (c.t.d.fact 25 (f := .glo "_law_o_all") rfl)) B
  obtain ⟨fd__law_dice, F__law_dice⟩ := c.t.d.def_ 18 (d := dOf 28 "_law_dice") rfl
  have c__law_dice := ok__law_dice (P := P0) (w := w) (K := K) (mg := mg) (base := base) (T := tbs K tf) (fun_of F__law_dice) (He.glo_ok X G (c.t.d.fact 18 (f := .glo "_law_dice") rfl)) B
  obtain ⟨fd__law_roll, F__law_roll⟩ := c.t.d.def_ 19 (d := dOf 29 "_law_roll") rfl
  have c__law_roll := ok__law_roll (P := P0) (w := w) (K := K) (mg := mg) (base := base) (T := tbs K tf) (fun_of F__law_roll) (He.glo_ok X G (c.t.d.fact 19 (f := .glo "_law_roll") rfl)) B
  obtain ⟨fd__law_pick, F__law_pick⟩ := c.t.d.def_ 20 (d := dOf 30 "_law_pick") rfl
  have c__law_pick := ok__law_pick (P := P0) (w := w) (K := K) (mg := mg) (base := base) (T := tbs K tf) (fun_of F__law_pick) (He.glo_ok X G (c.t.d.fact 20 (f := .glo "_law_pick") rfl)) B c__law_roll
  obtain ⟨fd__law_o_distances, F__law_o_distances⟩ := c.t.d.def_ 23 (d := dOf 33 "_law_o_distances") rfl
  have c__law_o_distances := ok__law_o_distances (P := P0) (w := w) (K := K) (mg := mg) (base := base) (T := tbs K tf) (fun_of F__law_o_distances) (He.glo_ok X G (c.t.d.fact 23 (f := .glo "_law_o_distances") rfl)) B c__law_roll c__law_pick
  obtain ⟨fd__law_shuffled, F__law_shuffled⟩ := c.t.d.def_ 22 (d := dOf 32 "_law_shuffled") rfl
  have c__law_shuffled := ok__law_shuffled (P := P0) (w := w) (K := K) (mg := mg) (base := base) (T := tbs K tf) (fun_of F__law_shuffled) (He.glo_ok X G (c.t.d.fact 22 (f := .glo "_law_shuffled") rfl)) B c__law_roll
  obtain ⟨fd__law_o_holes, F__law_o_holes⟩ := c.t.d.def_ 24 (d := dOf 34 "_law_o_holes") rfl
  have c__law_o_holes := ok__law_o_holes (P := P0) (w := w) (K := K) (mg := mg) (base := base) (T := tbs K tf) (fun_of F__law_o_holes) (He.glo_ok X G (c.t.d.fact 24 (f := .glo "_law_o_holes") rfl)) B c__law_pick c__law_shuffled
  obtain ⟨fd__law_near, F__law_near⟩ := c.t.d.def_ 26 (d := dOf 36 "_law_near") rfl
  have c__law_near := ok__law_near (P := P0) (w := w) (K := K) (mg := mg) (base := base) (T := tbs K tf) (fun_of F__law_near) (He.glo_ok X G (c.t.d.fact 26 (f := .glo "_law_near") rfl)) B c__law_roll c__law_pick
  obtain ⟨fd__law_refuses, F__law_refuses⟩ := c.t.d.def_ 27 (d := dOf 37 "_law_refuses") rfl
  have HT__law_refuses : ((He.cT K ("_law_refuses", none)).2, (("_law_refuses" : Str) ++ ".<locals>.") ++ "<lambda>") ∈ tbs K tf := List.mem_map.mpr ⟨("_law_refuses", none), by decide, rfl⟩
  have NE__law_refuses : (He.cT K ("_law_refuses", none)).2 ≠ (He.cT K ("in_order", none)).2 := fun z => of_decide_eq_true (show decide ((He.cT K ("in_order", none)).2 ≠ (He.cT K ("_law_refuses", none)).2) = true from (He.ba (He.ba c.more).2).2) z.symm
  have HU__law_refuses : ∀ p ∈ tbs K tf, p.1 = (He.cT K ("_law_refuses", none)).2 → p.2 = (("_law_refuses" : Str) ++ ".<locals>.") ++ "<lambda>" := fun p hp hq => by
    obtain ⟨z, hz, e⟩ := List.mem_map.mp hp
    rcases List.mem_cons.mp hz with hz | hz
    · rw [hz] at e
      rw [← e] at hq
      exact absurd hq.symm NE__law_refuses
    · rw [List.mem_singleton.mp hz] at e
      rw [← e]
  have c__law_refuses := ok__law_refuses (P := P0) (w := w) (K := K) (mg := mg) (base := base) (T := tbs K tf) (funL_of F__law_refuses (TB ("_law_refuses", none) (by decide)) HT__law_refuses HU__law_refuses) (He.glo_ok X G (c.t.d.fact 27 (f := .glo "_law_refuses") rfl)) B c__law_pick c_fits_parity c_is_filling c_filling c_fillings rf__law_refused
  obtain ⟨fd__law_right, F__law_right⟩ := c.t.d.def_ 28 (d := dOf 38 "_law_right") rfl
  have c__law_right := ok__law_right (P := P0) (w := w) (K := K) (mg := mg) (base := base) (T := tbs K tf) (fun_of F__law_right) (He.glo_ok X G (c.t.d.fact 28 (f := .glo "_law_right") rfl)) B c__law_o_distances c__law_o_holes c_filling c__law_o_all c_fillings c_is_filling c_fits_parity c__law_pick c__law_near c__law_refuses
  obtain ⟨fd__law_rules_right, F__law_rules_right⟩ := c.t.d.def_ 29 (d := dOf 39 "_law_rules_right") rfl
  have c__law_rules_right := ok__law_rules_right (P := P0) (w := w) (K := K) (mg := mg) (base := base) (T := tbs K tf) (fun_of F__law_rules_right) (He.glo_ok X G (c.t.d.fact 29 (f := .glo "_law_rules_right") rfl)) B c_fillings
  obtain ⟨fd_law, F_law⟩ := c.t.d.def_ 30 (d := dOf 40 "law") rfl
  exact ok_law (P := P0) (w := w) (K := K) (mg := mg) (base := base) (T := tbs K tf) (fun_of F_law) (He.glo_ok X G (c.t.d.fact 30 (f := .glo "law") rfl)) B c__law_right c__law_dice c_fillings c__law_rules_right c__law_roll
end
end K1.E
open PySem PySem.W PySem.Calls PyProof.Rows
theorem PySem.Challenge.cw_pairrows_k01_whole_fillings_holds : PySem.Challenge.rw_pairrows_k01_whole_fillings.Holds := by
  w_on; o_law
  refine HandSHeadRun.head_any (r := OpenLaw.row PySem.Challenge.rw_pairrows_k01_whole_fillings) (q := view (OpenLaw.row PySem.Challenge.rw_pairrows_k01_whole_fillings).prog [40]) (H := K1.E.hk) (ob := K1.E.ob) (M := 4000) (loose := K1.E.loose) (d := HandSHeadRun.topDef (OpenLaw.row PySem.Challenge.rw_pairrows_k01_whole_fillings).prog 40) (kwd := []) K1.E.ob_eq
    (by kernel_rfl) (fun s => by kernel_rfl) K1.E.run (by kernel_rfl) (by kernel_rfl) (by kernel_rfl) (by rfl) (by first | assumption | decide +kernel) (by decide +kernel) ⟨rfl, rfl, rfl, rfl, rfl, by decide +kernel⟩ ?hw ?hc
  case hw => w_witness2
  case hc =>
    refine LamX.walk_ofTsE (l := PySem.Challenge.rw_pairrows_k01_whole_fillings) (n := 63) (k := 10) (x := "script") (CX := fun _ => L2.CX0) rfl (by decide) (by kernel_rfl) ⟨rfl, by decide, by decide⟩ ?F (fun _ _ _ _ _ z => z)
    intro w mg fa h Y G hmg0
    obtain ⟨K, KX, c, q⟩ := Y
    have hmg : mg ("law" : PySem.Str) = some (.ref fa) := by
      have e : (HandSHeadRun.topDef (OpenLaw.row PySem.Challenge.rw_pairrows_k01_whole_fillings).prog 40).name = ("law" : PySem.Str) := by kernel_rfl
      rw [← e]
      exact hmg0
    have e := hmg.symm.trans (He.glo_ok KX G (c.t.d.fact 30 (f := .glo "law") rfl))
    cases e
    obtain ⟨fd, F⟩ := c.t.d.def_ 30 (d := K1.E.dOf 40 "law") rfl
    have b := L2.FunD.bindsA (ps := ["script"]) F fun _ _ _ _ _ _ us hl => match us, hl with | [_], _ => rfl
    exact ⟨K, KX, DL.law_at (N0 := 10000) (m := K1.m_law) (st := K1.s_law) KX c hmg (DL.fun_of F) (fun s v => b s [v] rfl) (fun ns hl hb => K1.law_m ns hl hb) fun base KB hg TB => K1.E.law_ok KX G c q hg TB⟩
