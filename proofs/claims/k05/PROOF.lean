import PyProof.Rows.All
import Wide.All
import OpenK.AllK
import Wide.FinOn
import HandS.ForMost
import HandS.Lambda
import HandS.ExcInit
import HandS.ExcField
import HandS.IsInst
import HandS.Star
import HandS.Style
import HandS.Defaults
import HandS.WordsExc
import HandS.TupAny
import HandS.TupMul
import HandS.Deep
import HandS.SortInts
import HandS.SetFor
import HandS.Text
import HandS.Conv
import HandS.Zip
import HandS.ForDict
import KE.KExcSuper
import KE.GoesMore
import HandS.SetKeys
import PyProof.P3Eq
import PyProof.Rows.SetFrom
import HandS.FStrTup
import PyProof.ReprRoads
import KE.KStateDown
import KE.KNestM
import HandS.Words
import HandS.Head0
import HandS.Head1
import HandS.Head2
import HandS.HeadEnd
import HandS.HeadHook1
import HandS.HeadHook2
import HandS.HeadHook3
import HandS.HeadHook4
import HandS.HeadWalk
import PySem.Challenge.RW_pairrows_k05_whole_texts
set_option Elab.async false
set_option linter.all false
set_option maxRecDepth 100000
set_option maxHeartbeats 1000000
/-! DL: values as plain data over the layer HandS -/
namespace DL
open PySem PySem.Spec PyProof.Rows L2
abbrev MG := Str → Option Value
/-! ### data -/
inductive D where
  | non
  | bl (b : Bool)
  | int (i : Int)
  | str (s : Str)
  | lst (l : List D)
  | tup (l : List D)
  | dct (l : List (Key × D))
  | fn (x : Str)
  | ty (x : String)
  | dice

/-- the dice: a list of three ints, its count at most B -/
def DiceO (a : Addr) (B : Nat) : HO := .ext fun h => ∃ (o m c : Int) (t1 t2 t3 : Tok) (n : Nat), h.get? a = some { cls := .type "list", data := .seq #[.int o t1, .int m t2, .int c t3] n } ∧ 0 ≤ o ∧ 0 ≤ m ∧ m < 2147480009 ∧ 0 ≤ c ∧ c ≤ B
def Big : Nat := 1000000000
theorem dice_inj {a : Addr} {B B' : Nat} (ho : HO) (h1 : ho = DiceO a B) (h2 : ∃ xs, ho = .lst xs) : False := by
  obtain ⟨xs, e⟩ := h2
  rw [h1] at e
  unfold DiceO at e
  cases e
theorem dice_ne_lst {a : Addr} {B : Nat} {xs : List V} : DiceO a B ≠ .lst xs := fun z => by unfold DiceO at z; cases z
theorem dice_ne_tup {a : Addr} {B : Nat} {xs : List V} : DiceO a B ≠ .tup xs := fun z => by unfold DiceO at z; cases z
theorem dice_ne_dK {a : Addr} {B : Nat} {xs : List (Key × V)} : DiceO a B ≠ .dK xs := fun z => by unfold DiceO at z; cases z
theorem dice_ne_frz {a : Addr} {B : Nat} {o : Obj} {u : HO} : DiceO a B ≠ .frz o u := fun z => by unfold DiceO at z; cases z
theorem dice_ne_tbl {a : Addr} {B : Nat} {ps : Array Value} : DiceO a B ≠ .tbl ps := fun z => by unfold DiceO at z; cases z

/-! ### heaps that grow -/
abbrev TT0 := List (Addr × Str)
/-- neither a table nor a code object -/
structure Pl (o : HO) : Prop where
  nt : ∀ ps, o ≠ .tbl ps
  nc : ∀ c q, o ≠ LamX.CodeO c q
theorem pl_lst {xs : List V} : Pl (.lst xs) := ⟨(fun _ z => by cases z), (fun _ _ z => by unfold LamX.CodeO at z; cases z)⟩
theorem pl_dK {xs : List (Key × V)} : Pl (.dK xs) := ⟨(fun _ z => by cases z), (fun _ _ z => by unfold LamX.CodeO at z; cases z)⟩
theorem pl_dT {xs : List (List Key × V)} : Pl (.dT xs) := ⟨(fun _ z => by cases z), (fun _ _ z => by unfold LamX.CodeO at z; cases z)⟩
theorem pl_frz {o : Obj} {u : HO} : Pl (.frz o u) := ⟨(fun _ z => by cases z), (fun _ _ z => by unfold LamX.CodeO at z; cases z)⟩
/-- G is a part of H; tables and code objects are in it -/
structure Sub (G H : Hp) : Prop where
  at_ : ∀ b o, G b = some o → H b = some o
  hd : ∀ b o, H b = some o → G b = none → Pl o
instance {G H : Hp} : CoeFun (Sub G H) fun _ => ∀ b o, G b = some o → H b = some o := ⟨Sub.at_⟩
theorem Sub.refl (G : Hp) : Sub G G := ⟨fun _ _ h => h, fun b o h n => by rw [n] at h; cases h⟩
/-- neither dice nor a table -/
def Firm (o : HO) : Prop := (∀ a B, o ≠ DiceO a B) ∧ ∀ ps, o ≠ .tbl ps
theorem firm_lst {xs : List V} : Firm (.lst xs) := ⟨fun _ _ z => dice_ne_lst z.symm, fun _ z => by cases z⟩
theorem firm_tup {xs : List V} : Firm (.tup xs) := ⟨fun _ _ z => dice_ne_tup z.symm, fun _ z => by cases z⟩
theorem firm_dK {xs : List (Key × V)} : Firm (.dK xs) := ⟨fun _ _ z => dice_ne_dK z.symm, fun _ z => by cases z⟩
theorem firm_frz {o : Obj} {u : HO} : Firm (.frz o u) := ⟨fun _ _ z => dice_ne_frz z.symm, fun _ z => by cases z⟩
/-- all stays, but dice roll and tables grow -/
structure Le (T : TT0) (k : Nat) (G G' : Hp) : Prop where
  keep : ∀ b o, G b = some o → Firm o → G' b = some o
  roll : ∀ b B, G b = some (DiceO b B) → ∃ B', B' ≤ B + k ∧ G' b = some (DiceO b B')
  tabs : LamX.Tabs T G → LamX.Tabs T G'
theorem Le.refl (T : TT0) (G : Hp) : Le T 0 G G := ⟨fun _ _ h _ => h, fun _ B h => ⟨B, by omega, h⟩, fun h => h⟩
theorem Le.mono {T : TT0} {k k' : Nat} {G G' : Hp} (h : Le T k G G') (hk : k ≤ k') : Le T k' G G' :=
  ⟨h.keep, fun b B e => by
    obtain ⟨B', z, y⟩ := h.roll b B e
    exact ⟨B', by omega, y⟩, h.tabs⟩
theorem Le.trans {T : TT0} {k k' : Nat} {G G1 G2 : Hp} (h : Le T k G G1) (g : Le T k' G1 G2) : Le T (k + k') G G2 :=
  ⟨fun b o e f => g.keep b o (h.keep b o e f) f, fun b B e => by
    obtain ⟨B', z, y⟩ := h.roll b B e
    obtain ⟨C, w, x⟩ := g.roll b B' y
    exact ⟨C, by omega, x⟩, fun t => g.tabs (h.tabs t)⟩
theorem Le.same {T : TT0} {G G' : Hp} (h : Same G G') : Le T 0 G G' := ⟨fun b o e _ => h b o e, fun b B e => ⟨B, by omega, h b _ e⟩, fun t => t.ext h⟩
/-- a part G of the heap H grows, the rest of H stays and stays apart -/
structure Gw (T : TT0) (k : Nat) (G H G' H' : Hp) : Prop where
  sub : Sub G' H'
  le : Le T k G G'
  hid : ∀ b o, H b = some o → G b = none → H' b = some o
  new : ∀ b o, G' b = some o → G b = none → H b = none
theorem Gw.refl {T : TT0} {G H : Hp} (s : Sub G H) : Gw T 0 G H G H := ⟨s, .refl T G, fun _ _ h _ => h, fun b o h1 h2 => by rw [h2] at h1; cases h1⟩
theorem Gw.apart {T : TT0} {k : Nat} {G H G' H' : Hp} (g : Gw T k G H G' H') {b : Addr} {o : HO} (h : H b = some o) (n : G b = none) : G' b = none := by
  cases e : G' b with
  | none => rfl
  | some u =>
    have z := g.new b u e n
    rw [h] at z
    cases z
theorem Gw.trans {T : TT0} {k k' : Nat} {G H G1 H1 G2 H2 : Hp} (a : Gw T k G H G1 H1) (b : Gw T k' G1 H1 G2 H2) : Gw T (k + k') G H G2 H2 :=
  ⟨b.sub, a.le.trans b.le, fun c o h n => b.hid c o (a.hid c o h n) (a.apart h n), fun c o h n => by
    cases e : H c with
    | none => rfl
    | some u =>
      have n1 := a.apart e n
      have z := b.new c o h n1
      rw [a.hid c u e n] at z
      cases z⟩
theorem Gw.mono {T : TT0} {k k' : Nat} {G H G' H' : Hp} (h : Gw T k G H G' H') (hk : k ≤ k') : Gw T k' G H G' H' := ⟨h.sub, h.le.mono hk, h.hid, h.new⟩
/-- a new object -/
theorem Gw.alloc {T : TT0} {G H : Hp} {p : Addr} {o : HO} (s : Sub G H) (np : H p = none) : Gw T 0 G H (upd G p o) (upd H p o) := by
  have ng : G p = none := by
    cases e : G p with
    | none => rfl
    | some u =>
      rw [s p u e] at np
      cases np
  refine ⟨⟨fun b u e => ?_, fun b u e n => ?_⟩, .same fun b u e => ?_, fun b u e n => ?_, fun b u e n => ?_⟩
  · by_cases hb : b = p
    · subst hb
      rw [upd_same] at e ⊢
      exact e
    · rw [upd_ne hb] at e ⊢
      exact s b u e
  · by_cases hb : b = p
    · subst hb
      rw [upd_same] at n
      cases n
    · rw [upd_ne hb] at e n
      exact s.hd b u e n
  · rw [upd_ne (ne_of_none e ng)]
    exact e
  · rw [upd_ne (ne_of_none e np)]
    exact e
  · by_cases hb : b = p
    · rw [hb]
      exact np
    · rw [upd_ne hb, n] at e
      cases e

/-! ### what a value stands for -/
mutual
inductive Rep (K : PySem.W.Frag) (mg : MG) (G : Hp) (n : Nat) : V → D → Prop
  | non : Rep K mg G n .non .non
  | bl (b : Bool) : Rep K mg G n (.bl b) (.bl b)
  | int (i : Int) : Rep K mg G n (.int i) (.int i)
  | str (x : Str) : Rep K mg G n (.str x) (.str x)
  | lst {a : Addr} {xs : List V} {ds : List D} : SqL K G a xs → RepAll K mg G n xs ds → Rep K mg G n (.ref a) (.lst ds)
  | tup {a : Addr} {xs : List V} {ds : List D} : SqT K G a xs → RepAll K mg G n xs ds → Rep K mg G n (.ref a) (.tup ds)
  | dct {a : Addr} {kvs : List (Key × V)} {ds : List (Key × D)} : Rd G a (.dK kvs) → RepK K mg G n kvs ds → Rep K mg G n (.ref a) (.dct ds)
  | fn {x : Str} {f : Addr} : mg x = some (.ref f) → Rep K mg G n (.ref f) (.fn x)
  | ty (x : String) : Rep K mg G n (.ty x) (.ty x)
  | dice {a : Addr} {B : Nat} : G a = some (DiceO a B) → B + n ≤ Big → Rep K mg G n (.ref a) .dice
inductive RepAll (K : PySem.W.Frag) (mg : MG) (G : Hp) (n : Nat) : List V → List D → Prop
  | nil : RepAll K mg G n [] []
  | cons {v : V} {vs : List V} {d : D} {ds : List D} : Rep K mg G n v d → RepAll K mg G n vs ds → RepAll K mg G n (v :: vs) (d :: ds)
inductive RepK (K : PySem.W.Frag) (mg : MG) (G : Hp) (n : Nat) : List (Key × V) → List (Key × D) → Prop
  | nil : RepK K mg G n [] []
  | cons {k : Key} {v : V} {vs : List (Key × V)} {d : D} {ds : List (Key × D)} : Rep K mg G n v d → RepK K mg G n vs ds → RepK K mg G n ((k, v) :: vs) ((k, d) :: ds)
end
section
variable {K : PySem.W.Frag} {mg : MG} {T : TT0} {k n n' : Nat} {G G' : Hp}
theorem rdL_le {a : Addr} {xs : List V} (g : Le T k G G') (h : Rd G a (.lst xs)) : Rd G' a (.lst xs) := by
  rcases h with h | ⟨o, h⟩
  · exact .inl (g.keep _ _ h firm_lst)
  · exact .inr ⟨o, g.keep _ _ h firm_frz⟩
theorem sqL_le {a : Addr} {xs : List V} (g : Le T k G G') (h : SqL K G a xs) : SqL K G' a xs := h.elim (fun h => .inl (rdL_le g h)) .inr
theorem sqT_le {a : Addr} {xs : List V} (g : Le T k G G') (h : SqT K G a xs) : SqT K G' a xs := by
  rcases h with (h | ⟨o, h⟩) | h
  · exact .inl (.inl (g.keep _ _ h firm_tup))
  · exact .inl (.inr ⟨o, g.keep _ _ h firm_frz⟩)
  · exact .inr h
theorem rdK_le {a : Addr} {xs : List (Key × V)} (g : Le T k G G') (h : Rd G a (.dK xs)) : Rd G' a (.dK xs) := by
  rcases h with h | ⟨o, h⟩
  · exact .inl (g.keep _ _ h firm_dK)
  · exact .inr ⟨o, g.keep _ _ h firm_frz⟩
mutual
theorem Rep.up (g : Le T k G G') (hn : n' + k ≤ n) : ∀ {v : V} {d : D}, Rep K mg G n v d → Rep K mg G' n' v d
  | _, _, .non => .non
  | _, _, .bl b => .bl b
  | _, _, .int i => .int i
  | _, _, .str x => .str x
  | _, _, .lst h a => .lst (sqL_le g h) (RepAll.up g hn a)
  | _, _, .tup h a => .tup (sqT_le g h) (RepAll.up g hn a)
  | _, _, .dct h a => .dct (rdK_le g h) (RepK.up g hn a)
  | _, _, .fn h => .fn h
  | _, _, .ty x => .ty x
  | _, _, .dice h hb => by
    obtain ⟨B', z, y⟩ := g.roll _ _ h
    exact .dice y (by omega)
theorem RepAll.up (g : Le T k G G') (hn : n' + k ≤ n) : ∀ {vs : List V} {ds : List D}, RepAll K mg G n vs ds → RepAll K mg G' n' vs ds
  | _, _, .nil => .nil
  | _, _, .cons a b => .cons (Rep.up g hn a) (RepAll.up g hn b)
theorem RepK.up (g : Le T k G G') (hn : n' + k ≤ n) : ∀ {vs : List (Key × V)} {ds : List (Key × D)}, RepK K mg G n vs ds → RepK K mg G' n' vs ds
  | _, _, .nil => .nil
  | _, _, .cons a b => .cons (Rep.up g hn a) (RepK.up g hn b)
end
theorem Rep.same (g : Same G G') {v : V} {d : D} (r : Rep K mg G n v d) : Rep K mg G' n v d := r.up (T := []) (k := 0) (Le.same g) (Nat.le_refl _)
theorem RepAll.same (g : Same G G') {v : List V} {d : List D} (r : RepAll K mg G n v d) : RepAll K mg G' n v d := r.up (T := []) (k := 0) (Le.same g) (Nat.le_refl _)
theorem RepK.same (g : Same G G') {v : List (Key × V)} {d : List (Key × D)} (r : RepK K mg G n v d) : RepK K mg G' n v d := r.up (T := []) (k := 0) (Le.same g) (Nat.le_refl _)
/-- a dict whose keys are tuples -/
inductive RepT (K : PySem.W.Frag) (mg : MG) (G : Hp) (n : Nat) : List (List Key × V) → List (List Key × D) → Prop
  | nil : RepT K mg G n [] []
  | cons {k : List Key} {v : V} {vs : List (List Key × V)} {d : D} {ds : List (List Key × D)} : Rep K mg G n v d → RepT K mg G n vs ds → RepT K mg G n ((k, v) :: vs) ((k, d) :: ds)
theorem RepT.up (g : Le T k G G') (hn : n' + k ≤ n) : ∀ {vs : List (List Key × V)} {ds : List (List Key × D)}, RepT K mg G n vs ds → RepT K mg G' n' vs ds
  | _, _, .nil => .nil
  | _, _, .cons a b => .cons (a.up g hn) (RepT.up g hn b)
theorem RepT.same (g : Same G G') {v : List (List Key × V)} {d : List (List Key × D)} (r : RepT K mg G n v d) : RepT K mg G' n v d := r.up (T := []) (k := 0) (Le.same g) (Nat.le_refl _)
theorem Rep.fuel {v : V} {d : D} (r : Rep K mg G n v d) (h : n' ≤ n) : Rep K mg G n' v d := r.up (T := []) (k := 0) (Le.refl [] G) (by omega)
theorem RepAll.length : ∀ {vs : List V} {ds : List D}, RepAll K mg G n vs ds → vs.length = ds.length
  | _, _, .nil => rfl
  | _, _, .cons _ b => by rw [List.length_cons, List.length_cons, RepAll.length b]
theorem RepAll.get : ∀ {vs : List V} {ds : List D} {i : Nat} {d : D}, RepAll K mg G n vs ds → ds[i]? = some d → ∃ v, vs[i]? = some v ∧ Rep K mg G n v d
  | _, _, _, _, .nil, h => by simp at h
  | _, _, 0, _, .cons a _, h => by
    have e := Option.some.inj h
    subst e
    exact ⟨_, rfl, a⟩
  | _, _, i + 1, d, .cons _ b, h => by
    obtain ⟨v, h1, h2⟩ := RepAll.get (i := i) (d := d) b h
    exact ⟨v, h1, h2⟩
theorem RepAll.get' {vs : List V} {ds : List D} {i : Nat} {v : V} (r : RepAll K mg G n vs ds) (h : vs[i]? = some v) : ∃ d, ds[i]? = some d ∧ Rep K mg G n v d := by
  have hl : i < ds.length := by
    rw [← r.length]
    exact (List.getElem?_eq_some_iff.mp h).1
  obtain ⟨v', e, r'⟩ := r.get (List.getElem?_eq_getElem hl)
  rw [h] at e
  cases e
  exact ⟨_, List.getElem?_eq_getElem hl, r'⟩
theorem RepAll.append : ∀ {vs ws : List V} {ds es : List D}, RepAll K mg G n vs ds → RepAll K mg G n ws es → RepAll K mg G n (vs ++ ws) (ds ++ es)
  | _, _, _, _, .nil, h => h
  | _, _, _, _, .cons a b, h => .cons a (RepAll.append b h)
theorem RepAll.take : ∀ (i : Nat) {vs : List V} {ds : List D}, RepAll K mg G n vs ds → RepAll K mg G n (vs.take i) (ds.take i)
  | 0, _, _, _ => by simpa using RepAll.nil
  | i + 1, _, _, .nil => .nil
  | i + 1, _, _, .cons a b => .cons a (RepAll.take i b)
theorem RepAll.drop : ∀ (i : Nat) {vs : List V} {ds : List D}, RepAll K mg G n vs ds → RepAll K mg G n (vs.drop i) (ds.drop i)
  | 0, _, _, h => h
  | i + 1, _, _, .nil => .nil
  | i + 1, _, _, .cons a b => RepAll.drop i b
theorem RepAll.set {v : V} {d : D} (r : Rep K mg G n v d) : ∀ (i : Nat) {vs : List V} {ds : List D}, RepAll K mg G n vs ds → RepAll K mg G n (vs.set i v) (ds.set i d)
  | _, _, _, .nil => .nil
  | 0, _, _, .cons a b => .cons r b
  | i + 1, _, _, .cons a b => .cons a (RepAll.set r i b)
theorem RepAll.one {v : V} {d : D} (r : Rep K mg G n v d) : RepAll K mg G n [v] [d] := .cons r .nil
theorem RepAll.reverse : ∀ {vs : List V} {ds : List D}, RepAll K mg G n vs ds → RepAll K mg G n vs.reverse ds.reverse
  | _, _, .nil => .nil
  | _, _, .cons a b => by
    rw [List.reverse_cons, List.reverse_cons]
    exact (RepAll.reverse b).append (.one a)
theorem RepAll.ints : ∀ (l : List Int), RepAll K mg G n (l.map V.int) (l.map D.int)
  | [] => .nil
  | i :: l => .cons (.int i) (RepAll.ints l)
theorem RepAll.ints_inv : ∀ {vs : List V} {l : List Int}, RepAll K mg G n vs (l.map D.int) → vs = l.map V.int
  | _, [], .nil => rfl
  | _, i :: l, .cons a b => by
    cases a
    rw [RepAll.ints_inv b]
    rfl
end

/-! ### the state as data -/
/-- a slot: data; a list, a dict of the def's own (nobody else holds it) -/
inductive SV where
  | p (d : D)
  | ol (l : List D)
  | od (l : List (Key × D))
  | ot (l : List (List Key × D))
structure DS where
  sl : List (Option SV)
  n : Nat
abbrev Exc := Str × Str × D
/-- the entry of a def -/
structure Ct where
  T : TT0
  G0 : Hp
  H0 : Hp
  n0 : Nat
  E : XK
  ED : Exc → Nat → Prop
def Owns (K : PySem.W.Frag) (mg : MG) (c : Ct) (G H : Hp) (n : Nat) (a : Addr) : SV → Prop
  | .p _ => False
  | .ol l => G a = none ∧ (c.G0 a = none → c.H0 a = none) ∧ ∃ xs, H a = some (.lst xs) ∧ RepAll K mg G n xs l
  | .od l => G a = none ∧ (c.G0 a = none → c.H0 a = none) ∧ ∃ kvs, H a = some (.dK kvs) ∧ RepK K mg G n kvs l
  | .ot l => G a = none ∧ (c.G0 a = none → c.H0 a = none) ∧ ∃ kvs, H a = some (.dT kvs) ∧ RepT K mg G n kvs l
def SlotOk (K : PySem.W.Frag) (mg : MG) (c : Ct) (G H : Hp) (n : Nat) (v : Option (Option V)) : Option (Option SV) → Prop
  | some (some (.p d)) => ∃ x, v = some (some x) ∧ Rep K mg G n x d
  | some (some (.ol l)) => ∃ a, v = some (some (.ref a)) ∧ Owns K mg c G H n a (.ol l)
  | some (some (.od l)) => ∃ a, v = some (some (.ref a)) ∧ Owns K mg c G H n a (.od l)
  | some (some (.ot l)) => ∃ a, v = some (some (.ref a)) ∧ Owns K mg c G H n a (.ot l)
  | _ => True
def isOwn : Option (Option SV) → Prop
  | some (some (.ol _)) => True
  | some (some (.od _)) => True
  | some (some (.ot _)) => True
  | _ => False
structure Rp (c : Ct) (K : PySem.W.Frag) (mg : MG) (σ : List (Option V)) (G H : Hp) (S : DS) : Prop where
  sub : Sub G H
  nle : S.n ≤ c.n0
  le : Le c.T (c.n0 - S.n) c.G0 G
  hid : ∀ b o, c.H0 b = some o → c.G0 b = none → H b = some o ∧ G b = none
  new : ∀ b o, G b = some o → c.G0 b = none → c.H0 b = none
  tabs : LamX.Tabs c.T G
  len : σ.length = S.sl.length
  slots : ∀ i : Nat, SlotOk K mg c G H S.n σ[i]? S.sl[i]?
  apart : ∀ (i j : Nat) (a : Addr), i ≠ j → isOwn S.sl[i]? → isOwn S.sl[j]? → σ[i]? = some (some (.ref a)) → σ[j]? = some (some (.ref a)) → False
section
variable {c : Ct} {K : PySem.W.Frag} {mg : MG} {σ : List (Option V)} {G H G' H' : Hp} {S : DS} {k : Nat}
/-- what was tracked at the entry is tracked -/
theorem Rp.old (R : Rp c K mg σ G H S) {b : Addr} (n : H b = none) (g : c.G0 b = none) : c.H0 b = none := by
  cases e : c.H0 b with
  | none => rfl
  | some o =>
    have z := (R.hid b o e g).1
    rw [n] at z
    cases z
theorem Owns.up {k n n' : Nat} {a : Addr} {v : SV} (g : Gw c.T k G H G' H') (hn : n' + k ≤ n) (h : Owns K mg c G H n a v) : Owns K mg c G' H' n' a v := by
  cases v with
  | p d => exact h
  | ol l =>
    obtain ⟨h1, h2, xs, h3, h4⟩ := h
    exact ⟨g.apart h3 h1, h2, xs, g.hid _ _ h3 h1, h4.up g.le hn⟩
  | od l =>
    obtain ⟨h1, h2, xs, h3, h4⟩ := h
    exact ⟨g.apart h3 h1, h2, xs, g.hid _ _ h3 h1, h4.up g.le hn⟩
  | ot l =>
    obtain ⟨h1, h2, xs, h3, h4⟩ := h
    exact ⟨g.apart h3 h1, h2, xs, g.hid _ _ h3 h1, h4.up g.le hn⟩
theorem SlotOk.up {k n n' : Nat} {v : Option (Option V)} : ∀ {u : Option (Option SV)}, Gw c.T k G H G' H' → n' + k ≤ n → SlotOk K mg c G H n v u → SlotOk K mg c G' H' n' v u
  | some (some (.p d)), g, hn, ⟨x, e, r⟩ => ⟨x, e, r.up g.le hn⟩
  | some (some (.ol l)), g, hn, ⟨a, e, r⟩ => ⟨a, e, r.up g hn⟩
  | some (some (.od l)), g, hn, ⟨a, e, r⟩ => ⟨a, e, r.up g hn⟩
  | some (some (.ot l)), g, hn, ⟨a, e, r⟩ => ⟨a, e, r.up g hn⟩
  | some none, _, _, _ => True.intro
  | none, _, _, _ => True.intro
/-- the heap has grown -/
theorem Rp.gw (R : Rp c K mg σ G H S) (g : Gw c.T k G H G' H') (hk : k ≤ S.n) : Rp c K mg σ G' H' { S with n := S.n - k } := by
  refine ⟨g.sub, Nat.le_trans (Nat.sub_le _ _) R.nle, ?_, fun b o h1 h2 => ?_, fun b o h1 h2 => ?_, g.le.tabs R.tabs, R.len, fun i => (R.slots i).up g (by show S.n - k + k ≤ S.n; omega), R.apart⟩
  · have z := R.le.trans g.le
    have e : c.n0 - (S.n - k) = c.n0 - S.n + k := by
      have := R.nle
      omega
    show Le c.T (c.n0 - (S.n - k)) c.G0 G'
    rw [e]
    exact z
  · obtain ⟨h3, h4⟩ := R.hid b o h1 h2
    exact ⟨g.hid b o h3 h4, g.apart h3 h4⟩
  · cases e : G b with
    | some u => exact R.new b u e h2
    | none => exact R.old (g.new b o h1 e) h2
theorem Rp.gw0 (R : Rp c K mg σ G H S) (g : Gw c.T 0 G H G' H') : Rp c K mg σ G' H' S := R.gw g (Nat.zero_le _)
theorem Rp.alloc (R : Rp c K mg σ G H S) {p : Addr} {o : HO} (np : H p = none) : Rp c K mg σ (upd G p o) (upd H p o) S := R.gw0 (.alloc R.sub np)
theorem Rp.gnone (R : Rp c K mg σ G H S) {p : Addr} (np : H p = none) : G p = none := by
  cases e : G p with
  | none => rfl
  | some u =>
    rw [R.sub p u e] at np
    cases np
/-- a slot's data set -/
theorem Rp.set (R : Rp c K mg σ G H S) {i : Nat} {v : V} {d : D} (r : Rep K mg G S.n v d) : Rp c K mg (σ.set i (some v)) G H { S with sl := S.sl.set i (some (.p d)) } := by
  by_cases hi : i < S.sl.length
  case neg =>
    rw [List.set_eq_of_length_le (by rw [R.len]; omega)]
    have e : S.sl.set i (some (SV.p d)) = S.sl := List.set_eq_of_length_le (by omega)
    rw [e]
    exact R
  refine ⟨R.sub, R.nle, R.le, R.hid, R.new, R.tabs, by simp [R.len], fun j => ?_, fun j l a hjl h1 h2 h3 h4 => ?_⟩
  · by_cases hj : i = j
    · subst hj
      rw [List.getElem?_set_self (by rw [R.len]; exact hi), List.getElem?_set_self hi]
      exact ⟨v, rfl, r⟩
    · rw [List.getElem?_set_ne hj, List.getElem?_set_ne hj]
      exact R.slots j
  · have nj : i ≠ j := fun e => by
      subst e
      rw [List.getElem?_set_self hi] at h1
      exact h1
    have nl : i ≠ l := fun e => by
      subst e
      rw [List.getElem?_set_self hi] at h2
      exact h2
    rw [List.getElem?_set_ne nj] at h1 h3
    rw [List.getElem?_set_ne nl] at h2 h4
    exact R.apart j l a hjl h1 h2 h3 h4
/-- a slot forgotten -/
theorem Rp.drop (R : Rp c K mg σ G H S) (i : Nat) (w : Option V) : Rp c K mg (σ.set i w) G H { S with sl := S.sl.set i none } := by
  refine ⟨R.sub, R.nle, R.le, R.hid, R.new, R.tabs, by simp [R.len], fun j => ?_, fun j l a hjl h1 h2 h3 h4 => ?_⟩
  · by_cases hj : i = j
    · subst hj
      by_cases hi : i < S.sl.length
      · show SlotOk K mg c G H S.n _ (S.sl.set i none)[i]?
        rw [List.getElem?_set_self hi]
        exact True.intro
      · show SlotOk K mg c G H S.n _ (S.sl.set i none)[i]?
        rw [show (S.sl.set i none)[i]? = none from List.getElem?_eq_none (by simpa using hi)]
        exact True.intro
    · rw [List.getElem?_set_ne hj, List.getElem?_set_ne hj]
      exact R.slots j
  · have nn : ∀ q, isOwn (S.sl.set i none)[q]? → i ≠ q := fun q h e => by
      subst e
      by_cases hi : i < S.sl.length
      · rw [List.getElem?_set_self hi] at h
        exact h
      · rw [List.getElem?_eq_none (by simpa using hi)] at h
        exact h
    have nj := nn j h1
    have nl := nn l h2
    rw [List.getElem?_set_ne nj] at h1 h3
    rw [List.getElem?_set_ne nl] at h2 h4
    exact R.apart j l a hjl h1 h2 h3 h4
/-- a new object apart -/
theorem Rp.hide (R : Rp c K mg σ G H S) {p : Addr} {o : HO} (np : H p = none) (po : Pl o) : Rp c K mg σ G (upd H p o) S := by
  refine ⟨⟨fun b w e => ?_, fun b w e n => ?_⟩, R.nle, R.le, fun b w h1 h2 => ?_, R.new, R.tabs, R.len, fun j => ?_, R.apart⟩
  · rw [upd_ne (ne_of_none (R.sub b w e) np)]
    exact R.sub b w e
  · by_cases hb : b = p
    · subst hb
      rw [upd_same] at e
      cases e
      exact po
    · rw [upd_ne hb] at e
      exact R.sub.hd b w e n
  · obtain ⟨h3, h4⟩ := R.hid b w h1 h2
    exact ⟨by rw [upd_ne (ne_of_none h3 np)]; exact h3, h4⟩
  · have sj := R.slots j
    cases hq : S.sl[j]? with
    | none => exact True.intro
    | some w =>
      cases w with
      | none => exact True.intro
      | some w =>
        rw [hq] at sj
        cases w with
        | p d => exact sj
        | ol l =>
          obtain ⟨a', e', h1, h2, xs, h3, h4⟩ := sj
          exact ⟨a', e', h1, h2, xs, by rw [upd_ne (ne_of_none h3 np)]; exact h3, h4⟩
        | od l =>
          obtain ⟨a', e', h1, h2, xs, h3, h4⟩ := sj
          exact ⟨a', e', h1, h2, xs, by rw [upd_ne (ne_of_none h3 np)]; exact h3, h4⟩
        | ot l =>
          obtain ⟨a', e', h1, h2, xs, h3, h4⟩ := sj
          exact ⟨a', e', h1, h2, xs, by rw [upd_ne (ne_of_none h3 np)]; exact h3, h4⟩
/-- an object apart comes into a slot -/
theorem Rp.take (R : Rp c K mg σ G H S) {i : Nat} {p : Addr} {u : SV} (lo : ∀ j : Nat, isOwn S.sl[j]? → σ[j]? ≠ some (some (V.ref p))) (ho : Owns K mg c G H S.n p u) (hu : ∀ d, u ≠ .p d) : Rp c K mg (σ.set i (some (.ref p))) G H { S with sl := S.sl.set i (some u) } := by
  by_cases hi : i < S.sl.length
  case neg =>
    rw [List.set_eq_of_length_le (by rw [R.len]; omega)]
    have e : S.sl.set i (some u) = S.sl := List.set_eq_of_length_le (by omega)
    rw [e]
    exact R
  refine ⟨R.sub, R.nle, R.le, R.hid, R.new, R.tabs, by simp [R.len], fun j => ?_, fun j l a hjl h1 h2 h3 h4 => ?_⟩
  · by_cases hj : i = j
    · subst hj
      rw [List.getElem?_set_self (by rw [R.len]; exact hi), List.getElem?_set_self hi]
      cases u with
      | p d => exact absurd rfl (hu d)
      | ol l => exact ⟨p, rfl, ho⟩
      | od l => exact ⟨p, rfl, ho⟩
      | ot l => exact ⟨p, rfl, ho⟩
    · rw [List.getElem?_set_ne hj, List.getElem?_set_ne hj]
      exact R.slots j
  · by_cases hj : i = j
    · subst hj
      rw [List.getElem?_set_self (by rw [R.len]; exact hi)] at h3
      cases h3
      rw [List.getElem?_set_ne hjl] at h2 h4
      exact lo l h2 h4
    · rw [List.getElem?_set_ne hj] at h1 h3
      by_cases hl : i = l
      · subst hl
        rw [List.getElem?_set_self (by rw [R.len]; exact hi)] at h4
        cases h4
        exact lo j h1 h3
      · rw [List.getElem?_set_ne hl] at h2 h4
        exact R.apart j l a hjl h1 h2 h3 h4
theorem Owns.pl {p : Addr} {o : HO} {u : SV} {n : Nat} (ho : ∀ H2 : Hp, H2 p = some o → Owns K mg c G H2 n p u) (hu : ∀ d, u ≠ .p d) : Pl o := by
  have z := ho (fun _ => some o) rfl
  cases u with
  | p d => exact absurd rfl (hu d)
  | ol l =>
    obtain ⟨_, _, xs, e, _⟩ := z
    cases e
    exact pl_lst
  | od l =>
    obtain ⟨_, _, xs, e, _⟩ := z
    cases e
    exact pl_dK
  | ot l =>
    obtain ⟨_, _, xs, e, _⟩ := z
    cases e
    exact pl_dT
/-- an object of one's own written -/
theorem Rp.put (R : Rp c K mg σ G H S) {i : Nat} {a : Addr} {o : HO} {u u' : SV} (hs : S.sl[i]? = some (some u)) (hu : ∀ d, u ≠ .p d) (hu' : ∀ d, u' ≠ .p d) (hσ : σ[i]? = some (some (.ref a)))
    (ho : ∀ H' : Hp, H' a = some o → Owns K mg c G H' S.n a u') : Rp c K mg σ G (upd H a o) { S with sl := S.sl.set i (some u') } := by
  have hi : i < S.sl.length := (List.getElem?_eq_some_iff.mp hs).1
  have own : ∃ w, G a = none ∧ (c.G0 a = none → c.H0 a = none) ∧ H a = some w := by
    have z := R.slots i
    rw [hs] at z
    cases u with
    | p d => exact absurd rfl (hu d)
    | ol l =>
      obtain ⟨a', e', h1, h2, xs, h3, h4⟩ := z
      rw [hσ] at e'
      cases e'
      exact ⟨_, h1, h2, h3⟩
    | od l =>
      obtain ⟨a', e', h1, h2, xs, h3, h4⟩ := z
      rw [hσ] at e'
      cases e'
      exact ⟨_, h1, h2, h3⟩
    | ot l =>
      obtain ⟨a', e', h1, h2, xs, h3, h4⟩ := z
      rw [hσ] at e'
      cases e'
      exact ⟨_, h1, h2, h3⟩
  obtain ⟨w, g1, g2, g3⟩ := own
  have isO : isOwn S.sl[i]? := by
    rw [hs]
    cases u with
    | p d => exact absurd rfl (hu d)
    | ol l => exact True.intro
    | od l => exact True.intro
    | ot l => exact True.intro
  have ne : ∀ {j a'}, i ≠ j → isOwn S.sl[j]? → σ[j]? = some (some (V.ref a')) → a' ≠ a := fun {j a'} hj h e z => by
    subst z
    exact R.apart i j _ hj isO h hσ e
  refine ⟨⟨fun b w e => ?_, fun b w e n => ?_⟩, R.nle, R.le, fun b w h1 h2 => ?_, R.new, R.tabs, by simp [R.len], fun j => ?_, fun j l b hjl h1 h2 h3 h4 => ?_⟩
  · rw [upd_ne (ne_of_none e g1)]
    exact R.sub b w e
  · by_cases hb : b = a
    · subst hb
      rw [upd_same] at e
      cases e
      exact Owns.pl ho hu'
    · rw [upd_ne hb] at e
      exact R.sub.hd b w e n
  · obtain ⟨h3, h4⟩ := R.hid b w h1 h2
    exact ⟨by rw [upd_ne (fun z => by subst z; have z2 := g2 h2; rw [h1] at z2; cases z2)]; exact h3, h4⟩
  · by_cases hj : i = j
    · subst hj
      rw [List.getElem?_set_self hi]
      have z := ho (upd H a o) upd_same
      cases u' with
      | p d => exact absurd rfl (hu' d)
      | ol l => exact ⟨a, hσ, z⟩
      | od l => exact ⟨a, hσ, z⟩
      | ot l => exact ⟨a, hσ, z⟩
    · rw [List.getElem?_set_ne hj]
      have sj := R.slots j
      cases hq : S.sl[j]? with
      | none => exact True.intro
      | some w =>
        cases w with
        | none => exact True.intro
        | some w =>
          rw [hq] at sj
          cases w with
          | p d => exact sj
          | ol l =>
            obtain ⟨a', e', h1, h2, xs, h3, h4⟩ := sj
            exact ⟨a', e', h1, h2, xs, by rw [upd_ne (ne hj (by rw [hq]; exact True.intro) e')]; exact h3, h4⟩
          | od l =>
            obtain ⟨a', e', h1, h2, xs, h3, h4⟩ := sj
            exact ⟨a', e', h1, h2, xs, by rw [upd_ne (ne hj (by rw [hq]; exact True.intro) e')]; exact h3, h4⟩
          | ot l =>
            obtain ⟨a', e', h1, h2, xs, h3, h4⟩ := sj
            exact ⟨a', e', h1, h2, xs, by rw [upd_ne (ne hj (by rw [hq]; exact True.intro) e')]; exact h3, h4⟩
  · have key : ∀ {q}, isOwn (S.sl.set i (some u'))[q]? → isOwn S.sl[q]? := fun {q} h => by
      by_cases hq : i = q
      · rw [← hq]
        exact isO
      · rw [List.getElem?_set_ne hq] at h
        exact h
    exact R.apart j l b hjl (key h1) (key h2) h3 h4
def frozen : SV → D
  | .p d => d
  | .ol l => .lst l
  | .od l => .dct l
  | .ot _ => .non
def froz (S : DS) (i : Nat) (d : D) : DS := { S with sl := S.sl.set i (some (.p d)) }
/-- a slot's own object is owned no more: data from now on -/
theorem Rp.freeze (R : Rp c K mg σ G H S) {i : Nat} {u : SV} (hs : S.sl[i]? = some (some u)) (nt : ∀ l, u ≠ .ot l) :
    ∃ G' v, Le c.T 0 G G' ∧ σ[i]? = some (some v) ∧ Rep K mg G' S.n v (frozen u) ∧ Rp c K mg σ G' H (froz S i (frozen u)) ∧ ∀ b o, H b = some o → G b = none → (∀ i : Nat, isOwn S.sl[i]? → σ[i]? ≠ some (some (V.ref b))) → G' b = none := by
  have hi : i < S.sl.length := (List.getElem?_eq_some_iff.mp hs).1
  have sl := R.slots i
  rw [hs] at sl
  have main : ∀ (a : Addr) (o : HO), G a = none → (c.G0 a = none → c.H0 a = none) → H a = some o → σ[i]? = some (some (V.ref a)) → isOwn S.sl[i]? → (∀ G' : Hp, Same G G' → G' a = some o → Rep K mg G' S.n (V.ref a) (frozen u)) →
      ∃ G' v, Le c.T 0 G G' ∧ σ[i]? = some (some v) ∧ Rep K mg G' S.n v (frozen u) ∧ Rp c K mg σ G' H (froz S i (frozen u)) ∧ ∀ b o, H b = some o → G b = none → (∀ i : Nat, isOwn S.sl[i]? → σ[i]? ≠ some (some (V.ref b))) → G' b = none := by
    intro a o g1 g2 g3 hσ isO hr
    have sm : Same G (upd G a o) := fun b w e => by
      rw [upd_ne (ne_of_none e g1)]
      exact e
    have r := hr (upd G a o) sm upd_same
    refine ⟨upd G a o, .ref a, .same sm, hσ, r, ⟨⟨fun b w e => ?_, fun b w e n => ?_⟩, R.nle, ?_, fun b w h1 h2 => ?_, fun b w h1 h2 => ?_, (Le.same (T := c.T) sm).tabs R.tabs, by simp [froz, R.len], fun j => ?_, fun j l b hjl h1 h2 h3 h4 => ?_⟩, fun b w h n l => ?_⟩
    · by_cases hb : b = a
      · subst hb
        rw [upd_same] at e
        cases e
        exact g3
      · rw [upd_ne hb] at e
        exact R.sub b w e
    · by_cases hb : b = a
      · subst hb
        rw [upd_same] at n
        cases n
      · rw [upd_ne hb] at n
        exact R.sub.hd b w e n
    · have z := R.le.trans (Le.same (T := c.T) sm)
      exact z.mono (by show c.n0 - S.n + 0 ≤ c.n0 - S.n; omega)
    · obtain ⟨h3, h4⟩ := R.hid b w h1 h2
      refine ⟨h3, ?_⟩
      rw [upd_ne (fun z => by subst z; have z2 := g2 h2; rw [h1] at z2; cases z2)]
      exact h4
    · by_cases hb : b = a
      · rw [hb] at h2 ⊢
        exact g2 h2
      · rw [upd_ne hb] at h1
        exact R.new b w h1 h2
    · show SlotOk K mg c (upd G a o) H S.n σ[j]? (S.sl.set i (some (.p (frozen u))))[j]?
      by_cases hj : i = j
      · subst hj
        rw [List.getElem?_set_self hi]
        exact ⟨.ref a, hσ, r⟩
      · rw [List.getElem?_set_ne hj]
        have sj := R.slots j
        cases hq : S.sl[j]? with
        | none => exact True.intro
        | some w =>
          cases w with
          | none => exact True.intro
          | some w =>
            rw [hq] at sj
            cases w with
            | p d =>
              obtain ⟨x, e, rr⟩ := sj
              exact ⟨x, e, rr.same sm⟩
            | ol l =>
              obtain ⟨a', e', h1, h2, xs, h3, h4⟩ := sj
              have ne : a' ≠ a := fun z => by
                subst z
                exact R.apart i j _ hj isO (by rw [hq]; exact True.intro) hσ e'
              exact ⟨a', e', by rw [upd_ne ne]; exact h1, h2, xs, h3, h4.same sm⟩
            | od l =>
              obtain ⟨a', e', h1, h2, xs, h3, h4⟩ := sj
              have ne : a' ≠ a := fun z => by
                subst z
                exact R.apart i j _ hj isO (by rw [hq]; exact True.intro) hσ e'
              exact ⟨a', e', by rw [upd_ne ne]; exact h1, h2, xs, h3, h4.same sm⟩
            | ot l =>
              obtain ⟨a', e', h1, h2, xs, h3, h4⟩ := sj
              have ne : a' ≠ a := fun z => by
                subst z
                exact R.apart i j _ hj isO (by rw [hq]; exact True.intro) hσ e'
              exact ⟨a', e', by rw [upd_ne ne]; exact h1, h2, xs, h3, h4.same sm⟩
    · have key : ∀ {q}, isOwn (S.sl.set i (some (SV.p (frozen u))))[q]? → isOwn S.sl[q]? := fun {q} h => by
        by_cases hq : i = q
        · rw [← hq]
          exact isO
        · rw [List.getElem?_set_ne hq] at h
          exact h
      exact R.apart j l b hjl (key h1) (key h2) h3 h4
    · have ne : b ≠ a := fun z => by
        subst z
        exact l i isO hσ
      rw [upd_ne ne]
      exact n
  cases u with
  | p d =>
    obtain ⟨x, e, r⟩ := sl
    refine ⟨G, x, .refl _ _, e, r, ?_⟩
    have es : froz S i (frozen (.p d)) = S := by
      have e2 : S.sl.set i (some (SV.p d)) = S.sl := by
        apply List.ext_getElem?
        intro j
        by_cases hj : i = j
        · subst hj
          rw [List.getElem?_set_self hi, hs]
        · rw [List.getElem?_set_ne hj]
      show ({ S with sl := S.sl.set i (some (SV.p d)) } : DS) = S
      rw [e2]
    rw [es]
    exact ⟨R, fun _ _ _ n _ => n⟩
  | ol l =>
    obtain ⟨a, e, h1, h2, xs, h3, h4⟩ := sl
    exact main a _ h1 h2 h3 e (by rw [hs]; exact True.intro) fun G' sm e' => .lst (.inl (.inl e')) (h4.same sm)
  | od l =>
    obtain ⟨a, e, h1, h2, xs, h3, h4⟩ := sl
    exact main a _ h1 h2 h3 e (by rw [hs]; exact True.intro) fun G' sm e' => .dct (.inl e') (h4.same sm)
  | ot l => exact absurd rfl (nt l)
end
end DL
set_option maxHeartbeats 1000000
namespace DL
open PySem PySem.Spec PyProof.Rows L2
abbrev Sig := List (Option V)
/-! ### judgements -/
abbrev DE := DS → (D → DS → Prop) → Prop
abbrev DT := DS → (Bool → DS → Prop) → Prop
abbrev DA := DS → (List D → DS → Prop) → Prop
structure DEnds where
  nx : DS → Prop
  rt : D → DS → Prop
  bk : DS → Prop := fun _ => False
  ct : DS → Prop := fun _ => False
abbrev DSt := DEnds → DS → Prop
abbrev DG := D → DS → (DS → Prop) → Prop
/-- behind an evaluation from (G, S) -/
def Loose (σ : Sig) (S : DS) (b : Addr) : Prop := ∀ i : Nat, isOwn S.sl[i]? → σ[i]? ≠ some (some (V.ref b))
structure Aft (c : Ct) (K : PySem.W.Frag) (mg : MG) (σ : Sig) (G H : Hp) (S : DS) (H' : Hp) (G' : Hp) (S' : DS) : Prop where
  le : Le c.T (S.n - S'.n) G G'
  nle : S'.n ≤ S.n
  rp : Rp c K mg σ G' H' S'
  hid : ∀ b o, H b = some o → G b = none → Loose σ S b → H' b = some o ∧ G' b = none ∧ Loose σ S' b
def WE (c : Ct) (K : PySem.W.Frag) (mg : MG) (σ : Sig) (G H : Hp) (S : DS) (Qd : D → DS → Prop) : VK := fun v H' => ∃ G' S' d, Aft c K mg σ G H S H' G' S' ∧ Rep K mg G' S'.n v d ∧ Qd d S'
def WT (c : Ct) (K : PySem.W.Frag) (mg : MG) (σ : Sig) (G H : Hp) (S : DS) (Qd : Bool → DS → Prop) : Bool → Hp → Prop := fun b H' => ∃ G' S', Aft c K mg σ G H S H' G' S' ∧ Qd b S'
def WA (c : Ct) (K : PySem.W.Frag) (mg : MG) (σ : Sig) (G H : Hp) (S : DS) (Qd : List D → DS → Prop) : List V → Hp → Prop := fun vs H' => ∃ G' S' ds, Aft c K mg σ G H S H' G' S' ∧ RepAll K mg G' S'.n vs ds ∧ Qd ds S'
def WN (c : Ct) (K : PySem.W.Frag) (mg : MG) (G : Hp) (n : Nat) (Qd : DS → Prop) : Sig → Hp → Prop := fun σ' H' => ∃ G' S', Rp c K mg σ' G' H' S' ∧ Le c.T (n - S'.n) G G' ∧ S'.n ≤ n ∧ Qd S'
def WR (c : Ct) (K : PySem.W.Frag) (mg : MG) (Qd : D → DS → Prop) : VK := fun v H' => ∃ σ' G' S' d, Rp c K mg σ' G' H' S' ∧ Rep K mg G' S'.n v d ∧ Qd d S'
def SimE (c : Ct) (K : PySem.W.Frag) (mg : MG) (te : TE) (de : DE) : Prop := ∀ σ G H S Qd Q, Rp c K mg σ G H S → (∀ v H', WE c K mg σ G H S Qd v H' → Q v H') → de S Qd → te σ H Q
def SimT (c : Ct) (K : PySem.W.Frag) (mg : MG) (te : TT) (de : DT) : Prop := ∀ σ G H S Qd Q, Rp c K mg σ G H S → (∀ v H', WT c K mg σ G H S Qd v H' → Q v H') → de S Qd → te σ H Q
def SimA (c : Ct) (K : PySem.W.Frag) (mg : MG) (te : TA) (de : DA) : Prop := ∀ σ G H S Qd Q, Rp c K mg σ G H S → (∀ v H', WA c K mg σ G H S Qd v H' → Q v H') → de S Qd → te σ H Q
def SimS (c : Ct) (K : PySem.W.Frag) (mg : MG) (t : TS) (ds : DSt) : Prop := ∀ σ G H S (B : DEnds) (E : Ends), Rp c K mg σ G H S →
  (∀ σ' H', WN c K mg G S.n B.nx σ' H' → E.nx σ' H') → (∀ v H', WR c K mg B.rt v H' → E.rt v H') → (∀ σ' H', WN c K mg G S.n B.bk σ' H' → E.bk σ' H') → (∀ σ' H', WN c K mg G S.n B.ct σ' H' → E.ct σ' H') → ds B S → t E σ H
def SimG (c : Ct) (K : PySem.W.Frag) (mg : MG) (t : TG) (g : DG) : Prop := ∀ σ G H S v d Qd (Q : Sig → Hp → Prop), Rp c K mg σ G H S → Rep K mg G S.n v d → (∀ σ' H', (∃ G' S', Rp c K mg σ' G' H' S' ∧ Le c.T (S.n - S'.n) G G' ∧ S'.n ≤ S.n ∧ Qd S') → Q σ' H') → g d S Qd → t v σ H Q
def PDE (c : Ct) (X : Cx) (e : Expr) (de : DE) : Prop := ∃ te, PE X e te ∧ SimE c X.K X.mg te de
def PDT (c : Ct) (X : Cx) (e : Expr) (de : DT) : Prop := ∃ te, PT X e te ∧ SimT c X.K X.mg te de
def PDW (c : Ct) (X : Cx) (e : Expr) (de : DT) : Prop := ∃ te, PW X e te ∧ SimT c X.K X.mg te de
def PDA (c : Ct) (X : Cx) (es : List Expr) (de : DA) : Prop := ∃ te, PA X es te ∧ SimA c X.K X.mg te de
def PDS (c : Ct) (X : Cx) (st : Stmt) (ds : DSt) : Prop := ∃ t, PS X st t ∧ SimS c X.K X.mg t ds
def PDSs (c : Ct) (X : Cx) (st : List Stmt) (ds : DSt) : Prop := ∃ t, PSs X st t ∧ SimS c X.K X.mg t ds
def PDG (c : Ct) (X : Cx) (tg : Expr) (g : DG) : Prop := ∃ t, PG X tg t ∧ SimG c X.K X.mg t g
section
variable {c : Ct} {K : PySem.W.Frag} {mg : MG} {σ : Sig} {G H H' G' G1 H1 : Hp} {S S1 S' : DS}
theorem Aft.refl (R : Rp c K mg σ G H S) : Aft c K mg σ G H S H G S := ⟨by rw [Nat.sub_self]; exact .refl _ _, Nat.le_refl _, R, fun _ _ h n l => ⟨h, n, l⟩⟩
theorem Aft.trans (a : Aft c K mg σ G H S H1 G1 S1) (b : Aft c K mg σ G1 H1 S1 H' G' S') : Aft c K mg σ G H S H' G' S' :=
  ⟨by
    have z := a.le.trans b.le
    have h1 := a.nle
    have h2 := b.nle
    have e : S.n - S1.n + (S1.n - S'.n) = S.n - S'.n := by omega
    rw [e] at z
    exact z, Nat.le_trans b.nle a.nle, b.rp, fun q o h n l => by
    obtain ⟨h1, n1, l1⟩ := a.hid q o h n l
    exact b.hid q o h1 n1 l1⟩
theorem Aft.rep (a : Aft c K mg σ G H S H1 G1 S1) {v : V} {d : D} (r : Rep K mg G S.n v d) : Rep K mg G1 S1.n v d := r.up a.le (by have := a.nle; omega)
theorem Aft.repAll (a : Aft c K mg σ G H S H1 G1 S1) {v : List V} {d : List D} (r : RepAll K mg G S.n v d) : RepAll K mg G1 S1.n v d := r.up a.le (by have := a.nle; omega)
theorem Aft.gw {k : Nat} (R : Rp c K mg σ G H S) (g : Gw c.T k G H G' H') (hk : k ≤ S.n) : Aft c K mg σ G H S H' G' { S with n := S.n - k } :=
  ⟨by
    have e : S.n - (S.n - k) = k := by omega
    show Le c.T (S.n - (S.n - k)) G G'
    rw [e]
    exact g.le, Nat.sub_le _ _, R.gw g hk, fun q o h n l => ⟨g.hid q o h n, g.apart h n, l⟩⟩
theorem le_trans' {T : TT0} {n n1 n2 : Nat} {G G1 G2 : Hp} (a : Le T (n - n1) G G1) (h1 : n1 ≤ n) (b : Le T (n1 - n2) G1 G2) (h2 : n2 ≤ n1) : Le T (n - n2) G G2 := by
  have z := a.trans b
  have e : n - n1 + (n1 - n2) = n - n2 := by omega
  rw [e] at z
  exact z
theorem WN.of {n n1 : Nat} {Qd : DS → Prop} (a : Le c.T (n - n1) G G1) (h1 : n1 ≤ n) {σ' : Sig} (h : WN c K mg G1 n1 Qd σ' H') : WN c K mg G n Qd σ' H' := by
  obtain ⟨G', S', R, l, hn, q⟩ := h
  exact ⟨G', S', R, le_trans' a h1 l hn, Nat.le_trans hn h1, q⟩
theorem Aft.gw0 (R : Rp c K mg σ G H S) (g : Gw c.T 0 G H G' H') : Aft c K mg σ G H S H' G' S := Aft.gw (k := 0) R g (Nat.zero_le _)
end
/-! ### names, constants -/
def dVar (i : Nat) : DE := fun S Q => match S.sl[i]? with
  | some (some (.p d)) => Q d S
  | some (some (.ol l)) => Q (.lst l) (froz S i (.lst l))
  | some (some (.od l)) => Q (.dct l) (froz S i (.dct l))
  | _ => False
def dC (d : D) : DE := fun S Q => Q d S
section
variable {c : Ct} {X : Cx}
theorem simVar {K : PySem.W.Frag} {mg : MG} (i : Nat) : SimE c K mg (tVar i) (dVar i) := by
  intro σ G H S Qd Q R hQ h
  unfold dVar at h
  cases hs : S.sl[i]? with
  | none => rw [hs] at h; exact h.elim
  | some w =>
    cases w with
    | none => rw [hs] at h; exact h.elim
    | some w =>
      rw [hs] at h
      have nt : ∀ l, w ≠ .ot l := fun l e => by
        subst e
        exact h.elim
      obtain ⟨G', v, g, e, r, R', hg⟩ := R.freeze hs nt
      have a : Aft c K mg σ G H S H G' (froz S i (frozen w)) := by
       refine ⟨by show Le c.T (S.n - S.n) G G'; rw [Nat.sub_self]; exact g, Nat.le_refl _, R', fun b o h n l => ?_⟩
       have lo : Loose σ (froz S i (frozen w)) b := fun j hj => l j (by
         by_cases e2 : i = j
         · subst e2
           have q : isOwn (S.sl.set i (some (SV.p (frozen w))))[i]? := hj
           rw [List.getElem?_set_self (List.getElem?_eq_some_iff.mp hs).1] at q
           exact q.elim
         · have q : isOwn (S.sl.set i (some (SV.p (frozen w))))[j]? := hj
           rw [List.getElem?_set_ne e2] at q
           exact q)
       exact ⟨h, hg b o h n l, lo⟩
      cases w with
      | p d =>
        have es : froz S i d = S := by
          have e2 : S.sl.set i (some (SV.p d)) = S.sl := by
            apply List.ext_getElem?
            intro j
            by_cases hj : i = j
            · subst hj
              rw [List.getElem?_set_self (List.getElem?_eq_some_iff.mp hs).1, hs]
            · rw [List.getElem?_set_ne hj]
          show ({ S with sl := S.sl.set i (some (SV.p d)) } : DS) = S
          rw [e2]
        refine ⟨v, e, hQ v H ⟨G', _, _, a, r, ?_⟩⟩
        show Qd d (froz S i d)
        rw [es]
        exact h
      | ol l => exact ⟨v, e, hQ v H ⟨G', _, _, a, r, h⟩⟩
      | od l => exact ⟨v, e, hQ v H ⟨G', _, _, a, r, h⟩⟩
      | ot l => exact absurd rfl (nt l)
theorem simC {K : PySem.W.Frag} {mg : MG} {v : V} {d : D} (r : ∀ G n, Rep K mg G n v d) : SimE c K mg (tC v) (dC d) := fun σ G H S Qd Q R hQ h => hQ v H ⟨G, S, d, .refl R, r _ _, h⟩
theorem pdv (i : Nat) {x : Str} {pos : Pos} (hN : X.N[i]? = some x := by rfl) (hv : Vis X.env.scope x := by first | exact Or.inl rfl | exact Or.inr (Or.inl rfl) | exact Or.inr (Or.inr rfl)) (hd : (x == ("__debug__" : Str)) = false := by decide)
    (hcd : (x == ("__classdict__" : Str)) = false := by decide) : PDE c X (.Name x pos) (dVar i) := ⟨_, pe_var hN hv hd hcd, simVar i⟩
theorem pd_int {i : Int} {j : Nat} {pos : Pos} : PDE c X (.Constant (.int i) j pos) (dC (.int i)) := ⟨_, pe_int, simC fun _ _ => .int i⟩
theorem pd_bl {b : Bool} {j : Nat} {pos : Pos} : PDE c X (.Constant (.bool b) j pos) (dC (.bl b)) := ⟨_, pe_bl, simC fun _ _ => .bl b⟩
theorem pd_non {j : Nat} {pos : Pos} : PDE c X (.Constant .none j pos) (dC .non) := ⟨_, pe_non, simC fun _ _ => .non⟩
theorem pd_str {x : Str} {j : Nat} {pos : Pos} : PDE c X (.Constant (.str x) j pos) (dC (.str x)) := ⟨_, pe_str, simC fun _ _ => .str x⟩
/-- a module's constant, a def as a value -/
theorem pd_glob {x : Str} {v : V} {u : Value} {d : D} {pos : Pos} (hg : Gl X x) (hm : X.mg x = some u) (r : RelV v u) (rd : ∀ G n, Rep X.K X.mg G n v d) (hd : (x == ("__debug__" : Str)) = false := by decide) : PDE c X (.Name x pos) (dC d) :=
  ⟨_, pe_glob hg hm r hd, simC rd⟩
theorem pd_fn {x : Str} {pos : Pos} (hg : Gl X x) (hm : ∃ f, X.mg x = some (.ref f)) (hd : (x == ("__debug__" : Str)) = false := by decide) : PDE c X (.Name x pos) (dC (.fn x)) := by
  obtain ⟨f, hm⟩ := hm
  exact ⟨_, pe_glob hg hm (v := .ref f) rfl hd, simC fun _ _ => .fn hm⟩
theorem pd_kint {x : Str} {i : Int} {pos : Pos} (hm : ∃ t, X.mg x = some (.int i t)) (hg : Gl X x) (hd : (x == ("__debug__" : Str)) = false := by decide) : PDE c X (.Name x pos) (dC (.int i)) := by
  obtain ⟨t, hm⟩ := hm
  exact ⟨_, pe_glob hg hm (v := .int i) ⟨t, rfl⟩ hd, simC fun _ _ => .int i⟩
theorem pd_kstr {x z : Str} {pos : Pos} (hm : ∃ t, X.mg x = some (.str z t)) (hg : Gl X x) (hd : (x == ("__debug__" : Str)) = false := by decide) : PDE c X (.Name x pos) (dC (.str z)) := by
  obtain ⟨t, hm⟩ := hm
  exact ⟨_, pe_glob hg hm (v := .str z) ⟨t, rfl⟩ hd, simC fun _ _ => .str z⟩
theorem pd_ktup {x : Str} {ns : List Int} {pos : Pos} (hm : ∃ a, X.mg x = some (.ref a) ∧ ∀ H, SqT X.K H a (ns.map V.int)) (hg : Gl X x) (hd : (x == ("__debug__" : Str)) = false := by decide) : PDE c X (.Name x pos) (dC (.tup (ns.map .int))) := by
  obtain ⟨a, hm, hs⟩ := hm
  exact ⟨_, pe_glob hg hm (v := .ref a) rfl hd, simC fun G n => .tup (hs G) (RepAll.ints ns)⟩
end
/-! ### operators -/
def dOp (g : D → D → Option D) (da db : DE) : DE := fun S Q => da S fun x S1 => db S1 fun y S2 => ∃ z, g x y = some z ∧ Q z S2
def Sim2 (T : TT0) (K : PySem.W.Frag) (mg : MG) (r : R2) (g : D → D → Option D) : Prop := ∀ G H n x y dx dy z (Q : VK), Sub G H → Rep K mg G n x dx → Rep K mg G n y dy → g dx dy = some z →
  (∀ v G' H', Gw T 0 G H G' H' → Rep K mg G' n v z → Q v H') → r x y H Q
def OpD (c : Ct) (X : Cx) (f : Value → Value → Sem Value) (g : D → D → Option D) : Prop := ∃ r, OpR X f r ∧ Sim2 c.T X.K X.mg r g
section
variable {c : Ct} {X : Cx} {a b e : Expr} {da db dc : DE} {pos : Pos}
theorem simOp {T : TT0} {K : PySem.W.Frag} {mg : MG} {r : R2} {g : D → D → Option D} {ta tb : TE} (hT : T = c.T) (hr : Sim2 T K mg r g) (ha : SimE c K mg ta da) (hb : SimE c K mg tb db) : SimE c K mg (tOp r ta tb) (dOp g da db) := by
  subst hT
  intro σ G H S Qd Q R hQ h
  refine ha σ G H S _ _ R (fun x H1 ⟨G1, S1, dx, A1, r1, h1⟩ => ?_) h
  refine hb σ G1 H1 S1 _ _ A1.rp (fun y H2 ⟨G2, S2, dy, A2, r2, h2⟩ => ?_) h1
  obtain ⟨z, e, h2⟩ := h2
  refine hr G2 H2 S2.n x y dx dy z _ A2.rp.sub (A2.rep r1) r2 e fun v G3 H3 g3 r3 => ?_
  exact hQ v H3 ⟨G3, S2, z, (A1.trans A2).trans (Aft.gw0 A2.rp g3), r3, h2⟩
theorem pd_op {op : Operator} {g : D → D → Option D} (ho : OpD c X (binaryOp op) g) (ha : PDE c X a da) (hb : PDE c X b db) : PDE c X (.BinOp a op b pos) (dOp g da db) := by
  obtain ⟨r, h1, h2⟩ := ho
  obtain ⟨ta, a1, a2⟩ := ha
  obtain ⟨tb, b1, b2⟩ := hb
  exact ⟨_, pe_op h1 a1 b1, simOp rfl h2 a2 b2⟩
theorem pd_cmp {op : CmpOp} {g : D → D → Option D} (ho : OpD c X (compareOp op) g) (ha : PDE c X a da) (hb : PDE c X b db) (hm : behindInMarks op b = false) : PDE c X (.Compare a [op] [b] pos) (dOp g da db) := by
  obtain ⟨r, h1, h2⟩ := ho
  obtain ⟨ta, a1, a2⟩ := ha
  obtain ⟨tb, b1, b2⟩ := hb
  exact ⟨_, pe_cmpR h1 a1 b1 hm, simOp rfl h2 a2 b2⟩
/-- an expression whose value is a bool, as a test -/
def dB (da : DE) : DT := fun S Q => da S fun x S1 => ∃ k, x = .bl k ∧ Q k S1
theorem simB {K : PySem.W.Frag} {mg : MG} {ta : TE} (ha : SimE c K mg ta da) : SimT c K mg (tB ta) (dB da) := by
  intro σ G H S Qd Q R hQ h
  refine ha σ G H S _ _ R (fun x H1 ⟨G1, S1, dx, A1, r1, h1⟩ => ?_) h
  obtain ⟨k, ek, h1⟩ := h1
  subst ek
  cases r1
  exact ⟨k, rfl, hQ k H1 ⟨G1, S1, A1, h1⟩⟩
theorem pdt_cmp {op : CmpOp} {g : D → D → Option D} (ho : OpD c X (compareOp op) g) (ha : PDE c X a da) (hb : PDE c X b db) (hm : behindInMarks op b = false) : PDT c X (.Compare a [op] [b] pos) (dB (dOp g da db)) := by
  obtain ⟨r, h1, h2⟩ := ho
  obtain ⟨ta, a1, a2⟩ := ha
  obtain ⟨tb, b1, b2⟩ := hb
  exact ⟨_, pt_cmpR h1 a1 b1 hm, simB (simOp rfl h2 a2 b2)⟩
theorem pdt_val (ha : PDE c X e da) (he : ∀ whole, isTrue e X.env whole = (do let v ← whole; standAt e.pos; holding [v] (truthy v)) := by intro _; rfl) : PDT c X e (dB da) := by
  obtain ⟨ta, a1, a2⟩ := ha
  exact ⟨_, pt_val a1 he, simB a2⟩
/-- a op b op' c -/
def dChain (g g' : D → D → Option D) (da db dc : DE) : DE := fun S Q => da S fun x S1 => db S1 fun y S2 => ∃ k, g x y = some (.bl k) ∧ (if k = true then dc S2 fun w S3 => ∃ z, g' y w = some z ∧ Q z S3 else Q (.bl false) S2)
theorem simChain {K : PySem.W.Frag} {mg : MG} {r r' : R2} {g g' : D → D → Option D} {ta tb tc : TE} (hr : Sim2 c.T K mg r g) (hr' : Sim2 c.T K mg r' g') (ha : SimE c K mg ta da) (hb : SimE c K mg tb db) (hc : SimE c K mg tc dc) : SimE c K mg (tChain r r' ta tb tc) (dChain g g' da db dc) := by
  intro σ G H S Qd Q R hQ h
  refine ha σ G H S _ _ R (fun x H1 ⟨G1, S1, dx, A1, r1, h1⟩ => ?_) h
  refine hb σ G1 H1 S1 _ _ A1.rp (fun y H2 ⟨G2, S2, dy, A2, r2, h2⟩ => ?_) h1
  obtain ⟨k, e, h2⟩ := h2
  refine hr G2 H2 S2.n x y dx dy _ _ A2.rp.sub (A2.rep r1) r2 e fun v G3 H3 g3 r3 => ?_
  cases r3
  have A3 := Aft.gw0 A2.rp g3
  refine ⟨k, rfl, ?_⟩
  cases k with
  | false =>
    rw [if_neg Bool.false_ne_true] at h2 ⊢
    exact hQ _ H3 ⟨G3, S2, _, (A1.trans A2).trans A3, .bl false, h2⟩
  | true =>
    rw [if_pos rfl] at h2 ⊢
    refine hc σ G3 H3 S2 _ _ A3.rp (fun w H4 ⟨G4, S4, dw, A4, r4, h4⟩ => ?_) h2
    obtain ⟨z, e4, h4⟩ := h4
    refine hr' G4 H4 S4.n y w dy dw z _ A4.rp.sub (A4.rep (A3.rep r2)) r4 e4 fun v G5 H5 g5 r5 => ?_
    exact hQ v H5 ⟨G5, S4, z, (((A1.trans A2).trans A3).trans A4).trans (Aft.gw0 A4.rp g5), r5, h4⟩
theorem pd_chain {cE : Expr} {op op' : CmpOp} {g g' : D → D → Option D} (ho : OpD c X (compareOp op) g) (ho' : OpD c X (compareOp op') g') (ha : PDE c X a da) (hb : PDE c X b db) (hc : PDE c X cE dc)
    (hm : lastMarks [op, op'] [b, cE] = false := by with_unfolding_all rfl) : PDE c X (.Compare a [op, op'] [b, cE] pos) (dChain g g' da db dc) := by
  obtain ⟨r, h1, h2⟩ := ho
  obtain ⟨r', h1', h2'⟩ := ho'
  obtain ⟨ta, a1, a2⟩ := ha
  obtain ⟨tb, b1, b2⟩ := hb
  obtain ⟨tc, c1, c2⟩ := hc
  exact ⟨_, pe_chain h1 h1' a1 b1 c1 hm, simChain h2 h2' a2 b2 c2⟩
theorem pdt_chain {cE : Expr} {op op' : CmpOp} {g g' : D → D → Option D} (ho : OpD c X (compareOp op) g) (ho' : OpD c X (compareOp op') g') (ha : PDE c X a da) (hb : PDE c X b db) (hc : PDE c X cE dc)
    (hm : lastMarks [op, op'] [b, cE] = false := by with_unfolding_all rfl) : PDT c X (.Compare a [op, op'] [b, cE] pos) (dB (dChain g g' da db dc)) := by
  obtain ⟨r, h1, h2⟩ := ho
  obtain ⟨r', h1', h2'⟩ := ho'
  obtain ⟨ta, a1, a2⟩ := ha
  obtain ⟨tb, b1, b2⟩ := hb
  obtain ⟨tc, c1, c2⟩ := hc
  exact ⟨_, pt_chain h1 h1' a1 b1 c1 hm, simB (simChain h2 h2' a2 b2 c2)⟩
/-! ### and, or, not, if-else -/
variable {rest : List Expr} {dt du : DT}
def dAnd (t u : DT) : DT := fun S Q => t S fun k S1 => if k = true then u S1 Q else Q false S1
def dOr (t u : DT) : DT := fun S Q => t S fun k S1 => if k = true then Q true S1 else u S1 Q
def dNot (t : DT) : DT := fun S Q => t S fun k S1 => Q (!k) S1
theorem pdw_pt (h : PDW c X e dt) : PDT c X e dt := let ⟨t, h1, h2⟩ := h; ⟨t, h1.pt, h2⟩
theorem pdw_and1 (h : PDT c X a dt) : PDW c X (.BoolOp .And [a] pos) dt := let ⟨_, h1, h2⟩ := h; ⟨_, pw_and1 h1, h2⟩
theorem pdw_or1 (h : PDT c X a dt) : PDW c X (.BoolOp .Or [a] pos) dt := let ⟨_, h1, h2⟩ := h; ⟨_, pw_or1 h1, h2⟩
theorem pdw_and (ha : PDT c X a dt) (hb : PDW c X (.BoolOp .And (b :: rest) pos) du) : PDW c X (.BoolOp .And (a :: b :: rest) pos) (dAnd dt du) := by
  obtain ⟨ta, a1, a2⟩ := ha
  obtain ⟨tb, b1, b2⟩ := hb
  refine ⟨_, pw_and a1 b1, fun σ G H S Qd Q R hQ h => ?_⟩
  refine a2 σ G H S _ _ R (fun k H1 ⟨G1, S1, A1, h1⟩ => ?_) h
  cases k with
  | true => exact b2 σ G1 H1 S1 _ _ A1.rp (fun k2 H2 ⟨G2, S2, A2, h2⟩ => hQ k2 H2 ⟨G2, S2, A1.trans A2, h2⟩) h1
  | false => exact hQ false H1 ⟨G1, S1, A1, h1⟩
theorem pdw_or (ha : PDT c X a dt) (hb : PDW c X (.BoolOp .Or (b :: rest) pos) du) : PDW c X (.BoolOp .Or (a :: b :: rest) pos) (dOr dt du) := by
  obtain ⟨ta, a1, a2⟩ := ha
  obtain ⟨tb, b1, b2⟩ := hb
  refine ⟨_, pw_or a1 b1, fun σ G H S Qd Q R hQ h => ?_⟩
  refine a2 σ G H S _ _ R (fun k H1 ⟨G1, S1, A1, h1⟩ => ?_) h
  cases k with
  | false => exact b2 σ G1 H1 S1 _ _ A1.rp (fun k2 H2 ⟨G2, S2, A2, h2⟩ => hQ k2 H2 ⟨G2, S2, A1.trans A2, h2⟩) h1
  | true => exact hQ true H1 ⟨G1, S1, A1, h1⟩
theorem pdt_not (ha : PDT c X a dt) : PDT c X (.UnaryOp .Not a pos) (dNot dt) := by
  obtain ⟨ta, a1, a2⟩ := ha
  refine ⟨_, pt_not a1, fun σ G H S Qd Q R hQ h => ?_⟩
  exact a2 σ G H S _ _ R (fun k H1 ⟨G1, S1, A1, h1⟩ => hQ (!k) H1 ⟨G1, S1, A1, h1⟩) h
def dAndV (da db : DE) : DE := fun S Q => da S fun x S1 => ∃ k, x = .bl k ∧ if k = true then db S1 Q else Q (.bl false) S1
def dOrV (da db : DE) : DE := fun S Q => da S fun x S1 => ∃ k, x = .bl k ∧ if k = true then Q (.bl true) S1 else db S1 Q
def dNotV (da : DE) : DE := fun S Q => da S fun x S1 => ∃ k, x = .bl k ∧ Q (.bl (!k)) S1
theorem pd_one {op : BoolOp} (h : PDE c X a da) : PDE c X (.BoolOp op [a] pos) da := let ⟨_, h1, h2⟩ := h; ⟨_, pe_one h1, h2⟩
theorem pd_and (ha : PDE c X a da) (hb : PDE c X (.BoolOp .And (b :: rest) pos) db) : PDE c X (.BoolOp .And (a :: b :: rest) pos) (dAndV da db) := by
  obtain ⟨ta, a1, a2⟩ := ha
  obtain ⟨tb, b1, b2⟩ := hb
  refine ⟨_, pe_and a1 b1, fun σ G H S Qd Q R hQ h => ?_⟩
  refine a2 σ G H S _ _ R (fun x H1 ⟨G1, S1, dx, A1, r1, h1⟩ => ?_) h
  obtain ⟨k, ek, h1⟩ := h1
  subst ek
  cases r1
  refine ⟨k, rfl, ?_⟩
  cases k with
  | true => exact b2 σ G1 H1 S1 _ _ A1.rp (fun k2 H2 ⟨G2, S2, d2, A2, r2, h2⟩ => hQ k2 H2 ⟨G2, S2, d2, A1.trans A2, r2, h2⟩) h1
  | false => exact hQ _ H1 ⟨G1, S1, _, A1, .bl false, h1⟩
theorem pd_or (ha : PDE c X a da) (hb : PDE c X (.BoolOp .Or (b :: rest) pos) db) : PDE c X (.BoolOp .Or (a :: b :: rest) pos) (dOrV da db) := by
  obtain ⟨ta, a1, a2⟩ := ha
  obtain ⟨tb, b1, b2⟩ := hb
  refine ⟨_, pe_or a1 b1, fun σ G H S Qd Q R hQ h => ?_⟩
  refine a2 σ G H S _ _ R (fun x H1 ⟨G1, S1, dx, A1, r1, h1⟩ => ?_) h
  obtain ⟨k, ek, h1⟩ := h1
  subst ek
  cases r1
  refine ⟨k, rfl, ?_⟩
  cases k with
  | false => exact b2 σ G1 H1 S1 _ _ A1.rp (fun k2 H2 ⟨G2, S2, d2, A2, r2, h2⟩ => hQ k2 H2 ⟨G2, S2, d2, A1.trans A2, r2, h2⟩) h1
  | true => exact hQ _ H1 ⟨G1, S1, _, A1, .bl true, h1⟩
theorem pd_not (ha : PDE c X a da) : PDE c X (.UnaryOp .Not a pos) (dNotV da) := by
  obtain ⟨ta, a1, a2⟩ := ha
  refine ⟨_, pe_not a1, fun σ G H S Qd Q R hQ h => ?_⟩
  refine a2 σ G H S _ _ R (fun x H1 ⟨G1, S1, dx, A1, r1, h1⟩ => ?_) h
  obtain ⟨k, ek, h1⟩ := h1
  subst ek
  cases r1
  exact ⟨k, rfl, hQ _ H1 ⟨G1, S1, _, A1, .bl _, h1⟩⟩
def dIf (t : DT) (da db : DE) : DE := fun S Q => t S fun k S1 => if k = true then da S1 Q else db S1 Q
theorem pd_if {cE : Expr} (hc : PDT c X cE dt) (ha : PDE c X a da) (hb : PDE c X b db) : PDE c X (.IfExp cE a b pos) (dIf dt da db) := by
  obtain ⟨tc, c1, c2⟩ := hc
  obtain ⟨ta, a1, a2⟩ := ha
  obtain ⟨tb, b1, b2⟩ := hb
  refine ⟨_, pe_ifExp c1 a1 b1, fun σ G H S Qd Q R hQ h => ?_⟩
  refine c2 σ G H S _ _ R (fun k H1 ⟨G1, S1, A1, h1⟩ => ?_) h
  cases k with
  | true => exact a2 σ G1 H1 S1 _ _ A1.rp (fun k2 H2 ⟨G2, S2, d2, A2, r2, h2⟩ => hQ k2 H2 ⟨G2, S2, d2, A1.trans A2, r2, h2⟩) h1
  | false => exact b2 σ G1 H1 S1 _ _ A1.rp (fun k2 H2 ⟨G2, S2, d2, A2, r2, h2⟩ => hQ k2 H2 ⟨G2, S2, d2, A1.trans A2, r2, h2⟩) h1
/-! ### argument lists, displays, built-in calls -/
variable {es : List Expr} {ds : DA}
def dNil : DA := fun S Q => Q [] S
def dCons (da : DE) (dr : DA) : DA := fun S Q => da S fun x S1 => dr S1 fun xs S2 => Q (x :: xs) S2
/-- *a -/
def dStar (da : DE) (dr : DA) : DA := fun S Q => da S fun x S1 => ∃ l, (x = .tup l ∨ x = .lst l) ∧ dr S1 fun xs S2 => Q (l ++ xs) S2
theorem pda_nil : PDA c X [] dNil := ⟨_, pa_nil, fun σ G H S Qd Q R hQ h => hQ [] H ⟨G, S, [], .refl R, .nil, h⟩⟩
theorem pda_cons (ha : PDE c X a da) (hr : PDA c X es ds) (hs : starEach (a :: es) X.env = (false, eval a X.env) :: starEach es X.env := by rfl) : PDA c X (a :: es) (dCons da ds) := by
  obtain ⟨ta, a1, a2⟩ := ha
  obtain ⟨tb, b1, b2⟩ := hr
  refine ⟨_, pa_cons a1 b1 hs, fun σ G H S Qd Q R hQ h => ?_⟩
  refine a2 σ G H S _ _ R (fun x H1 ⟨G1, S1, dx, A1, r1, h1⟩ => ?_) h
  refine b2 σ G1 H1 S1 _ _ A1.rp (fun xs H2 ⟨G2, S2, dxs, A2, r2, h2⟩ => ?_) h1
  exact hQ _ H2 ⟨G2, S2, dx :: dxs, A1.trans A2, .cons (A2.rep r1) r2, h2⟩
def dTup (t : DA) : DE := fun S Q => t S fun xs S1 => xs.length ≤ 16777216 ∧ Q (.tup xs) S1
def dLst (t : DA) : DE := fun S Q => t S fun xs S1 => xs.length ≤ 16777216 ∧ Q (.lst xs) S1
theorem pd_tup {k : Nat} (h : PDA c X es ds) : PDE c X (.Tuple es k pos) (dTup ds) := by
  obtain ⟨ta, a1, a2⟩ := h
  refine ⟨_, pe_tup a1, fun σ G H S Qd Q R hQ h => ?_⟩
  refine a2 σ G H S _ _ R (fun xs H1 ⟨G1, S1, dx, A1, r1, h1⟩ => ?_) h
  obtain ⟨hz, h1⟩ := h1
  refine ⟨by rw [r1.length, sizeLine_eq]; exact hz, fun p np => ?_⟩
  have A2 := Aft.gw0 A1.rp (.alloc (o := .tup xs) A1.rp.sub np)
  exact hQ _ _ ⟨_, S1, _, A1.trans A2, .tup (SqT.of upd_same) (A2.repAll r1), h1⟩
theorem pd_lst (h : PDA c X es ds) : PDE c X (.List es pos) (dLst ds) := by
  obtain ⟨ta, a1, a2⟩ := h
  refine ⟨_, pe_lst a1, fun σ G H S Qd Q R hQ h => ?_⟩
  refine a2 σ G H S _ _ R (fun xs H1 ⟨G1, S1, dx, A1, r1, h1⟩ => ?_) h
  obtain ⟨hz, h1⟩ := h1
  refine ⟨by rw [r1.length, sizeLine_eq]; exact hz, fun p np => ?_⟩
  have A2 := Aft.gw0 A1.rp (.alloc (o := .lst xs) A1.rp.sub np)
  exact hQ _ _ ⟨_, S1, _, A1.trans A2, .lst (.inl (.inl upd_same)) (A2.repAll r1), h1⟩
/-- a built-in function of data -/
def dFn (g : List D → Option D) (t : DA) : DE := fun S Q => t S fun xs S1 => ∃ z, g xs = some z ∧ Q z S1
def SimC (T : TT0) (K : PySem.W.Frag) (mg : MG) (r : List V → Hp → VK → Prop) (g : List D → Option D) : Prop := ∀ G H n vs ds z (Q : VK), Sub G H → RepAll K mg G n vs ds → g ds = some z →
  (∀ v G' H', Gw T 0 G H G' H' → Rep K mg G' n v z → Q v H') → r vs H Q
def CallD (c : Ct) (X : Cx) (f : Value) (g : List D → Option D) : Prop := ∃ r, CallR X f r ∧ SimC c.T X.K X.mg r g
theorem simFn {K : PySem.W.Frag} {mg : MG} {r : List V → Hp → VK → Prop} {g : List D → Option D} {ta : TA} (hr : SimC c.T K mg r g) (ha : SimA c K mg ta ds) : SimE c K mg (tCB r ta) (dFn g ds) := by
  intro σ G H S Qd Q R hQ h
  refine ha σ G H S _ _ R (fun xs H1 ⟨G1, S1, dx, A1, r1, h1⟩ => ?_) h
  obtain ⟨z, e, h1⟩ := h1
  refine hr G1 H1 S1.n xs dx z _ A1.rp.sub r1 e fun v G3 H3 g3 r3 => ?_
  exact hQ v H3 ⟨G3, S1, z, A1.trans (Aft.gw0 A1.rp g3), r3, h1⟩
theorem pd_callB {id : String} {g : List D → Option D} {x : Str} {p : Pos} (hc : CallD c X (.builtin id) g) (hg : Gl X x) (hm : X.mg x = none) (hv : bootBuiltins x = some (.builtin id)) (ha : PDA c X (a :: es) ds) (hn : x ≠ "__name__" := by decide) (hdb : (x == ("__debug__" : Str)) = false := by decide)
    (he : starEach (a :: es) X.env = (false, eval a X.env) :: starEach es X.env := by rfl) (hpl : (backTo pos (starEach es X.env)).any (·.1) = false := by rfl) : PDE c X (.Call (.Name x p) (a :: es) [] pos) (dFn g ds) := by
  obtain ⟨r, h1, h2⟩ := hc
  obtain ⟨ta, a1, a2⟩ := ha
  exact ⟨_, pe_callB h1 hg hm hv a1 hn hdb he hpl, simFn h2 a2⟩
theorem pd_callTy {T : String} {g : List D → Option D} {x : Str} {p : Pos} (hc : CallD c X (.type T) g) (hg : Gl X x) (hm : X.mg x = none) (hv : bootBuiltins x = some (.type T)) (ha : PDA c X (a :: es) ds) (hn : x ≠ "__name__" := by decide) (hdb : (x == ("__debug__" : Str)) = false := by decide)
    (he : starEach (a :: es) X.env = (false, eval a X.env) :: starEach es X.env := by rfl) (hpl : (backTo pos (starEach es X.env)).any (·.1) = false := by rfl) : PDE c X (.Call (.Name x p) (a :: es) [] pos) (dFn g ds) := by
  obtain ⟨r, h1, h2⟩ := hc
  obtain ⟨ta, a1, a2⟩ := ha
  exact ⟨_, pe_callTy h1 hg hm hv a1 hn hdb he hpl, simFn h2 a2⟩
end
end DL
set_option maxHeartbeats 1000000
namespace DL
open PySem PySem.Spec PyProof.Rows L2
/-! ### what a def does to data -/
abbrev MT := List D → Nat → (D → Nat → Prop) → (Exc → Nat → Prop) → Prop
def spD (T : TT0) (K : PySem.W.Frag) (mg : MG) (ar : Nat) (m : MT) : Sp := fun vs H Q E => vs.length = ar ∧ ∃ (G : Hp) (ds : List D) (n : Nat) (Qd : D → Nat → Prop) (ED : Exc → Nat → Prop),
  Sub G H ∧ LamX.Tabs T G ∧ RepAll K mg G n vs ds ∧ m ds n Qd ED ∧
  (∀ v d k G' H', k ≤ n → Gw T k G H G' H' → Rep K mg G' (n - k) v d → Qd d (n - k) → Q v H') ∧
  (∀ x f d k v C dd G' H', k ≤ n → Gw T k G H G' H' → mg x = some (.ref C) → H' dd = some (.xd [(f, v)]) → Rep K mg G' (n - k) v d → ED (x, f, d) (n - k) → E (.ref C) (some dd) H')
/-- a def of the text that keeps m -/
structure CalD (P : Program) (w : World) (K : PySem.W.Frag) (mg : MG) (base : Heap) (T : TT0) (CX : CXT) (k : Nat) (x : Str) (st : Stmt) (ps : List Str) (m : MT) : Prop where
  ex : ∃ f fd, Fun K x x st f fd ∧ FnOk P w K mg base CX k f fd ps (spD T K mg ps.length m) ∧ mg x = some (.ref f)
  ar : ∀ ds n Q E, m ds n Q E → ds.length = ps.length
theorem CalD.at_ {P : Program} {w : World} {K : PySem.W.Frag} {mg : MG} {base : Heap} {T : TT0} {CX : CXT} {k : Nat} {x : Str} {st : Stmt} {ps : List Str} {m : MT} (h : CalD P w K mg base T CX k x st ps m) : ∃ f, mg x = some (.ref f) := by
  obtain ⟨f, fd, a, b, d⟩ := h.ex
  exact ⟨f, d⟩
theorem CalD.mono {P : Program} {w : World} {K : PySem.W.Frag} {mg : MG} {base : Heap} {T : TT0} {CX : CXT} {j k : Nat} {x : Str} {st : Stmt} {ps : List Str} {m : MT} (h : CalD P w K mg base T CX j x st ps m) (hk : j ≤ k) : CalD P w K mg base T CX k x st ps m := by
  obtain ⟨f, fd, a, b, d⟩ := h.ex
  exact ⟨⟨f, fd, a, b.mono hk, d⟩, h.ar⟩
/-- the state at a def's entry -/
abbrev ent (N : List Str) (ds : List D) (n : Nat) : DS := ⟨ds.map (fun d => some (.p d)) ++ List.replicate (N.length - ds.length) none, n⟩
section
variable {P : Program} {w : World} {K : PySem.W.Frag} {mg : MG} {base : Heap} {T : TT0}
theorem rp_start {N : List Str} {vs : List V} {ds : List D} {n : Nat} {G H : Hp} {E : XK} {ED : Exc → Nat → Prop} (s : Sub G H) (t : LamX.Tabs T G) (r : RepAll K mg G n vs ds) : Rp ⟨T, G, H, n, E, ED⟩ K mg (start N vs) G H (ent N ds n) := by
  refine ⟨s, Nat.le_refl _, by show Le T (n - n) G G; rw [Nat.sub_self]; exact .refl _ _, fun b o h1 h2 => ⟨h1, h2⟩, fun b o h1 h2 => ?_, t, ?_, fun i => ?_, fun i j a _ h1 _ _ _ => ?_⟩
  · rw [show (⟨T, G, H, n, E, ED⟩ : Ct).G0 = G from rfl] at h2
    rw [h2] at h1
    cases h1
  · simp [L2.start, ent, r.length]
  · show SlotOk K mg _ G H n (vs.map some ++ List.replicate (N.length - vs.length) none)[i]? (ds.map (fun d => some (SV.p d)) ++ List.replicate (N.length - ds.length) none)[i]?
    by_cases hi : i < ds.length
    · have hv : i < vs.length := by
        rw [r.length]
        exact hi
      rw [List.getElem?_append_left (by simpa using hv), List.getElem?_append_left (by simpa using hi), List.getElem?_map, List.getElem?_map, List.getElem?_eq_getElem hi]
      obtain ⟨v, e1, e2⟩ := r.get (List.getElem?_eq_getElem hi)
      rw [e1]
      exact ⟨v, rfl, e2⟩
    · rw [show (ds.map (fun d => some (SV.p d)) ++ List.replicate (N.length - ds.length) none)[i]? = (List.replicate (N.length - ds.length) none)[i - ds.length]? by
        rw [List.getElem?_append_right (by simpa using hi)]
        simp]
      by_cases hz : i - ds.length < N.length - ds.length
      · rw [List.getElem?_replicate, if_pos hz]
        exact True.intro
      · rw [List.getElem?_replicate, if_neg hz]
        exact True.intro
  · have h1' : isOwn (ds.map (fun d => some (SV.p d)) ++ List.replicate (N.length - ds.length) none)[i]? := h1
    by_cases hi : i < ds.length
    · rw [List.getElem?_append_left (by simpa using hi), List.getElem?_map, List.getElem?_eq_getElem hi] at h1'
      exact h1'
    · rw [List.getElem?_append_right (by simpa using hi), List.getElem?_replicate] at h1'
      split at h1' <;> exact h1'
/-- from a body's term to the def's promise -/
theorem simDef {N ps : List Str} {t : TS} {dsb : DSt} {m : MT} {vs : List V} {H : Hp} {Q : VK} {E : XK} {G : Hp} {ds : List D} {n : Nat} {Qd : D → Nat → Prop} {ED : Exc → Nat → Prop}
    (s : Sub G H) (tb : LamX.Tabs T G) (r : RepAll K mg G n vs ds)
    (hq : ∀ v d k G' H', k ≤ n → Gw T k G H G' H' → Rep K mg G' (n - k) v d → Qd d (n - k) → Q v H')
    (ht : SimS ⟨T, G, H, n, E, ED⟩ K mg t dsb) (h : dsb { nx := fun S => Qd .non S.n, rt := fun d S => Qd d S.n } (ent N ds n)) : t { nx := fun _ H' => Q .non H', rt := Q } (start N vs) H := by
  have fin : ∀ {σ' : Sig} {G' H' : Hp} {S' : DS} {v : V} {d : D}, Rp ⟨T, G, H, n, E, ED⟩ K mg σ' G' H' S' → Rep K mg G' S'.n v d → Qd d S'.n → Q v H' := fun {σ' G' H' S' v d} R r q => by
    have hn : S'.n ≤ n := R.nle
    have e : n - (n - S'.n) = S'.n := by omega
    refine hq v d (n - S'.n) G' H' (Nat.sub_le _ _) ⟨R.sub, R.le, fun b o h1 h2 => (R.hid b o h1 h2).1, R.new⟩ (by rw [e]; exact r) (by rw [e]; exact q)
  exact ht (start N vs) G H (ent N ds n) _ _ (rp_start s tb r) (fun σ' H' ⟨G', S', R, _, _, q⟩ => fin R .non q) (fun v H' ⟨σ', G', S', d, R, r, q⟩ => fin R r q) (fun σ' H' ⟨G', S', R, _, _, q⟩ => q.elim) (fun σ' H' ⟨G', S', R, _, _, q⟩ => q.elim) h
/-- a def that lets nothing out -/
theorem okD {x : Str} {st : Stmt} {f : Addr} {fd : FuncData} {N ps : List Str} {k : Nat} {m : MT} (F : Fun K x x st f fd) (hm : mg x = some (.ref f)) (S : FnScope N ps (defScope st)) (har : ∀ ds n Q E, m ds n Q E → ds.length = ps.length)
    (hbody : ∀ (cdv : Value) (A : Around) (outer : List Env) (s : Shared) (G H : Hp) (n : Nat) (E : XK) (ED : Exc → Nat → Prop), Room k (A.deeper (envOfC x (defScope st) s.heap.objs.size f cdv)) →
      ∃ dsb, PDSs ⟨T, G, H, n, E, ED⟩ (cxOf CX0 P w K mg base N x (defScope st) f cdv A outer s H E).nox (defBody st) dsb ∧
        ∀ ds Qd, ds.length = ps.length → m ds n Qd ED → dsb { nx := fun S => Qd .non S.n, rt := fun d S => Qd d S.n } (ent N ds n)) : CalD P w K mg base T CX0 (k + 1) x st ps m := by
  refine ⟨⟨f, fd, F, F.ok S (fun vs H Q E h => h.1) (fun cdv A outer s H vs Q E hr h => ?_), hm⟩, har⟩
  obtain ⟨hl, G, ds, n, Qd, ED, h1, h2, h3, h4, h5, h6⟩ := h
  obtain ⟨dsb, ⟨t, b1, b2⟩, b3⟩ := hbody cdv A outer s G H n E ED hr
  exact ⟨t, b1, simDef (ps := ps) (m := m) h1 h2 h3 h5 b2 (b3 ds Qd (h3.length.symm.trans hl) h4)⟩
/-- how exceptions leave -/
structure Lnk (c : Ct) (K : PySem.W.Frag) (mg : MG) : Prop where
  out : ∀ x f d k v C dd G' H', k ≤ c.n0 → Gw c.T k c.G0 c.H0 G' H' → mg x = some (.ref C) → H' dd = some (.xd [(f, v)]) → Rep K mg G' (c.n0 - k) v d → c.ED (x, f, d) (c.n0 - k) → c.E (.ref C) (some dd) H'
/-- a def that may raise -/
theorem okDX {x : Str} {st : Stmt} {f : Addr} {fd : FuncData} {N ps : List Str} {k : Nat} {m : MT} (F : Fun K x x st f fd) (hm : mg x = some (.ref f)) (S : FnScope N ps (defScope st)) (har : ∀ ds n Q E, m ds n Q E → ds.length = ps.length)
    (hbody : ∀ (cdv : Value) (A : Around) (outer : List Env) (s : Shared) (G H : Hp) (n : Nat) (E : XK) (ED : Exc → Nat → Prop), Room k (A.deeper (envOfC x (defScope st) s.heap.objs.size f cdv)) → Lnk ⟨T, G, H, n, E, ED⟩ K mg →
      ∃ dsb, PDSs ⟨T, G, H, n, E, ED⟩ (cxOf (L2.CX P w) P w K mg base N x (defScope st) f cdv A outer s H E) (defBody st) dsb ∧
        ∀ ds Qd, ds.length = ps.length → m ds n Qd ED → dsb { nx := fun S => Qd .non S.n, rt := fun d S => Qd d S.n } (ent N ds n)) : CalD P w K mg base T (L2.CX P w) (k + 1) x st ps m := by
  refine ⟨⟨f, fd, F, F.okX S (fun vs H Q E h => h.1) (fun cdv A outer s H vs Q E hr h => ?_), hm⟩, har⟩
  obtain ⟨hl, G, ds, n, Qd, ED, h1, h2, h3, h4, h5, h6⟩ := h
  obtain ⟨dsb, ⟨t, b1, b2⟩, b3⟩ := hbody cdv A outer s G H n E ED hr ⟨h6⟩
  exact ⟨t, b1, simDef (ps := ps) (m := m) h1 h2 h3 h5 b2 (b3 ds Qd (h3.length.symm.trans hl) h4)⟩
end
/-! ### calls -/
/-- the wish for what a callee raises: nothing -/
abbrev ED0 : Exc → Nat → Prop := fun _ _ => False
def dCall (ED : Exc → Nat → Prop) (m : MT) (das : DA) : DE := fun S Q => das S fun ds S1 => m ds S1.n (fun d n' => n' ≤ S1.n → Q d { S1 with n := n' }) ED
section
variable {c : Ct} {X : Cx}
theorem simCall {K : PySem.W.Frag} {mg : MG} {ar : Nat} {m : MT} {t : TA} {das : DA} {E : XK} {ED : Exc → Nat → Prop} (ha : SimA c K mg t das) (hl : ∀ ds n Q E, m ds n Q E → ds.length = ar)
    (hE : ∀ σ G H S, Rp c K mg σ G H S → ∀ x f d k v C dd G' H', k ≤ S.n → Gw c.T k G H G' H' → mg x = some (.ref C) → H' dd = some (.xd [(f, v)]) → Rep K mg G' (S.n - k) v d → ED (x, f, d) (S.n - k) → E (.ref C) (some dd) H') :
    SimE c K mg (tCall (spD c.T K mg ar m) [] E t) (dCall ED m das) := by
  intro σ G H S Qd Q R hQ h
  refine ha σ G H S _ _ R (fun vs H1 ⟨G1, S1, ds, A1, r1, h1⟩ => ?_) h
  refine ⟨?_, G1, ds, S1.n, _, ED, A1.rp.sub, A1.rp.tabs, ?_, h1, fun v d k G' H' hk g r q => ?_, hE σ G1 H1 S1 A1.rp⟩
  · rw [List.append_nil, r1.length]
    exact hl _ _ _ _ h1
  · rw [List.append_nil]
    exact r1
  · exact hQ v H' ⟨G', { S1 with n := S1.n - k }, d, A1.trans (Aft.gw A1.rp g hk), r, q (Nat.sub_le _ _)⟩
theorem lnk_at {K : PySem.W.Frag} {mg : MG} (L : Lnk c K mg) : ∀ σ G H S, Rp c K mg σ G H S → ∀ x f d k v C dd G' H', k ≤ S.n → Gw c.T k G H G' H' → mg x = some (.ref C) → H' dd = some (.xd [(f, v)]) → Rep K mg G' (S.n - k) v d → c.ED (x, f, d) (S.n - k) → c.E (.ref C) (some dd) H' := by
  intro σ G H S R x f d k v C dd G' H' hk g hx hd hr hq
  have R' := R.gw g hk
  have hn := R.nle
  have e : c.n0 - (c.n0 - (S.n - k)) = S.n - k := by omega
  exact L.out x f d (c.n0 - (S.n - k)) v C dd G' H' (Nat.sub_le _ _) ⟨R'.sub, R'.le, fun b o h1 h2 => (R'.hid b o h1 h2).1, R'.new⟩ hx hd (by rw [e]; exact hr) (by rw [e]; exact hq)
/-- a call of a def that lets nothing out -/
theorem pd_call {k : Nat} {x : Str} {st : Stmt} {ps : List Str} {m : MT} {a : Expr} {es : List Expr} {das : DA} {p pos : Pos} (C : CalD X.prog X.w X.K X.mg X.base c.T CX0 k x st ps m) (hr : Room k X.A) (hg : Gl X x)
    (hb : ∀ (kV doc pm : Value) (an : Option Addr) (cdv ct : Value) (us : List Value), us.length = ps.length → bindArgs (PySem.W.fnOf x x (defArgs st) (defBody st) (defScope st) .none kV doc pm an cdv ct) ⟨us, []⟩ = pure (ps.zip us))
    (ha : PDA c X (a :: es) das) (hdb : (x == ("__debug__" : Str)) = false := by decide) (he : starEach (a :: es) X.env = (false, eval a X.env) :: starEach es X.env := by rfl) (hpl : (backTo pos (starEach es X.env)).any (·.1) = false := by rfl) :
    PDE c X (.Call (.Name x p) (a :: es) [] pos) (dCall ED0 m das) := by
  obtain ⟨f, fd, F, G, hm⟩ := C.ex
  obtain ⟨ta, a1, a2⟩ := ha
  exact ⟨_, pe_call G hr hg hm F.kp (F.binds hb) .nil (pass0 (X := X)) a1 hdb he hpl, simCall a2 C.ar fun _ _ _ _ _ _ _ _ _ _ _ _ _ _ _ _ _ _ _ z => z.elim⟩
/-- a call of a def that may raise, where what it raises leaves -/
theorem pd_callX {k : Nat} {x : Str} {st : Stmt} {ps : List Str} {m : MT} {a : Expr} {es : List Expr} {das : DA} {p pos : Pos} (C : CalD X.prog X.w X.K X.mg X.base c.T (L2.CX X.prog X.w) k x st ps m) (L : Lnk c X.K X.mg) (hx : Passes (L2.CX X.prog X.w) X c.E) (hr : Room k X.A) (hg : Gl X x)
    (hb : ∀ (kV doc pm : Value) (an : Option Addr) (cdv ct : Value) (us : List Value), us.length = ps.length → bindArgs (PySem.W.fnOf x x (defArgs st) (defBody st) (defScope st) .none kV doc pm an cdv ct) ⟨us, []⟩ = pure (ps.zip us))
    (ha : PDA c X (a :: es) das) (hdb : (x == ("__debug__" : Str)) = false := by decide) (he : starEach (a :: es) X.env = (false, eval a X.env) :: starEach es X.env := by rfl) (hpl : (backTo pos (starEach es X.env)).any (·.1) = false := by rfl) :
    PDE c X (.Call (.Name x p) (a :: es) [] pos) (dCall c.ED m das) := by
  obtain ⟨f, fd, F, G, hm⟩ := C.ex
  obtain ⟨ta, a1, a2⟩ := ha
  exact ⟨_, pe_call G hr hg hm F.kp (F.binds hb) .nil hx a1 hdb he hpl, simCall a2 C.ar (lnk_at L)⟩
end
/-! ### statements -/
section
variable {c : Ct} {X : Cx} {st : Stmt} {rest : List Stmt} {t u : DSt} {e : Expr} {de : DE} {dt : DT} {pos : Pos}
def dNext : DSt := fun B S => B.nx S
def dSeq (t u : DSt) : DSt := fun B S => t { B with nx := u B } S
theorem pdss_nil : PDSs c X [] dNext := ⟨_, pss_nil, fun σ G H S B E R h1 h2 h3 h4 h => h1 σ H ⟨G, S, R, by rw [Nat.sub_self]; exact .refl _ _, Nat.le_refl _, h⟩⟩
theorem pdss_one (h : PDS c X st t) : PDSs c X [st] t := by
  obtain ⟨a, b, d⟩ := h
  exact ⟨_, pss_one b, d⟩
theorem pdss_cons (h : PDS c X st t) (g : PDSs c X rest u) : PDSs c X (st :: rest) (dSeq t u) := by
  obtain ⟨a, a1, a2⟩ := h
  obtain ⟨b, b1, b2⟩ := g
  refine ⟨_, pss_cons a1 b1, fun σ G H S B E R h1 h2 h3 h4 h => ?_⟩
  exact a2 σ G H S { B with nx := u B } { E with nx := b E } R (fun σ' H' ⟨G', S', R', l, hn, q⟩ => b2 σ' G' H' S' B E R' (fun σ' H' z => h1 σ' H' (z.of l hn)) h2 (fun σ' H' z => h3 σ' H' (z.of l hn)) (fun σ' H' z => h4 σ' H' (z.of l hn)) q) h2 h3 h4 h
def dRet (de : DE) : DSt := fun B S => de S B.rt
theorem pds_ret (he : PDE c X e de) : PDS c X (.Return (some e) pos) (dRet de) := by
  obtain ⟨a, a1, a2⟩ := he
  exact ⟨_, ps_ret a1, fun σ G H S B E R h1 h2 h3 h4 h => a2 σ G H S _ _ R (fun v H' ⟨G', S', d, A, r, q⟩ => h2 v H' ⟨σ, G', S', d, A.rp, r, q⟩) h⟩
def dAsg (i : Nat) (de : DE) : DSt := fun B S => de S fun d S1 => B.nx { S1 with sl := S1.sl.set i (some (.p d)) }
theorem simAsg {K : PySem.W.Frag} {mg : MG} {te : TE} (i : Nat) (h : SimE c K mg te de) : SimS c K mg (tAsg te (gName i)) (dAsg i de) := by
  intro σ G H S B E R h1 h2 h3 h4 h'
  exact h σ G H S _ _ R (fun v H' ⟨G', S', d, A, r, q⟩ => h1 _ H' ⟨G', _, A.rp.set r, A.le, A.nle, q⟩) h'
theorem pds_set {i : Nat} {x : Str} {p : Pos} (hN : X.N.Nodup) (hi : X.N[i]? = some x) (hx : Loc X.env.scope x) (he : PDE c X e de) (hs : swapsWith e (some (.Name x p)) pos.line X.env = pure false := by rfl) (hf : X.fn x = true ∨ X.env.scope.names.lookup x = some .local := by first | exact .inl rfl | exact .inr rfl | assumption) :
    PDS c X (.Assign [.Name x p] e pos) (dAsg i de) := by
  obtain ⟨a, a1, a2⟩ := he
  exact ⟨_, ps_set hN hi hx a1 hs hf, simAsg i a2⟩
def dDrop (de : DE) : DSt := fun B S => de S fun _ S1 => B.nx S1
theorem pds_expr (he : PDE c X e de) (hs : swapsWith e none pos.line X.env = pure false := by rfl) : PDS c X (.Expr e pos) (dDrop de) := by
  obtain ⟨a, a1, a2⟩ := he
  exact ⟨_, ps_expr a1 hs, fun σ G H S B E R h1 h2 h3 h4 h => a2 σ G H S _ _ R (fun v H' ⟨G', S', d, A, r, q⟩ => h1 σ H' ⟨G', S', A.rp, A.le, A.nle, q⟩) h⟩
def dIfS (dt : DT) (t u : DSt) : DSt := fun B S => dt S fun k S1 => if k = true then t B S1 else u B S1
theorem pds_if {cE : Expr} {a b : List Stmt} (hc : PDT c X cE dt) (ha : PDSs c X a t) (hb : PDSs c X b u) : PDS c X (.If cE a b pos) (dIfS dt t u) := by
  obtain ⟨tc, c1, c2⟩ := hc
  obtain ⟨ta, a1, a2⟩ := ha
  obtain ⟨tb, b1, b2⟩ := hb
  refine ⟨_, ps_if c1 a1 b1, fun σ G H S B E R h1 h2 h3 h4 h => ?_⟩
  refine c2 σ G H S _ _ R (fun k H1 ⟨G1, S1, A1, q⟩ => ?_) h
  cases k with
  | true => exact a2 σ G1 H1 S1 B E A1.rp (fun σ' H' z => h1 σ' H' (z.of A1.le A1.nle)) h2 (fun σ' H' z => h3 σ' H' (z.of A1.le A1.nle)) (fun σ' H' z => h4 σ' H' (z.of A1.le A1.nle)) q
  | false => exact b2 σ G1 H1 S1 B E A1.rp (fun σ' H' z => h1 σ' H' (z.of A1.le A1.nle)) h2 (fun σ' H' z => h3 σ' H' (z.of A1.le A1.nle)) (fun σ' H' z => h4 σ' H' (z.of A1.le A1.nle)) q
/-- a, b = x, y (plain locals) -/
def dPar (i j : Nat) (das : DA) : DSt := fun B S => das S fun ds S1 => ∃ x y, ds = [x, y] ∧ B.nx { S1 with sl := (S1.sl.set i (some (.p x))).set j (some (.p y)) }
theorem pds_par {i j : Nat} {x y : Str} {a b : Expr} {das : DA} {px py pt : Pos} {kt k2 : Nat} {pt2 : Pos} (hc : X.calm = true) (hN : X.N.Nodup) (hi : X.N[i]? = some x) (hj : X.N[j]? = some y) (hij : i ≠ j)
    (hx : X.env.scope.names.lookup x = some .local) (hy : X.env.scope.names.lookup y = some .local) (ha : PDA c X [a, b] das)
    (hw : swappedStores [.Tuple [.Name x px, .Name y py] kt pt] (.Tuple [a, b] k2 pt2) X.env = pure (some [x, y]))
    (hs : swapsWithSole [.Tuple [.Name x px, .Name y py] kt pt] (.Tuple [a, b] k2 pt2) pos.line X.env = pure false := by rfl) :
    PDS c X (.Assign [.Tuple [.Name x px, .Name y py] kt pt] (.Tuple [a, b] k2 pt2) pos) (dPar i j das) := by
  obtain ⟨ta, a1, a2⟩ := ha
  refine ⟨_, ps_par hc hN hi hj hij hx hy a1 hw hs, fun σ G H S B E R h1 h2 h3 h4 h => ?_⟩
  refine a2 σ G H S _ _ R (fun vs H' ⟨G', S', ds, A, r, q⟩ => ?_) h
  obtain ⟨d1, d2, e, q⟩ := q
  subst e
  cases r with
  | cons r1 r =>
    cases r with
    | cons r2 r =>
      cases r
      exact ⟨_, _, rfl, h1 _ H' ⟨G', _, (A.rp.set r1).set (i := j) (d := d2) r2, A.le, A.nle, q⟩⟩
def dPar3 (i j l : Nat) (das : DA) : DSt := fun B S => das S fun ds S1 => ∃ x y z, ds = [x, y, z] ∧ B.nx { S1 with sl := ((S1.sl.set i (some (.p x))).set j (some (.p y))).set l (some (.p z)) }
theorem pds_par3 {i j l : Nat} {x y z : Str} {a b d : Expr} {das : DA} {px py pz pt : Pos} {kt k2 : Nat} {pt2 : Pos} (hc : X.calm = true) (hN : X.N.Nodup) (hi : X.N[i]? = some x) (hj : X.N[j]? = some y) (hl : X.N[l]? = some z) (hij : i ≠ j) (hil : i ≠ l) (hjl : j ≠ l)
    (hx : X.env.scope.names.lookup x = some .local) (hy : X.env.scope.names.lookup y = some .local) (hz : X.env.scope.names.lookup z = some .local) (ha : PDA c X [a, b, d] das)
    (hw : swappedStores [.Tuple [.Name x px, .Name y py, .Name z pz] kt pt] (.Tuple [a, b, d] k2 pt2) X.env = pure (some [x, y, z]))
    (hs : swapsWithSole [.Tuple [.Name x px, .Name y py, .Name z pz] kt pt] (.Tuple [a, b, d] k2 pt2) pos.line X.env = pure false := by rfl) :
    PDS c X (.Assign [.Tuple [.Name x px, .Name y py, .Name z pz] kt pt] (.Tuple [a, b, d] k2 pt2) pos) (dPar3 i j l das) := by
  obtain ⟨ta, a1, a2⟩ := ha
  refine ⟨_, ps_par3 hc hN hi hj hl hij hil hjl hx hy hz a1 hw hs, fun σ G H S B E R h1 h2 h3 h4 h => ?_⟩
  refine a2 σ G H S _ _ R (fun vs H' ⟨G', S', ds, A, r, q⟩ => ?_) h
  obtain ⟨d1, d2, d3, e, q⟩ := q
  subst e
  cases r with
  | cons r1 r =>
    cases r with
    | cons r2 r =>
      cases r with
      | cons r3 r =>
        cases r
        exact ⟨_, _, _, rfl, h1 _ H' ⟨G', _, ((A.rp.set r1).set (i := j) (d := d2) r2).set (i := l) (d := d3) r3, A.le, A.nle, q⟩⟩
/-! ### targets -/
def dgName (i : Nat) : DG := fun d S Q => Q { S with sl := S.sl.set i (some (.p d)) }
theorem simgName {K : PySem.W.Frag} {mg : MG} (i : Nat) : SimG c K mg (gName i) (dgName i) := fun σ G H S v d Qd Q R r hQ h => hQ _ H ⟨G, _, R.set r, by show Le c.T (S.n - S.n) G G; rw [Nat.sub_self]; exact .refl _ _, Nat.le_refl _, h⟩
theorem pdg_name {i : Nat} {x : Str} (hN : X.N.Nodup) (hi : X.N[i]? = some x) (hx : Loc X.env.scope x) (hf : X.fn x = true ∨ X.env.scope.names.lookup x = some .local := by first | exact .inl rfl | exact .inr rfl | assumption) : PDG c X (.Name x pos) (dgName i) :=
  ⟨_, pg_name hN hi hx hf, simgName i⟩
abbrev DGs := List D → DS → (DS → Prop) → Prop
def SimGs (c : Ct) (K : PySem.W.Frag) (mg : MG) (t : TGs) (g : DGs) : Prop := ∀ σ G H S vs ds Qd (Q : Sig → Hp → Prop), Rp c K mg σ G H S → RepAll K mg G S.n vs ds → (∀ σ' H', (∃ G' S', Rp c K mg σ' G' H' S' ∧ Le c.T (S.n - S'.n) G G' ∧ S'.n ≤ S.n ∧ Qd S') → Q σ' H') → g ds S Qd → t vs σ H Q
def PDGs (c : Ct) (X : Cx) (ts : List Expr) (g : DGs) : Prop := ∃ t, PGs X ts t ∧ SimGs c X.K X.mg t g
def dgNil : DGs := fun ds S Q => ds = [] ∧ Q S
def dgCons (g : DG) (gs : DGs) : DGs := fun ds S Q => ∃ d r, ds = d :: r ∧ g d S fun S1 => gs r S1 Q
theorem pdgs_nil : PDGs c X [] dgNil := ⟨_, pgs_nil, fun σ G H S vs ds Qd Q R r hQ h => by
  obtain ⟨e, h⟩ := h
  subst e
  cases r
  exact ⟨rfl, hQ σ H ⟨G, S, R, by rw [Nat.sub_self]; exact .refl _ _, Nat.le_refl _, h⟩⟩⟩
theorem pdgs_cons {es : List Expr} {g : DG} {gs : DGs} (h1 : PDG c X e g) (h2 : PDGs c X es gs) (hs : (assignEach (e :: es) X.env).map (·.2) = assign e X.env :: (assignEach es X.env).map (·.2) := by rfl) : PDGs c X (e :: es) (dgCons g gs) := by
  obtain ⟨a, a1, a2⟩ := h1
  obtain ⟨b, b1, b2⟩ := h2
  refine ⟨_, pgs_cons a1 b1 hs, fun σ G H S vs ds Qd Q R r hQ h => ?_⟩
  obtain ⟨d, dr, e1, h⟩ := h
  subst e1
  cases r with
  | cons r1 r =>
    refine ⟨_, _, rfl, a2 σ G H S _ d _ _ R r1 (fun σ1 H1 ⟨G1, S1, R1, l1, n1, q⟩ => ?_) h⟩
    refine b2 σ1 G1 H1 S1 _ dr _ _ R1 (r.up l1 (by omega)) (fun σ2 H2 ⟨G2, S2, R2, l2, n2, q2⟩ => ?_) q
    refine hQ σ2 H2 ⟨G2, S2, R2, ?_, Nat.le_trans n2 n1, q2⟩
    have z := l1.trans l2
    have e3 : S.n - S1.n + (S1.n - S2.n) = S.n - S2.n := by omega
    rw [e3] at z
    exact z
def dgTup (n : Nat) (gs : DGs) : DG := fun d S Q => ∃ l, d = .tup l ∧ l.length = n ∧ gs l S Q
theorem pdg_tup {es : List Expr} {k : Nat} {gs : DGs} {n : Nat} (hc : X.calm = true) (h : PDGs c X es gs) (hn : (assignEach es X.env).length = n := by rfl) (hst : (assignEach es X.env).findIdx? (·.1) = none := by rfl) : PDG c X (.Tuple es k pos) (dgTup n gs) := by
  obtain ⟨a, a1, a2⟩ := h
  refine ⟨_, pg_tup hc a1 hn hst, fun σ G H S v d Qd Q R r hQ h => ?_⟩
  obtain ⟨l, e1, hl, h⟩ := h
  subst e1
  cases r with
  | @tup p xs ds hs hr =>
    have hs' : SqT X.K H p xs := by
      rcases hs with (z | ⟨o, z⟩) | z
      · exact .inl (.inl (R.sub _ _ z))
      · exact .inl (.inr ⟨o, R.sub _ _ z⟩)
      · exact .inr z
    exact ⟨p, xs, rfl, hs', hr.length.trans hl, a2 σ G H S xs l Qd Q R hr hQ h⟩
def dAsgG (de : DE) (g : DG) : DSt := fun B S => de S fun d S1 => g d S1 B.nx
theorem pds_asg {tg : Expr} {g : DG} (he : PDE c X e de) (hg : PDG c X tg g) (hs : swapsWithSole [tg] e pos.line X.env = pure false := by rfl) (hw : swappedStores [tg] e X.env = pure none := by rfl)
    (h1 : (assignEach [tg] X.env).map (·.2) = [assign tg X.env] := by rfl) : PDS c X (.Assign [tg] e pos) (dAsgG de g) := by
  obtain ⟨a, a1, a2⟩ := he
  obtain ⟨b, b1, b2⟩ := hg
  refine ⟨_, ps_asg a1 b1 hs hw h1, fun σ G H S B E R h1 h2 h3 h4 h => ?_⟩
  refine a2 σ G H S _ _ R (fun v H' ⟨G', S', d, A, r, q⟩ => ?_) h
  exact b2 σ G' H' S' v d _ _ A.rp r (fun σ2 H2 ⟨G2, S2, R2, l2, n2, q2⟩ => h1 σ2 H2 ⟨G2, S2, R2, le_trans' A.le A.nle l2 n2, Nat.le_trans n2 A.nle, q2⟩) q
end
end DL
set_option maxHeartbeats 1000000
namespace DL
open PySem PySem.Spec PyProof.Rows L2
/-! ### data as the library's data -/
mutual
def D.py : D → PyData
  | .non => .none
  | .bl b => .bool b
  | .int i => .int i
  | .str s => .str s
  | .lst l => .list (D.pys l)
  | .tup l => .tuple (D.pys l)
  | .dct _ => .none
  | .fn _ => .none
  | .ty _ => .none
  | .dice => .none
def D.pys : List D → List PyData
  | [] => []
  | d :: ds => D.py d :: D.pys ds
end
mutual
/-- none, bools, ints, texts, lists and tuples of them -/
def D.plain : D → Bool
  | .dct _ => false
  | .fn _ => false
  | .ty _ => false
  | .dice => false
  | .lst l => D.plains l
  | .tup l => D.plains l
  | _ => true
def D.plains : List D → Bool
  | [] => true
  | d :: ds => D.plain d && D.plains ds
end
def D.ok (d : D) : Bool := d.plain && SeqAt.shaped d.py
theorem pys_map : ∀ l : List D, D.pys l = l.map D.py
  | [] => rfl
  | d :: l => by rw [D.pys, pys_map l]; rfl
theorem plains_all : ∀ l : List D, D.plains l = l.all D.plain
  | [] => rfl
  | d :: l => by rw [D.plains, plains_all l]; rfl
section
variable {K : PySem.W.Frag} {mg : MG} {G H : Hp} {n : Nat}
theorem rd_sub {a : Addr} {u : HO} (s : Sub G H) (h : Rd G a u) : Rd H a u := by
  rcases h with h | ⟨o, h⟩
  · exact .inl (s _ _ h)
  · exact .inr ⟨o, s _ _ h⟩
theorem sqL_sub {a : Addr} {xs : List V} (s : Sub G H) (h : SqL K G a xs) : SqL K H a xs := h.elim (fun h => .inl (rd_sub s h)) .inr
theorem sqT_sub {a : Addr} {xs : List V} (s : Sub G H) (h : SqT K G a xs) : SqT K H a xs := by
  rcases h with h | h
  · exact .inl (rd_sub s h)
  · exact .inr h
mutual
theorem Rep.dp (s : Sub G H) : ∀ {d : D} {v : V}, Rep K mg G n v d → d.plain = true → Dp K H v d.py
  | .non, _, .non, _ => .non
  | .bl _, _, .bl b, _ => .bl b
  | .int _, _, .int i, _ => .int i
  | .str _, _, .str x, _ => .str x
  | .lst l, _, .lst h a, p => .lst (sqL_sub s h) (RepAll.dp s a p)
  | .tup l, _, .tup h a, p => .tup (sqT_sub s h) (RepAll.dp s a p)
  | .dct _, _, _, p => nomatch p
  | .fn _, _, _, p => nomatch p
  | .ty _, _, _, p => nomatch p
  | .dice, _, _, p => nomatch p
theorem RepAll.dp (s : Sub G H) : ∀ {ds : List D} {vs : List V}, RepAll K mg G n vs ds → D.plains ds = true → DpAll K H vs (D.pys ds)
  | [], _, .nil, _ => .nil
  | d :: ds, _, .cons a b, p => by
    have p' : (D.plain d && D.plains ds) = true := p
    rw [Bool.and_eq_true] at p'
    exact .cons (Rep.dp s a p'.1) (RepAll.dp s b p'.2)
end
end
/-! ### one of two readings -/
theorem OpR.or {X : Cx} {f : Value → Value → Sem Value} {r r' : R2} (h : OpR X f r) (h' : OpR X f r') : OpR X f fun x y H Q => r x y H Q ∨ r' x y H Q := by
  intro pins s σ H x y v u Q I rx ry q
  rcases q with q | q
  · exact h pins s σ H x y v u Q I rx ry q
  · exact h' pins s σ H x y v u Q I rx ry q
theorem CallR.or {X : Cx} {f : Value} {r r' : List V → Hp → VK → Prop} (h : CallR X f r) (h' : CallR X f r') : CallR X f fun xs H Q => r xs H Q ∨ r' xs H Q := by
  intro pins s σ H xs us Q I rx q
  rcases q with q | q
  · exact h pins s σ H xs us Q I rx q
  · exact h' pins s σ H xs us Q I rx q
section
variable {c : Ct} {X : Cx}
theorem OpD.or {f : Value → Value → Sem Value} {g g' : D → D → Option D} {G : D → D → Option D} (h : OpD c X f g) (h' : OpD c X f g') (e : ∀ x y z, G x y = some z → g x y = some z ∨ g' x y = some z) : OpD c X f G := by
  obtain ⟨r, a, b⟩ := h
  obtain ⟨r', a', b'⟩ := h'
  refine ⟨_, OpR.or a a', fun G H n x y dx dy z Q s rx ry q hq => ?_⟩
  rcases e dx dy z q with q | q
  · exact .inl (b G H n x y dx dy z Q s rx ry q hq)
  · exact .inr (b' G H n x y dx dy z Q s rx ry q hq)
theorem CallD.or {f : Value} {g g' G : List D → Option D} (h : CallD c X f g) (h' : CallD c X f g') (e : ∀ x z, G x = some z → g x = some z ∨ g' x = some z) : CallD c X f G := by
  obtain ⟨r, a, b⟩ := h
  obtain ⟨r', a', b'⟩ := h'
  refine ⟨_, CallR.or a a', fun G H n x dx z Q s rx q hq => ?_⟩
  rcases e dx z q with q | q
  · exact .inl (b G H n x dx z Q s rx q hq)
  · exact .inr (b' G H n x dx z Q s rx q hq)
/-! ### ints -/
def g2I (p : Int → Int → Bool) (f : Int → Int → D) : D → D → Option D
  | .int i, .int j => if p i j = true then some (f i j) else none
  | _, _ => none
theorem g2I_some {p : Int → Int → Bool} {f : Int → Int → D} {x y z : D} (h : g2I p f x y = some z) : ∃ i j, x = .int i ∧ y = .int j ∧ p i j = true ∧ z = f i j := by
  unfold g2I at h
  split at h
  · split at h
    · exact ⟨_, _, rfl, rfl, by assumption, (Option.some.inj h).symm⟩
    · cases h
  · cases h
theorem opd_I {f : Value → Value → Sem Value} {C : Int → Int → Prop} {g : Int → Int → V} {p : Int → Int → Bool} {gd : Int → Int → D} (ho : OpR X f (rI C g)) (hp : ∀ i j, p i j = true → C i j) (hg : ∀ i j G n, Rep X.K X.mg G n (g i j) (gd i j)) : OpD c X f (g2I p gd) := by
  refine ⟨_, ho, fun G H n x y dx dy z Q s rx ry q hq => ?_⟩
  obtain ⟨i, j, e1, e2, e3, e4⟩ := g2I_some q
  subst e1 e2 e4
  cases rx
  cases ry
  exact ⟨i, j, rfl, rfl, hp i j e3, hq _ G H (.refl s) (hg i j G n)⟩
theorem opd_I0 {f : Value → Value → Sem Value} {g : Int → Int → V} {gd : Int → Int → D} (ho : OpR X f (rI0 g)) (hg : ∀ i j G n, Rep X.K X.mg G n (g i j) (gd i j)) : OpD c X f (g2I (fun _ _ => true) gd) := by
  refine ⟨_, ho, fun G H n x y dx dy z Q s rx ry q hq => ?_⟩
  obtain ⟨i, j, e1, e2, e3, e4⟩ := g2I_some q
  subst e1 e2 e4
  cases rx
  cases ry
  exact ⟨i, j, rfl, rfl, hq _ G H (.refl s) (hg i j G n)⟩
def bMul (i j : Int) : Bool := (decide (-(2 ^ 64) < i) && decide (i < 2 ^ 64)) || (decide (-(2 ^ 64) < j) && decide (j < 2 ^ 64))
def bDiv (_ j : Int) : Bool := decide (0 < j) && decide (j < 1073741824)
def bPow (i j : Int) : Bool := decide (0 ≤ j) && decide (j ≤ 1000000) && decide (i.natAbs < 2 ^ 64)
def bTrue (_ _ : Int) : Bool := true
theorem od_sub : OpD c X (binaryOp .Sub) (g2I bTrue fun i j => .int (i - j)) := opd_I0 op_sub fun i j _ _ => .int _
theorem od_div : OpD c X (binaryOp .FloorDiv) (g2I bDiv fun i j => .int (i / j)) := opd_I op_fdiv (fun i j h => by
  unfold bDiv at h
  simp only [Bool.and_eq_true, decide_eq_true_eq] at h
  exact h) fun i j _ _ => .int _
theorem od_mod : OpD c X (binaryOp .Mod) (g2I (fun _ j => decide (0 < j)) fun i j => .int (i % j)) := opd_I op_mod (fun i j h => of_decide_eq_true h) fun i j _ _ => .int _
theorem od_pow : OpD c X (binaryOp .Pow) (g2I bPow fun i j => .int (i ^ j.toNat)) := opd_I op_pow (fun i j h => by
  unfold bPow at h
  simp only [Bool.and_eq_true, decide_eq_true_eq] at h
  exact ⟨h.1.1, h.1.2, h.2⟩) fun i j _ _ => .int _
theorem od_shl : OpD c X (binaryOp .LShift) (g2I bPow fun i j => .int (i * 2 ^ j.toNat)) := opd_I op_shl (fun i j h => by
  unfold bPow at h
  simp only [Bool.and_eq_true, decide_eq_true_eq] at h
  exact ⟨h.1.1, h.1.2, h.2⟩) fun i j _ _ => .int _
theorem od_shr : OpD c X (binaryOp .RShift) (g2I (fun _ j => decide (0 ≤ j)) fun i j => .int (i / 2 ^ j.toNat)) := opd_I op_shr (fun i j h => of_decide_eq_true h) fun i j _ _ => .int _
theorem od_lt : OpD c X (compareOp .Lt) (g2I bTrue fun i j => .bl (decide (i < j))) := opd_I0 op_lt fun i j _ _ => .bl _
theorem od_le : OpD c X (compareOp .LtE) (g2I bTrue fun i j => .bl (decide (i ≤ j))) := opd_I0 op_le fun i j _ _ => .bl _
theorem od_gt : OpD c X (compareOp .Gt) (g2I bTrue fun i j => .bl (decide (j < i))) := opd_I0 op_gt fun i j _ _ => .bl _
theorem od_ge : OpD c X (compareOp .GtE) (g2I bTrue fun i j => .bl (decide (j ≤ i))) := opd_I0 op_ge fun i j _ _ => .bl _
/-! ### + -/
theorem rd_lst {K : PySem.W.Frag} {H : Hp} {a : Addr} {xs : List V} (h : Rd H a (.lst xs)) : SqL K H a xs := .inl h
def rCatR (K : PySem.W.Frag) : R2 := fun x y H Q => ∃ l b xs zs, x = .ref l ∧ y = .ref b ∧ SqL K H l xs ∧ SqL K H b zs ∧ xs.length + zs.length ≤ sizeLine ∧ ∀ p, H p = none → Q (.ref p) (upd H p (.lst (xs ++ zs)))
theorem op_catR : OpR X (binaryOp .Add) (rCatR X.K) := by
  intro pins s σ H x y v u Q I rx ry h
  obtain ⟨l, b, xs, zs, rfl, rfl, hH, hB, hz, q⟩ := h
  cases rx
  cases ry
  obtain ⟨its, r, ⟨⟨cls, dd, data, sl⟩, n, ho, hc, hd, he⟩, z⟩ := I.list hH
  obtain ⟨its2, r2, ⟨⟨cls2, dd2, data2, sl2⟩, n2, ho2, hc2, hd2, he2⟩, z2⟩ := I.list hB
  simp only at hc hd he hc2 hd2 he2
  subst hc hd he hc2 hd2 he2
  have l1 := r.length
  have l2 := r2.length
  refine concat_meets ⟨_, ho, rfl⟩ ⟨_, ho2, rfl⟩ noFill_list_add seq_list_add PySem.F.slot_list_add PySem.F.entry_list_add (PySem.F.args_list_add_2 _ _) (list_addW l b its.toArray its2.toArray n n2 none none sl sl2 (by rw [List.size_toArray, List.size_toArray]; omega)) ⟨ho, ho2, ?_⟩
  have ea : its.toArray ++ its2.toArray = (its ++ its2).toArray := by simp
  rw [ea]
  exact ⟨.ref _, _, I.lnew (t' := s.toks) (r.append r2) (by rw [List.length_append]; omega), rfl, q _ I.fresh⟩
def gAddS : D → D → Option D
  | .str a, .str b => if a.length + b.length ≤ 16777216 then some (.str (a ++ b)) else none
  | _, _ => none
def gAddL : D → D → Option D
  | .lst a, .lst b => if a.length + b.length ≤ 16777216 then some (.lst (a ++ b)) else none
  | _, _ => none
def gAddT : D → D → Option D
  | .tup a, .tup b => if a.length + b.length ≤ 16777216 then some (.tup (a ++ b)) else none
  | _, _ => none
def gAdd : D → D → Option D
  | .int i, .int j => some (.int (i + j))
  | .str a, .str b => if a.length + b.length ≤ 16777216 then some (.str (a ++ b)) else none
  | .lst a, .lst b => if a.length + b.length ≤ 16777216 then some (.lst (a ++ b)) else none
  | .tup a, .tup b => if a.length + b.length ≤ 16777216 then some (.tup (a ++ b)) else none
  | _, _ => none
theorem od_addS : OpD c X (binaryOp .Add) gAddS := ⟨_, op_add_str, fun G H n x y dx dy z Q s rx ry q hq => by
  unfold gAddS at q
  split at q
  · split at q
    · cases rx
      cases ry
      cases q
      exact ⟨_, _, rfl, rfl, by rw [sizeLine_eq]; assumption, hq _ G H (.refl s) (.str _)⟩
    · cases q
  · cases q⟩
theorem od_addL : OpD c X (binaryOp .Add) gAddL := ⟨_, op_catR, fun G H n x y dx dy z Q s rx ry q hq => by
  unfold gAddL at q
  split at q
  · split at q
    · rename_i hl
      cases rx with
      | @lst p1 xs ds1 h1 a1 =>
        cases ry with
        | @lst p2 ys ds2 h2 a2 =>
          cases q
          refine ⟨_, _, _, _, rfl, rfl, sqL_sub s h1, sqL_sub s h2, by rw [a1.length, a2.length, sizeLine_eq]; exact hl, fun p np => ?_⟩
          have g : Gw c.T 0 G H _ _ := .alloc (o := .lst (xs ++ ys)) s np
          exact hq _ _ _ g (.lst (.inl (.inl upd_same)) ((a1.append a2).up g.le (Nat.le_refl _)))
    · cases q
  · cases q⟩
theorem od_addT : OpD c X (binaryOp .Add) gAddT := ⟨_, op_catA, fun G H n x y dx dy z Q s rx ry q hq => by
  unfold gAddT at q
  split at q
  · split at q
    · rename_i hl
      cases rx with
      | @tup p1 xs ds1 h1 a1 =>
        cases ry with
        | @tup p2 ys ds2 h2 a2 =>
          cases q
          refine ⟨_, _, _, _, rfl, rfl, sqT_sub s h1, sqT_sub s h2, by rw [a1.length, a2.length, sizeLine_eq]; exact hl, fun e => ?_, fun e1 e2 => ?_, fun e1 e2 p np => ?_⟩
          · subst e
            cases a1
            exact hq _ G H (.refl s) (.tup h2 a2)
          · subst e2
            cases a2
            exact hq _ G H (.refl s) (by rw [List.append_nil]; exact .tup h1 a1)
          · have g : Gw c.T 0 G H _ _ := .alloc (o := .tup (xs ++ ys)) s np
            exact hq _ _ _ g (.tup (SqT.of upd_same) ((a1.append a2).up g.le (Nat.le_refl _)))
    · cases q
  · cases q⟩
theorem od_add : OpD c X (binaryOp .Add) gAdd := by
  refine OpD.or (opd_I0 (gd := fun i j => .int (i + j)) op_add fun i j _ _ => .int _) (OpD.or od_addS (OpD.or (G := fun x y => (gAddL x y).or (gAddT x y)) od_addL od_addT fun x y z h => ?_) (G := fun x y => (gAddS x y).or ((gAddL x y).or (gAddT x y))) fun x y z h => ?_) fun x y z h => ?_
  · cases e : gAddL x y with
    | none => rw [e] at h; exact .inr h
    | some w => rw [e] at h; exact .inl h
  · cases e : gAddS x y with
    | none => rw [e] at h; exact .inr h
    | some w => rw [e] at h; exact .inl h
  · unfold gAdd at h
    split at h
    · exact .inl h
    · exact .inr (by simpa [gAddS, gAddL, gAddT] using h)
    · exact .inr (by simpa [gAddS, gAddL, gAddT] using h)
    · exact .inr (by simpa [gAddS, gAddL, gAddT] using h)
    · cases h
/-! ### * -/
theorem repAll_flat {K : PySem.W.Frag} {mg : MG} {G : Hp} {n : Nat} {vs : List V} {ds : List D} (r : RepAll K mg G n vs ds) : ∀ k : Nat, RepAll K mg G n (List.replicate k vs).flatten (List.replicate k ds).flatten
  | 0 => .nil
  | k + 1 => by
    rw [List.replicate_succ, List.flatten_cons, List.replicate_succ, List.flatten_cons]
    exact r.append (repAll_flat r k)
def dRep (t : DA) (db : DE) : DE := fun S Q => t S fun xs S1 => xs.length ≤ 16777216 ∧ db S1 fun y S2 => ∃ k, y = .int k ∧ -(2 ^ 63) ≤ k ∧ k < 2 ^ 63 ∧ xs.length * k.toNat ≤ 16777216 ∧ Q (.lst (List.replicate k.toNat xs).flatten) S2
/-- [..] * b -/
theorem pd_rep {es : List Expr} {b : Expr} {das : DA} {db : DE} {p1 pos : Pos} (ha : PDA c X es das) (hb : PDE c X b db) : PDE c X (.BinOp (.List es p1) .Mult b pos) (dRep das db) := by
  obtain ⟨ta, a1, a2⟩ := ha
  obtain ⟨tb, b1, b2⟩ := hb
  refine ⟨_, pe_op op_rep (pe_lst a1) b1, fun σ G H S Qd Q R hQ h => ?_⟩
  refine a2 σ G H S _ _ R (fun vs H1 ⟨G1, S1, ds, A1, r1, h1⟩ => ?_) h
  obtain ⟨hz, h1⟩ := h1
  refine ⟨by rw [r1.length, sizeLine_eq]; exact hz, fun p np => ?_⟩
  have A2 := Aft.gw0 A1.rp (.alloc (o := .lst vs) A1.rp.sub np)
  refine b2 σ _ _ S1 _ _ A2.rp (fun v H3 ⟨G3, S3, dy, A3, r3, h3⟩ => ?_) h1
  obtain ⟨k, ek, k1, k2, k3, h3⟩ := h3
  subst ek
  cases r3
  have hp : G3 p = some (.lst vs) := A3.le.keep p _ upd_same firm_lst
  refine ⟨p, k, vs, rfl, rfl, A3.rp.sub _ _ hp, k1, k2, by rw [r1.length, sizeLine_eq]; exact k3, fun q nq => ?_⟩
  have g : Gw c.T 0 G3 H3 _ _ := .alloc (o := .lst (List.replicate k.toNat vs).flatten) A3.rp.sub nq
  have A4 := Aft.gw0 A3.rp g
  exact hQ _ _ ⟨_, S3, _, ((A1.trans A2).trans A3).trans A4, .lst (.inl (.inl upd_same)) (repAll_flat (A4.repAll (A3.repAll (A2.repAll r1))) k.toNat), h3⟩
/-- a * b of ints -/
def gMul : D → D → Option D := g2I bMul fun i j => .int (i * j)
theorem od_mul : OpD c X (binaryOp .Mult) gMul := opd_I op_mul (fun i j h => by
  unfold bMul at h
  simp only [Bool.or_eq_true, Bool.and_eq_true, decide_eq_true_eq] at h
  exact h) fun i j _ _ => .int _
/-- a tuple * an int, 2 to 1000 -/
def gMulT : D → D → Option D
  | .tup a, .int k => if a ≠ [] ∧ 2 ≤ k ∧ k ≤ 1000 ∧ a.length ≤ 1000 then some (.tup (List.replicate k.toNat a).flatten) else none
  | _, _ => none
theorem od_mulT : OpD c X (binaryOp .Mult) gMulT := ⟨_, op_repT, fun G H n x y dx dy z Q s rx ry q hq => by
  unfold gMulT at q
  split at q
  · split at q
    · rename_i hl
      obtain ⟨h1, h2, h3, h4⟩ := hl
      cases rx with
      | @tup p1 xs ds1 t1 a1 =>
        cases ry
        cases q
        refine ⟨_, _, xs, rfl, rfl, sqT_sub s t1, fun e => ?_, h2, h3, by rw [a1.length]; exact h4, fun p np => ?_⟩
        · subst e
          cases a1
          exact h1 rfl
        · have g : Gw c.T 0 G H _ _ := .alloc (o := .tup (List.replicate (Int.toNat ‹Int›) xs).flatten) s np
          exact hq _ _ _ g (.tup (SqT.of upd_same) ((repAll_flat a1 _).up g.le (Nat.le_refl _)))
    · cases q
  · cases q⟩
/-! ### ==, != -/
def deq (x y : D) : Bool := PyData.eqv x.py y.py
def gEq : D → D → Option D
  | .str a, .str b => some (.bl (decide (a = b)))
  | x, y => if x.ok = true ∧ y.ok = true then some (.bl (deq x y)) else none
def gNe : D → D → Option D
  | .str a, .str b => some (.bl (!decide (a = b)))
  | x, y => if x.ok = true ∧ y.ok = true then some (.bl (!deq x y)) else none
theorem ok_plain {d : D} (h : d.ok = true) : d.plain = true ∧ SeqAt.shaped d.py = true := by
  unfold D.ok at h
  rw [Bool.and_eq_true] at h
  exact h
theorem od_eq (hu : X.A.units + 64 < cLine) : OpD c X (compareOp .Eq) gEq := ⟨_, OpR.or op_eq (op_eqD hu), fun G H n x y dx dy z Q s rx ry q hq => by
  unfold gEq at q
  split at q
  · cases rx
    cases ry
    cases q
    refine .inl ⟨rfl, ?_⟩
    have e : ∀ a b : Str, decide (V.str a = V.str b) = decide (a = b) := fun a b => by
      rw [Bool.eq_iff_iff]
      simp
    rw [e]
    exact hq _ G H (.refl s) (.bl _)
  · split at q
    · rename_i hl
      obtain ⟨h1, h2⟩ := hl
      cases q
      obtain ⟨p1, s1⟩ := ok_plain h1
      obtain ⟨p2, s2⟩ := ok_plain h2
      exact .inr ⟨_, _, rx.dp s p1, ry.dp s p2, s1, s2, hq _ G H (.refl s) (.bl _)⟩
    · cases q⟩
theorem od_ne (hu : X.A.units + 64 < cLine) : OpD c X (compareOp .NotEq) gNe := ⟨_, OpR.or op_ne (op_neD hu), fun G H n x y dx dy z Q s rx ry q hq => by
  unfold gNe at q
  split at q
  · cases rx
    cases ry
    cases q
    refine .inl ⟨rfl, ?_⟩
    have e : ∀ a b : Str, decide (V.str a = V.str b) = decide (a = b) := fun a b => by
      rw [Bool.eq_iff_iff]
      simp
    rw [e]
    exact hq _ G H (.refl s) (.bl _)
  · split at q
    · rename_i hl
      obtain ⟨h1, h2⟩ := hl
      cases q
      obtain ⟨p1, s1⟩ := ok_plain h1
      obtain ⟨p2, s2⟩ := ok_plain h2
      exact .inr ⟨_, _, rx.dp s p1, ry.dp s p2, s1, s2, hq _ G H (.refl s) (.bl _)⟩
    · cases q⟩
/-! ### is None, is True -/
def D.isNon : D → Bool
  | .non => true
  | _ => false
theorem Rep.non_iff {K : PySem.W.Frag} {mg : MG} {G : Hp} {n : Nat} {v : V} {d : D} (r : Rep K mg G n v d) : decide (v = .non) = d.isNon := by
  cases r <;> rfl
def gIsN : D → D → Option D
  | x, .non => some (.bl x.isNon)
  | _, _ => none
def gNotN : D → D → Option D
  | x, .non => some (.bl (!x.isNon))
  | _, _ => none
theorem od_isN : OpD c X (compareOp .Is) gIsN := ⟨_, op_isN, fun G H n x y dx dy z Q s rx ry q hq => by
  unfold gIsN at q
  split at q
  · cases ry
    cases q
    refine ⟨rfl, ?_⟩
    rw [rx.non_iff]
    exact hq _ G H (.refl s) (.bl _)
  · cases q⟩
theorem od_notN : OpD c X (compareOp .IsNot) gNotN := ⟨_, op_notN, fun G H n x y dx dy z Q s rx ry q hq => by
  unfold gNotN at q
  split at q
  · cases ry
    cases q
    refine ⟨rfl, ?_⟩
    rw [rx.non_iff]
    exact hq _ G H (.refl s) (.bl _)
  · cases q⟩
def gNotB : D → D → Option D
  | .bl a, .bl b => some (.bl (!decide (a = b)))
  | _, _ => none
theorem od_notB : OpD c X (compareOp .IsNot) gNotB := ⟨_, op_notBl, fun G H n x y dx dy z Q s rx ry q hq => by
  unfold gNotB at q
  split at q
  · cases rx
    cases ry
    cases q
    exact ⟨_, _, rfl, rfl, hq _ G H (.refl s) (.bl _)⟩
  · cases q⟩
end
end DL
set_option maxHeartbeats 1000000
namespace DL
open PySem PySem.Spec PyProof.Rows L2
/-! ### ints of a list -/
def intsOf : List D → Option (List Int)
  | [] => some []
  | .int i :: r => (intsOf r).map (i :: ·)
  | _ :: _ => none
theorem intsOf_map : ∀ l : List Int, intsOf (l.map D.int) = some l
  | [] => rfl
  | i :: l => by
    show (intsOf (l.map D.int)).map (i :: ·) = some (i :: l)
    rw [intsOf_map l]
    rfl
theorem intsOf_eq : ∀ {l : List D} {ns : List Int}, intsOf l = some ns → l = ns.map D.int
  | [], ns, h => by
    have e : ([] : List Int) = ns := Option.some.inj h
    rw [← e]
    rfl
  | .int i :: r, ns, h => by
    have h' : (intsOf r).map (i :: ·) = some ns := h
    cases e : intsOf r with
    | none =>
      rw [e] at h'
      cases h'
    | some ms =>
      rw [e] at h'
      have e2 : i :: ms = ns := Option.some.inj h'
      rw [intsOf_eq e, ← e2]
      rfl
  | .non :: _, _, h => nomatch h
  | .bl _ :: _, _, h => nomatch h
  | .str _ :: _, _, h => nomatch h
  | .lst _ :: _, _, h => nomatch h
  | .tup _ :: _, _, h => nomatch h
  | .dct _ :: _, _, h => nomatch h
  | .fn _ :: _, _, h => nomatch h
  | .ty _ :: _, _, h => nomatch h
  | .dice :: _, _, h => nomatch h
def itemsOf : D → Option (List D)
  | .lst l => some l
  | .tup l => some l
  | _ => none
section
variable {c : Ct} {X : Cx}
/-! ### in -/
def gInI (neg : Bool) : D → D → Option D
  | .int i, y => match (itemsOf y).bind intsOf with
    | some ns => some (.bl (if neg then !decide (i ∈ ns) else decide (i ∈ ns)))
    | none => none
  | _, _ => none
theorem inV_ints (i : Int) : ∀ ns : List Int, inV (.int i) (ns.map V.int) = decide (i ∈ ns)
  | [] => rfl
  | n :: ns => by
    have ih := inV_ints i ns
    unfold inV at ih ⊢
    rw [List.map_cons, List.any_cons, ih, Bool.eq_iff_iff]
    show ((n == i) || decide (i ∈ ns)) = true ↔ decide (i ∈ n :: ns) = true
    simp only [Bool.or_eq_true, beq_iff_eq, decide_eq_true_eq, List.mem_cons]
    constructor
    · rintro (h | h)
      · exact .inl h.symm
      · exact .inr h
    · rintro (h | h)
      · exact .inl h.symm
      · exact .inr h
theorem flat_ints : ∀ ns : List Int, (ns.map V.int).all flatV = true
  | [] => rfl
  | n :: ns => by
    rw [List.map_cons, List.all_cons, flat_ints ns]
    rfl
theorem simIn {T : TT0} {K : PySem.W.Frag} {mg : MG} (neg : Bool) : Sim2 T K mg (L2.rIn K neg) (gInI neg) := by
  intro G H n x y dx dy z Q s rx ry q hq
  unfold gInI at q
  split at q
  · cases rx
    split at q
    · rename_i i ns e
      cases q
      have fin : ∀ {xs : List V} {l : List D}, RepAll K mg G n xs l → intsOf l = some ns → xs = ns.map V.int := fun a e => by
        rw [intsOf_eq e] at a
        exact a.ints_inv
      cases ry with
      | lst h a =>
        have ex := fin a e
        subst ex
        refine ⟨_, _, rfl, .inl (sqL_sub s h), rfl, flat_ints ns, ?_⟩
        rw [inV_ints]
        exact hq _ G H (.refl s) (.bl _)
      | tup h a =>
        have ex := fin a e
        subst ex
        refine ⟨_, _, rfl, .inr (sqT_sub s h), rfl, flat_ints ns, ?_⟩
        rw [inV_ints]
        exact hq _ G H (.refl s) (.bl _)
      | _ => cases e
    · cases q
  · cases q
theorem od_inI : OpD c X (compareOp .In) (gInI false) := ⟨_, op_in_seq, simIn false⟩
theorem od_notInI : OpD c X (compareOp .NotIn) (gInI true) := ⟨_, op_notIn_seq, simIn true⟩
def gInD (neg : Bool) : D → D → Option D
  | x, .lst l => if x.ok = true ∧ (D.lst l).ok = true then some (.bl (if neg then !(l.any fun z => deq z x) else l.any fun z => deq z x)) else none
  | _, _ => none
theorem any_py (x : PyData) : ∀ l : List D, ((D.pys l).any fun z => PyData.eqv z x) = l.any fun z => PyData.eqv z.py x
  | [] => rfl
  | d :: l => by rw [D.pys, List.any_cons, List.any_cons, any_py x l]
theorem od_inD (hu : X.A.units + 65 < cLine) : OpD c X (compareOp .In) (gInD false) := ⟨_, op_inD hu, fun G H n x y dx dy z Q s rx ry q hq => by
  unfold gInD at q
  split at q
  · split at q
    · rename_i hl
      obtain ⟨h1, h2⟩ := hl
      cases q
      obtain ⟨p1, s1⟩ := ok_plain h1
      obtain ⟨p2, s2⟩ := ok_plain h2
      refine ⟨_, _, rx.dp s p1, ry.dp s p2, s1, s2, ?_⟩
      rw [any_py]
      exact hq _ G H (.refl s) (.bl _)
    · cases q
  · cases q⟩
theorem od_notInD (hu : X.A.units + 65 < cLine) : OpD c X (compareOp .NotIn) (gInD true) := ⟨_, op_notInD hu, fun G H n x y dx dy z Q s rx ry q hq => by
  unfold gInD at q
  split at q
  · split at q
    · rename_i hl
      obtain ⟨h1, h2⟩ := hl
      cases q
      obtain ⟨p1, s1⟩ := ok_plain h1
      obtain ⟨p2, s2⟩ := ok_plain h2
      refine ⟨_, _, rx.dp s p1, ry.dp s p2, s1, s2, ?_⟩
      rw [any_py]
      exact hq _ G H (.refl s) (.bl _)
    · cases q
  · cases q⟩
/-- one sign in a text -/
def gInS (neg : Bool) : D → D → Option D
  | .str ⟨⟨[k]⟩⟩, .str z => some (.bl (if neg then !decide (k ∈ z.cps.toList) else decide (k ∈ z.cps.toList)))
  | _, _ => none
theorem od_inS : OpD c X (compareOp .In) (gInS false) := ⟨_, op_in_sign, fun G H n x y dx dy z Q s rx ry q hq => by
  unfold gInS at q
  split at q
  · cases rx
    cases ry
    cases q
    exact ⟨_, _, rfl, rfl, hq _ G H (.refl s) (.bl _)⟩
  · cases q⟩
theorem od_notInS : OpD c X (compareOp .NotIn) (gInS true) := ⟨_, op_notIn_sign, fun G H n x y dx dy z Q s rx ry q hq => by
  unfold gInS at q
  split at q
  · cases rx
    cases ry
    cases q
    exact ⟨_, _, rfl, rfl, hq _ G H (.refl s) (.bl _)⟩
  · cases q⟩
/-! ### -a -/
def dNeg (da : DE) : DE := fun S Q => da S fun x S1 => ∃ i, x = .int i ∧ Q (.int (-i)) S1
theorem pd_neg {a : Expr} {da : DE} {pos : Pos} (ha : PDE c X a da) : PDE c X (.UnaryOp .USub a pos) (dNeg da) := by
  obtain ⟨ta, a1, a2⟩ := ha
  refine ⟨_, pe_un un_neg a1, fun σ G H S Qd Q R hQ h => ?_⟩
  refine a2 σ G H S _ _ R (fun x H1 ⟨G1, S1, dx, A1, r1, h1⟩ => ?_) h
  obtain ⟨i, e, h1⟩ := h1
  subst e
  cases r1
  exact ⟨i, rfl, hQ _ H1 ⟨G1, S1, _, A1, .int _, h1⟩⟩
/-! ### subscripts -/
def gIx : D → D → Option D
  | .lst l, .int i => atI l i
  | .tup l, .int i => atI l i
  | .str z, .int i => if z.length ≤ 16777216 then (atI z.cps.toList i).map fun k => .str ⟨#[k]⟩ else none
  | _, _ => none
theorem atI_rep {K : PySem.W.Frag} {mg : MG} {G : Hp} {n : Nat} {xs : List V} {ds : List D} {i : Int} {d : D} (r : RepAll K mg G n xs ds) (h : atI ds i = some d) : ∃ v, atI xs i = some v ∧ Rep K mg G n v d := by
  unfold atI at h ⊢
  rw [r.length]
  cases e : ixN ds.length i with
  | none =>
    rw [e] at h
    cases h
  | some j =>
    rw [e] at h
    exact r.get h
theorem pd_ix {a b : Expr} {da db : DE} {pos : Pos} (ha : PDE c X a da) (hb : PDE c X b db) (hs : PlainIx b := by intro _ _; rfl) : PDE c X (.Subscript a b pos) (dOp gIx da db) := by
  obtain ⟨ta, a1, a2⟩ := ha
  obtain ⟨tb, b1, b2⟩ := hb
  refine ⟨_, pe_ix ix_seq a1 b1 hs, simOp rfl (fun G H n x y dx dy z Q s rx ry q hq => ?_) a2 b2⟩
  unfold gIx at q
  split at q
  · cases rx with
    | lst h a =>
      cases ry
      obtain ⟨v, e, r⟩ := atI_rep a q
      exact .inl ⟨_, _, _, v, rfl, rfl, sqL_sub s h, e, hq v G H (.refl s) r⟩
  · cases rx with
    | tup h a =>
      cases ry
      obtain ⟨v, e, r⟩ := atI_rep a q
      exact .inr (.inl ⟨_, _, _, v, rfl, rfl, sqT_sub s h, e, hq v G H (.refl s) r⟩)
  · split at q
    · rename_i hz
      cases rx
      cases ry
      rename_i z' i'
      cases e : atI z'.cps.toList i' with
      | none =>
        rw [e] at q
        cases q
      | some k =>
        rw [e] at q
        have e2 : D.str ⟨#[k]⟩ = z := Option.some.inj q
        subst e2
        exact .inr (.inr ⟨_, _, k, rfl, rfl, by rw [sizeLine_eq]; exact hz, e, hq _ G H (.refl s) (.str _)⟩)
    · cases q
  · cases q
/-! ### slices -/
abbrev DO := DS → (Option Int → DS → Prop) → Prop
def SimO (c : Ct) (K : PySem.W.Frag) (mg : MG) (t : TO) (d : DO) : Prop := ∀ σ G H S (Qd : Option Int → DS → Prop) (Q : Option Int → Hp → Prop), Rp c K mg σ G H S → (∀ o H', (∃ G' S', Aft c K mg σ G H S H' G' S' ∧ Qd o S') → Q o H') → d S Qd → t σ H Q
def PDO (c : Ct) (X : Cx) (e : Option Expr) (d : DO) : Prop := ∃ t, PO X e t ∧ SimO c X.K X.mg t d
def dNoPart : DO := fun S Q => Q none S
def dPart (de : DE) : DO := fun S Q => de S fun x S1 => ∃ i, x = .int i ∧ Q (some i) S1
theorem pdo_none : PDO c X none dNoPart := ⟨_, po_none, fun σ G H S Qd Q R hQ h => hQ none H ⟨G, S, .refl R, h⟩⟩
theorem pdo_some {e : Expr} {de : DE} (h : PDE c X e de) : PDO c X (some e) (dPart de) := by
  obtain ⟨ta, a1, a2⟩ := h
  refine ⟨_, po_some a1, fun σ G H S Qd Q R hQ h => ?_⟩
  refine a2 σ G H S _ _ R (fun x H1 ⟨G1, S1, dx, A1, r1, h1⟩ => ?_) h
  obtain ⟨i, e, h1⟩ := h1
  subst e
  cases r1
  exact ⟨i, rfl, hQ _ H1 ⟨G1, S1, A1, h1⟩⟩
def cutD {α : Type} (xs : List α) (lo hi : Option Int) : List α := (xs.drop (HT.sIx xs.length 0 lo)).take (HT.sIx xs.length xs.length hi - HT.sIx xs.length 0 lo)
theorem RepAll.cut {K : PySem.W.Frag} {mg : MG} {G : Hp} {n : Nat} {xs : List V} {ds : List D} (r : RepAll K mg G n xs ds) (lo hi : Option Int) : RepAll K mg G n (cutV xs lo hi) (cutD ds lo hi) := by
  unfold cutV cutD
  rw [r.length]
  exact (r.drop _).take _
def gSl : D → Option Int → Option Int → Option D
  | .lst l, lo, hi => some (.lst (cutD l lo hi))
  | .tup l, lo, hi => some (.tup (cutD l lo hi))
  | .str z, lo, hi => if z.length ≤ 16777216 then some (.str (cutS z lo hi)) else none
  | _, _, _ => none
def dSl (da : DE) (dl dh : DO) : DE := fun S Q => da S fun x S1 => dl S1 fun lo S2 => dh S2 fun hi S3 => ∃ z, gSl x lo hi = some z ∧ Q z S3
theorem cut_whole {xs : List V} {lo hi : Option Int} (h : HT.sIx xs.length 0 lo = 0 ∧ HT.sIx xs.length xs.length hi = xs.length) : cutV xs lo hi = xs := by
  unfold cutV
  rw [h.1, h.2, List.drop_zero, Nat.sub_zero, List.take_length]
theorem pd_slice {a : Expr} {lo hi : Option Expr} {da : DE} {dl dh : DO} {p2 pos : Pos} (ha : PDE c X a da) (hl : PDO c X lo dl) (hh : PDO c X hi dh) : PDE c X (.Subscript a (.Slice lo hi none p2) pos) (dSl da dl dh) := by
  obtain ⟨ta, a1, a2⟩ := ha
  obtain ⟨tl, l1, l2⟩ := hl
  obtain ⟨th, h1, h2⟩ := hh
  refine ⟨_, pe_slice (SlR.or sl_list (SlR.or sl_tupA sl_str)) a1 l1 h1, fun σ G H S Qd Q R hQ h => ?_⟩
  refine a2 σ G H S _ _ R (fun x H1 ⟨G1, S1, dx, A1, r1, q1⟩ => ?_) h
  refine l2 σ G1 H1 S1 _ _ A1.rp (fun lo H2 ⟨G2, S2, A2, q2⟩ => ?_) q1
  refine h2 σ G2 H2 S2 _ _ A2.rp (fun hi H3 ⟨G3, S3, A3, q3⟩ => ?_) q2
  obtain ⟨z, e, q3⟩ := q3
  have r3 := A3.rep (A2.rep r1)
  have A := (A1.trans A2).trans A3
  have s := A3.rp.sub
  unfold gSl at e
  split at e
  · cases e
    cases r3 with
    | @lst p xs ds hs hr =>
      refine .inl ⟨_, _, rfl, sqL_sub s hs, fun q nq => ?_⟩
      have A4 := Aft.gw0 A3.rp (.alloc (o := .lst (cutV xs lo hi)) s nq)
      exact hQ _ _ ⟨_, S3, _, A.trans A4, .lst (.inl (.inl upd_same)) (A4.repAll (hr.cut lo hi)), q3⟩
  · cases e
    cases r3 with
    | @tup p xs ds hs hr =>
      refine .inr (.inl ⟨_, _, rfl, sqT_sub s hs, fun hw => ?_, fun hw q nq => ?_⟩)
      · have hc := hr.cut lo hi
        rw [cut_whole hw] at hc
        exact hQ _ _ ⟨G3, S3, _, A, .tup hs hc, q3⟩
      · have A4 := Aft.gw0 A3.rp (.alloc (o := .tup (cutV xs lo hi)) s nq)
        exact hQ _ _ ⟨_, S3, _, A.trans A4, .tup (SqT.of upd_same) (A4.repAll (hr.cut lo hi)), q3⟩
  · split at e
    · rename_i hz
      cases e
      cases r3
      exact .inr (.inr ⟨_, rfl, by rw [sizeLine_eq]; exact hz, hQ _ _ ⟨G3, S3, _, A, .str _, q3⟩⟩)
    · cases e
  · cases e
/-! ### built-in functions -/
theorem rep1 {K : PySem.W.Frag} {mg : MG} {G : Hp} {n : Nat} {vs : List V} {d : D} (r : RepAll K mg G n vs [d]) : ∃ v, vs = [v] ∧ Rep K mg G n v d := by
  cases r with
  | cons a b =>
    cases b
    exact ⟨_, rfl, a⟩
theorem rep2 {K : PySem.W.Frag} {mg : MG} {G : Hp} {n : Nat} {vs : List V} {d e : D} (r : RepAll K mg G n vs [d, e]) : ∃ v w, vs = [v, w] ∧ Rep K mg G n v d ∧ Rep K mg G n w e := by
  cases r with
  | cons a b =>
    obtain ⟨w, ew, rw'⟩ := rep1 b
    subst ew
    exact ⟨_, _, rfl, a, rw'⟩
def gLen : List D → Option D
  | [.lst l] => some (.int l.length)
  | [.tup l] => some (.int l.length)
  | [.str z] => if z.length ≤ 16777216 then some (.int z.length) else none
  | _ => none
theorem cd_len : CallD c X (.builtin "len") gLen := ⟨_, CallR.or call_len_seq call_len_str, fun G H n vs ds z Q s r q hq => by
  unfold gLen at q
  split at q
  · cases q
    obtain ⟨v, e, rv⟩ := rep1 r
    subst e
    cases rv with
    | lst h a =>
      refine .inl ⟨_, _, rfl, .inl (sqL_sub s h), ?_⟩
      rw [a.length]
      exact hq _ G H (.refl s) (.int _)
  · cases q
    obtain ⟨v, e, rv⟩ := rep1 r
    subst e
    cases rv with
    | tup h a =>
      refine .inl ⟨_, _, rfl, .inr (sqT_sub s h), ?_⟩
      rw [a.length]
      exact hq _ G H (.refl s) (.int _)
  · split at q
    · rename_i hz
      cases q
      obtain ⟨v, e, rv⟩ := rep1 r
      subst e
      cases rv
      exact .inr ⟨_, rfl, by rw [sizeLine_eq]; exact hz, hq _ G H (.refl s) (.int _)⟩
    · cases q
  · cases q⟩
def blsOf : List D → Option (List Bool)
  | [] => some []
  | .bl i :: r => (blsOf r).map (i :: ·)
  | _ :: _ => none
theorem blsOf_map : ∀ l : List Bool, blsOf (l.map D.bl) = some l
  | [] => rfl
  | i :: l => by
    show (blsOf (l.map D.bl)).map (i :: ·) = some (i :: l)
    rw [blsOf_map l]
    rfl
theorem blsOf_rep {K : PySem.W.Frag} {mg : MG} {G : Hp} {n : Nat} : ∀ {vs : List V} {l : List D} {bs : List Bool}, RepAll K mg G n vs l → blsOf l = some bs → vs = bs.map V.bl
  | _, [], bs, .nil, h => by
    have e : ([] : List Bool) = bs := Option.some.inj h
    rw [← e]
    rfl
  | _, d :: l, bs, .cons a b, h => by
    cases a with
    | bl i =>
      have h' : (blsOf l).map (i :: ·) = some bs := h
      cases e : blsOf l with
      | none =>
        rw [e] at h'
        cases h'
      | some ms =>
        rw [e] at h'
        have e2 : i :: ms = bs := Option.some.inj h'
        rw [blsOf_rep b e, ← e2]
        rfl
    | _ => cases h
def gAll : List D → Option D
  | [.lst l] => (blsOf l).map fun bs => .bl (bs.all id)
  | _ => none
theorem cd_all (hc : X.calm = true) : CallD c X (.builtin "all") gAll := ⟨_, cr_all hc, fun G H n vs ds z Q s r q hq => by
  unfold gAll at q
  split at q
  · rename_i l
    obtain ⟨v, e, rv⟩ := rep1 r
    subst e
    cases rv with
    | @lst p xs _ h a =>
      cases e : blsOf l with
      | none =>
        rw [e] at q
        cases q
      | some bs =>
        rw [e] at q
        have e2 : D.bl (bs.all id) = z := Option.some.inj q
        subst e2
        have ex := blsOf_rep a e
        subst ex
        exact ⟨_, bs, rfl, sqL_sub s h, hq _ G H (.refl s) (.bl _)⟩
  · cases q⟩
def gInt : List D → Option D
  | [.int i] => some (.int i)
  | [.bl k] => some (.int (if k then 1 else 0))
  | _ => none
theorem cd_int : CallD c X (.type "int") gInt := ⟨_, call_int1, fun G H n vs ds z Q s r q hq => by
  unfold gInt at q
  split at q
  · cases q
    obtain ⟨v, e, rv⟩ := rep1 r
    subst e
    cases rv
    exact .inl ⟨_, rfl, hq _ G H (.refl s) (.int _)⟩
  · cases q
    obtain ⟨v, e, rv⟩ := rep1 r
    subst e
    cases rv
    exact .inr ⟨_, rfl, hq _ G H (.refl s) (.int _)⟩
  · cases q⟩
def gAbs : List D → Option D
  | [.int i] => some (.int (if i < 0 then -i else i))
  | _ => none
theorem cd_abs : CallD c X (.builtin "abs") gAbs := ⟨_, call_abs, fun G H n vs ds z Q s r q hq => by
  unfold gAbs at q
  split at q
  · cases q
    obtain ⟨v, e, rv⟩ := rep1 r
    subst e
    cases rv
    exact ⟨_, rfl, hq _ G H (.refl s) (.int _)⟩
  · cases q⟩
def gMax2 : List D → Option D
  | [.int i, .int j] => some (.int (if j > i then j else i))
  | _ => none
theorem cd_max2 (hc : X.calm = true) : CallD c X (.builtin "max") gMax2 := ⟨_, call_max2 hc, fun G H n vs ds z Q s r q hq => by
  unfold gMax2 at q
  split at q
  · cases q
    obtain ⟨v, w, e, rv, rw'⟩ := rep2 r
    subst e
    cases rv
    cases rw'
    exact ⟨_, _, rfl, hq _ G H (.refl s) (.int _)⟩
  · cases q⟩
def gMin2 : List D → Option D
  | [.int i, .int j] => some (.int (if j < i then j else i))
  | _ => none
theorem cd_min2 (hc : X.calm = true) : CallD c X (.builtin "min") gMin2 := ⟨_, call_min2 hc, fun G H n vs ds z Q s r q hq => by
  unfold gMin2 at q
  split at q
  · cases q
    obtain ⟨v, w, e, rv, rw'⟩ := rep2 r
    subst e
    cases rv
    cases rw'
    exact ⟨_, _, rfl, hq _ G H (.refl s) (.int _)⟩
  · cases q⟩
def gTupleF : List D → Option D
  | [.lst l] => some (.tup l)
  | [.tup l] => some (.tup l)
  | _ => none
theorem cd_tuple : CallD c X (.type "tuple") gTupleF := ⟨_, call_tuple_of, fun G H n vs ds z Q s r q hq => by
  unfold gTupleF at q
  split at q
  · cases q
    obtain ⟨v, e, rv⟩ := rep1 r
    subst e
    cases rv with
    | @lst p xs l h a =>
      refine ⟨_, _, rfl, .inl ⟨sqL_sub s h, fun q nq => ?_⟩⟩
      have g : Gw c.T 0 G H _ _ := .alloc (o := .tup xs) s nq
      exact hq _ _ _ g (.tup (SqT.of upd_same) (a.up g.le (Nat.le_refl _)))
  · cases q
    obtain ⟨v, e, rv⟩ := rep1 r
    subst e
    cases rv with
    | @tup p xs l h a => exact ⟨_, _, rfl, .inr ⟨sqT_sub s h, hq _ G H (.refl s) (.tup h a)⟩⟩
  · cases q⟩
def gListF : List D → Option D
  | [.lst l] => some (.lst l)
  | [.tup l] => some (.lst l)
  | _ => none
theorem cd_list : CallD c X (.type "list") gListF := ⟨_, call_list_of, fun G H n vs ds z Q s r q hq => by
  unfold gListF at q
  split at q
  · cases q
    obtain ⟨v, e, rv⟩ := rep1 r
    subst e
    cases rv with
    | @lst p xs l h a =>
      refine ⟨_, _, rfl, .inl (sqL_sub s h), fun q nq => ?_⟩
      have g : Gw c.T 0 G H _ _ := .alloc (o := .lst xs) s nq
      exact hq _ _ _ g (.lst (.inl (.inl upd_same)) (a.up g.le (Nat.le_refl _)))
  · cases q
    obtain ⟨v, e, rv⟩ := rep1 r
    subst e
    cases rv with
    | @tup p xs l h a =>
      refine ⟨_, _, rfl, .inr (sqT_sub s h), fun q nq => ?_⟩
      have g : Gw c.T 0 G H _ _ := .alloc (o := .lst xs) s nq
      exact hq _ _ _ g (.lst (.inl (.inl upd_same)) (a.up g.le (Nat.le_refl _)))
  · cases q⟩
def gSum : List D → Option D
  | [.lst l] => (intsOf l).map fun ns => .int ns.sum
  | _ => none
theorem intsOf_rep {K : PySem.W.Frag} {mg : MG} {G : Hp} {n : Nat} {vs : List V} {l : List D} {ns : List Int} (r : RepAll K mg G n vs l) (e : intsOf l = some ns) : vs = ns.map V.int := by
  rw [intsOf_eq e] at r
  exact r.ints_inv
theorem cd_sum (hc : X.calm = true) : CallD c X (.builtin "sum") gSum := ⟨_, cr_sum hc, fun G H n vs ds z Q s r q hq => by
  unfold gSum at q
  split at q
  · rename_i l
    obtain ⟨v, e, rv⟩ := rep1 r
    subst e
    cases rv with
    | @lst p xs _ h a =>
      cases e : intsOf l with
      | none =>
        rw [e] at q
        cases q
      | some ns =>
        rw [e] at q
        have e2 : D.int ns.sum = z := Option.some.inj q
        subst e2
        have ex := intsOf_rep a e
        subst ex
        exact ⟨_, ns, rfl, sqL_sub s h, hq _ G H (.refl s) (.int _)⟩
  · cases q⟩
/-! ### isinstance -/
def D.isTy : D → String → Option Bool
  | .non, t => some (decide (t = "NoneType"))
  | .bl _, t => some (decide (t = "bool") || decide (t = "int"))
  | .int _, t => some (decide (t = "int"))
  | .str _, t => some (decide (t = "str"))
  | .lst _, t => some (decide (t = "list"))
  | .tup _, t => some (decide (t = "tuple"))
  | .dct _, t => some (decide (t = "dict"))
  | _, _ => none
def gIsi : List D → Option D
  | [x, .ty t] => if t = "int" ∨ t = "bool" ∨ t = "tuple" ∨ t = "str" then (x.isTy t).map D.bl else none
  | _ => none
theorem rep_ty {K : PySem.W.Frag} {mg : MG} {G H : Hp} {n : Nat} {v : V} {d : D} (s : Sub G H) (r : Rep K mg G n v d) (t : String) (b : Bool) (ht : t = "int" ∨ t = "bool" ∨ t = "tuple" ∨ t = "str") (e : d.isTy t = some b) : ∃ ty, TyX K H v ty ∧ PySem.W.kitOne K ty (.type t) = some b := by
  cases r with
  | non =>
    refine ⟨_, .base .non, ?_⟩
    rcases ht with rfl | rfl | rfl | rfl <;> (cases e; exact kit_ty (by decide +kernel))
  | bl k =>
    refine ⟨_, .base (.bl k), ?_⟩
    rcases ht with rfl | rfl | rfl | rfl <;> (cases e; exact kit_ty (by decide +kernel))
  | int i =>
    refine ⟨_, .base (.int i), ?_⟩
    rcases ht with rfl | rfl | rfl | rfl <;> (cases e; exact kit_ty (by decide +kernel))
  | str x =>
    refine ⟨_, .base (.str x), ?_⟩
    rcases ht with rfl | rfl | rfl | rfl <;> (cases e; exact kit_ty (by decide +kernel))
  | lst h a =>
    refine ⟨.type "list", ?_, ?_⟩
    · rcases h with (h | ⟨o, h⟩) | ⟨o, its, m, h1, h2, h3, h4, h5⟩
      · exact .base (.lst (s _ _ h))
      · exact .base (.frz (s _ _ h))
      · exact .kList h1 h2
    · rcases ht with rfl | rfl | rfl | rfl <;> (cases e; exact kit_ty (by decide +kernel))
  | tup h a =>
    refine ⟨.type "tuple", ?_, ?_⟩
    · rcases h with (h | ⟨o, h⟩) | ⟨o, its, m, h1, h2, h3, h4, h5⟩
      · exact .base (.tup (s _ _ h))
      · exact .fTuple (s _ _ h)
      · exact .kTuple h1 h2
    · rcases ht with rfl | rfl | rfl | rfl <;> (cases e; exact kit_ty (by decide +kernel))
  | dct h a =>
    refine ⟨.type "dict", ?_, ?_⟩
    · rcases h with h | ⟨o, h⟩
      · exact .base (.dK (s _ _ h))
      · exact .fDict (s _ _ h)
    · rcases ht with rfl | rfl | rfl | rfl <;> (cases e; exact kit_ty (by decide +kernel))
  | fn h => cases e
  | ty x => cases e
  | dice h hb => cases e
theorem cd_isi : CallD c X (.builtin "isinstance") gIsi := ⟨_, call_isi, fun G H n vs ds z Q s r q hq => by
  unfold gIsi at q
  split at q
  · split at q
    · rename_i x t ht
      obtain ⟨v, w, e, rv, rw'⟩ := rep2 r
      subst e
      cases rw'
      cases e : x.isTy t with
      | none =>
        rw [e] at q
        cases q
      | some b =>
        rw [e] at q
        have e2 : D.bl b = z := Option.some.inj q
        subst e2
        obtain ⟨ty, h1, h2⟩ := rep_ty s rv t b ht e
        exact ⟨_, _, _, _, b, rfl, .ty t, h1, h2, hq _ G H (.refl s) (.bl _)⟩
    · cases q
  · cases q⟩
/-- a built-in class as a value -/
theorem pd_ty {x : Str} {t : String} {pos : Pos} (hg : Gl X x) (hm : X.mg x = none) (hv : bootBuiltins x = some (.type t)) (hn : x ≠ "__name__" := by decide) (hd : (x == ("__debug__" : Str)) = false := by decide) : PDE c X (.Name x pos) (dC (.ty t)) :=
  ⟨_, pe_bltn hg hm hv (v := .ty t) rfl hn hd, simC fun _ _ => .ty t⟩
end
end DL
set_option maxHeartbeats 1000000
namespace DL
open PySem PySem.Spec PyProof.Rows L2
/-! ### what is walked -/
abbrev DI := DS → (List D → DS → Prop) → Prop
structure Yl (T : TT0) (K : PySem.W.Frag) (mg : MG) (J : It) (G0 : Hp) (n0 : Nat) (items : List D) : Prop where
  stop : ∀ i G H n, Sub G H → Le T (n0 - n) G0 G → n ≤ n0 → items.length = i → J.stop i H
  go : ∀ i G H n d, Sub G H → Le T (n0 - n) G0 G → n ≤ n0 → items[i]? = some d → J.go i H ∧ ∀ x H', J.yld i H x H' → ∃ G', Gw T 0 G H G' H' ∧ Rep K mg G' n x d
def SimI (c : Ct) (K : PySem.W.Frag) (mg : MG) (wi : TI) (di : DI) : Prop := ∀ σ G H S (Qd : List D → DS → Prop) (R : It → Hp → Prop), Rp c K mg σ G H S →
  (∀ J H', (∃ G' S' items, Aft c K mg σ G H S H' G' S' ∧ Yl c.T K mg J G' S'.n items ∧ Qd items S') → R J H') → di S Qd → wi σ H R
def PDI (c : Ct) (X : Cx) (tg e : Expr) (di : DI) : Prop := ∃ wi, PI X tg e wi ∧ SimI c X.K X.mg wi di
section
variable {c : Ct} {X : Cx} {T : TT0} {K : PySem.W.Frag} {mg : MG}
theorem yl_list {a : Addr} {xs : List V} {ds : List D} {G0 : Hp} {n0 : Nat} (h : SqL K G0 a xs) (r : RepAll K mg G0 n0 xs ds) : Yl T K mg (Itl K a) G0 n0 ds where
  stop := fun i G H n s l hn hi => ⟨xs, sqL_sub s (sqL_le l h), by rw [r.length]; exact Nat.le_of_eq hi⟩
  go := fun i G H n d s l hn hi => by
    obtain ⟨v, e, rv⟩ := r.get hi
    have hq : SqL K H a xs := sqL_sub s (sqL_le l h)
    refine ⟨⟨xs, v, hq, e⟩, fun x H' y => ?_⟩
    obtain ⟨eH, y⟩ := y
    subst eH
    have ex : v = x := Option.some.inj (e.symm.trans (y xs hq))
    subst ex
    exact ⟨G, .refl s, rv.up l (by omega)⟩
theorem yl_tup {a : Addr} {xs : List V} {ds : List D} {G0 : Hp} {n0 : Nat} (h : SqT K G0 a xs) (r : RepAll K mg G0 n0 xs ds) : Yl T K mg (Itt K a) G0 n0 ds where
  stop := fun i G H n s l hn hi => ⟨xs, sqT_sub s (sqT_le l h), by rw [r.length]; exact Nat.le_of_eq hi⟩
  go := fun i G H n d s l hn hi => by
    obtain ⟨v, e, rv⟩ := r.get hi
    have hq : SqT K H a xs := sqT_sub s (sqT_le l h)
    refine ⟨⟨xs, v, hq, e⟩, fun x H' y => ?_⟩
    obtain ⟨eH, y⟩ := y
    subst eH
    have ex : v = x := Option.some.inj (e.symm.trans (y xs hq))
    subst ex
    exact ⟨G, .refl s, rv.up l (by omega)⟩
/-- lo, lo + 1, .. -/
def rgD (lo : Int) (n : Nat) : List D := (List.range n).map fun i => .int (lo + (i : Nat))
theorem yl_range {lo : Int} {n : Nat} {G0 : Hp} {n0 : Nat} : Yl T K mg (Itr lo n) G0 n0 (rgD lo n) where
  stop := fun i G H m s l hn hi => by
    have e : (rgD lo n).length = n := by simp [rgD]
    rw [e] at hi
    exact Nat.le_of_eq hi
  go := fun i G H m d s l hn hi => by
    unfold rgD at hi
    rw [List.getElem?_map] at hi
    by_cases hlt : i < n
    · rw [List.getElem?_eq_getElem (by simpa using hlt)] at hi
      have e : D.int (lo + ((List.range n)[i]'(by simpa using hlt) : Nat)) = d := Option.some.inj hi
      rw [List.getElem_range] at e
      subst e
      refine ⟨hlt, fun x H' y => ?_⟩
      obtain ⟨eH, y⟩ := y
      subst eH y
      exact ⟨G, .refl s, .int _⟩
    · rw [List.getElem?_eq_none (by simpa using hlt)] at hi
      cases hi
def signsD (x : Str) : List D := x.cps.toList.map fun k => .str ⟨#[k]⟩
theorem yl_str {x : Str} {G0 : Hp} {n0 : Nat} : Yl T K mg (Its x) G0 n0 (signsD x) where
  stop := fun i G H m s l hn hi => by
    have e : (signsD x).length = x.cps.size := by simp [signsD]
    rw [e] at hi
    exact Nat.le_of_eq hi
  go := fun i G H m d s l hn hi => by
    unfold signsD at hi
    rw [List.getElem?_map, Array.getElem?_toList] at hi
    cases hk : x.cps[i]? with
    | none =>
      rw [hk] at hi
      cases hi
    | some k =>
      rw [hk] at hi
      have e : D.str ⟨#[k]⟩ = d := Option.some.inj hi
      subst e
      refine ⟨(Array.getElem?_eq_some_iff.mp hk).1, fun v H' y => ?_⟩
      obtain ⟨eH, k', e', ev⟩ := y
      rw [hk] at e'
      cases e'
      subst eH ev
      exact ⟨G, .refl s, .str _⟩
def enumD (ds : List D) : List D := ds.zipIdx.map fun p => .tup [.int (p.2 : Nat), p.1]
theorem enumD_get (ds : List D) (i : Nat) : (enumD ds)[i]? = ds[i]?.map fun d => .tup [.int (i : Nat), d] := by
  unfold enumD
  rw [List.getElem?_map, List.getElem?_zipIdx]
  cases ds[i]? with
  | none => rfl
  | some d => simp
theorem enumD_length (ds : List D) : (enumD ds).length = ds.length := by simp [enumD]
theorem yl_enum {a : Addr} {xs : List V} {ds : List D} {G0 : Hp} {n0 : Nat} (h : SqL K G0 a xs) (r : RepAll K mg G0 n0 xs ds) : Yl T K mg (Ite K a) G0 n0 (enumD ds) where
  stop := fun i G H n s l hn hi => ⟨xs, sqL_sub s (sqL_le l h), by rw [r.length, ← enumD_length]; exact Nat.le_of_eq hi⟩
  go := fun i G H n d s l hn hi => by
    rw [enumD_get] at hi
    cases hd : ds[i]? with
    | none =>
      rw [hd] at hi
      cases hi
    | some d0 =>
      rw [hd] at hi
      have e0 : D.tup [.int (i : Nat), d0] = d := Option.some.inj hi
      subst e0
      obtain ⟨v, e, rv⟩ := r.get hd
      have hq : SqL K H a xs := sqL_sub s (sqL_le l h)
      refine ⟨⟨xs, v, hq, e⟩, fun x H' y => ?_⟩
      obtain ⟨P, w, ex, np, eH, y⟩ := y
      have ew : v = w := Option.some.inj (e.symm.trans (y xs hq))
      subst ex eH ew
      have g : Gw T 0 G H _ _ := .alloc (o := .tup [.int (i : Nat), v]) s np
      exact ⟨_, g, .tup (SqT.of upd_same) (.cons (.int _) (.cons ((rv.up l (by omega)).up g.le (Nat.le_refl _)) .nil))⟩
def dSeqI (de : DE) : DI := fun S Q => de S fun x S1 => ∃ l, itemsOf x = some l ∧ Q l S1
/-- over a list -/
def dLstI (de : DE) : DI := fun S Q => de S fun x S1 => ∃ l, x = .lst l ∧ Q l S1
theorem pdi_list {tg e : Expr} {de : DE} (he : PDE c X e de) : PDI c X tg e (dLstI de) := by
  obtain ⟨ta, a1, a2⟩ := he
  refine ⟨_, pi_list a1, fun σ G H S Qd R Rr hR h => ?_⟩
  refine a2 σ G H S _ _ Rr (fun v H1 ⟨G1, S1, d, A, r, q⟩ => ?_) h
  obtain ⟨l, e, q⟩ := q
  subst e
  cases r with
  | lst h a => exact ⟨_, rfl, ⟨_, sqL_sub A.rp.sub h⟩, hR _ _ ⟨G1, S1, l, A, yl_list h a, q⟩⟩
/-- over a tuple -/
def dTupI (de : DE) : DI := fun S Q => de S fun x S1 => ∃ l, x = .tup l ∧ Q l S1
theorem pdi_tup {tg e : Expr} {de : DE} (he : PDE c X e de) : PDI c X tg e (dTupI de) := by
  obtain ⟨ta, a1, a2⟩ := he
  refine ⟨_, pi_tup a1, fun σ G H S Qd R Rr hR h => ?_⟩
  refine a2 σ G H S _ _ Rr (fun v H1 ⟨G1, S1, d, A, r, q⟩ => ?_) h
  obtain ⟨l, e, q⟩ := q
  subst e
  cases r with
  | tup h a => exact ⟨_, rfl, ⟨_, sqT_sub A.rp.sub h⟩, hR _ _ ⟨G1, S1, l, A, yl_tup h a, q⟩⟩
/-- over a text -/
def dStrI (de : DE) : DI := fun S Q => de S fun x S1 => ∃ z, x = .str z ∧ Q (signsD z) S1
theorem pdi_str {tg e : Expr} {de : DE} (he : PDE c X e de) : PDI c X tg e (dStrI de) := by
  obtain ⟨ta, a1, a2⟩ := he
  refine ⟨_, pi_str a1, fun σ G H S Qd R Rr hR h => ?_⟩
  refine a2 σ G H S _ _ Rr (fun v H1 ⟨G1, S1, d, A, r, q⟩ => ?_) h
  obtain ⟨z, e, q⟩ := q
  subst e
  cases r
  exact ⟨_, rfl, hR _ _ ⟨G1, S1, _, A, yl_str, q⟩⟩
def bSm (i : Int) : Prop := -(2 ^ 62) ≤ i ∧ i < 2 ^ 62
def dRg1 (da : DA) : DI := fun S Q => da S fun ds S1 => ∃ j, ds = [.int j] ∧ bSm j ∧ Q (rgD 0 j.toNat) S1
def dRg2 (da : DA) : DI := fun S Q => da S fun ds S1 => ∃ i j, ds = [.int i, .int j] ∧ bSm i ∧ bSm j ∧ Q (rgD i (j - i).toNat) S1
theorem pdi_range1 {tg a : Expr} {da : DA} {p pos : Pos} (hg : Gl X "range") (hm : X.mg "range" = none) (ha : PDA c X [a] da) (hs : starEach [a] X.env = [(false, eval a X.env)] := by rfl) : PDI c X tg (.Call (.Name "range" p) [a] [] pos) (dRg1 da) := by
  obtain ⟨ta, a1, a2⟩ := ha
  refine ⟨_, pi_range1 hg hm a1 hs, fun σ G H S Qd R Rr hR h => ?_⟩
  refine a2 σ G H S _ _ Rr (fun vs H1 ⟨G1, S1, ds, A, r, q⟩ => ?_) h
  obtain ⟨j, e, b, q⟩ := q
  subst e
  obtain ⟨v, ev, rv⟩ := rep1 r
  subst ev
  cases rv
  exact ⟨j, rfl, b.1, b.2, hR _ _ ⟨G1, S1, _, A, yl_range, q⟩⟩
theorem pdi_range2 {tg a b : Expr} {da : DA} {p pos : Pos} (hg : Gl X "range") (hm : X.mg "range" = none) (ha : PDA c X [a, b] da) (hs : starEach [a, b] X.env = [(false, eval a X.env), (false, eval b X.env)] := by rfl) (hs2 : starEach [b] X.env = [(false, eval b X.env)] := by rfl) :
    PDI c X tg (.Call (.Name "range" p) [a, b] [] pos) (dRg2 da) := by
  obtain ⟨ta, a1, a2⟩ := ha
  refine ⟨_, pi_range2 hg hm a1 hs hs2, fun σ G H S Qd R Rr hR h => ?_⟩
  refine a2 σ G H S _ _ Rr (fun vs H1 ⟨G1, S1, ds, A, r, q⟩ => ?_) h
  obtain ⟨i, j, e, b1, b2, q⟩ := q
  subst e
  obtain ⟨v, w, ev, rv, rw'⟩ := rep2 r
  subst ev
  cases rv
  cases rw'
  exact ⟨i, j, rfl, ⟨b1.1, b1.2, b2.1, b2.2⟩, hR _ _ ⟨G1, S1, _, A, yl_range, q⟩⟩
/-- enumerate of a list -/
def dEnumL (da : DA) : DI := fun S Q => da S fun ds S1 => ∃ l, ds = [.lst l] ∧ Q (enumD l) S1
theorem pdi_enumL {e : Expr} {da : DA} {p pos tpos : Pos} {elts : List Expr} {kk : Nat} (hg : Gl X "enumerate") (hm : X.mg "enumerate" = none) (ha : PDA c X [e] da) (hs : starEach [e] X.env = [(false, eval e X.env)] := by rfl) :
    PDI c X (.Tuple elts kk tpos) (.Call (.Name "enumerate" p) [e] [] pos) (dEnumL da) := by
  obtain ⟨ta, a1, a2⟩ := ha
  refine ⟨_, pi_enum hg hm a1 hs, fun σ G H S Qd R Rr hR h => ?_⟩
  refine a2 σ G H S _ _ Rr (fun vs H1 ⟨G1, S1, ds, A, r, q⟩ => ?_) h
  obtain ⟨l, e, q⟩ := q
  subst e
  obtain ⟨v, ev, rv⟩ := rep1 r
  subst ev
  cases rv with
  | lst h a => exact ⟨_, _, rfl, sqL_sub A.rp.sub h, hR _ _ ⟨G1, S1, _, A, yl_enum h a, q⟩⟩
/-! ### for -/
def dLoop (g : DG) (tb : DSt) : List D → DEnds → DS → Prop
  | [], B, S => B.nx S
  | d :: ds, B, S => g d S fun S1 => tb { nx := fun S2 => dLoop g tb ds B S2, rt := B.rt, bk := B.nx, ct := fun S2 => dLoop g tb ds B S2 } S1
def dFor (di : DI) (g : DG) (tb : DSt) : DSt := fun B S => di S fun items S1 => dLoop g tb items B S1
theorem pds_for {tg iter : Expr} {body : List Stmt} {di : DI} {g : DG} {tb : DSt} {pos : Pos} (hp : PassesOwn (model X.prog X.w) X.A X.env X.xe) (hc : X.calm = true) (hi : PDI c X tg iter di) (hg : PDG c X tg g) (hb : PDSs c X body tb)
    (hs : ∀ x, foldedSetIterable iter X.env x = pure x := by intro _; rfl) : PDS c X (.For tg iter body [] pos) (dFor di g tb) := by
  obtain ⟨wi, i1, i2⟩ := hi
  obtain ⟨tg', g1, g2⟩ := hg
  obtain ⟨t, b1, b2⟩ := hb
  refine ⟨_, ps_for hp hc i1 g1 b1 hs, fun σ G H S B E R h1 h2 h3 h4 h => ?_⟩
  refine i2 σ G H S _ _ R (fun J H1 ⟨G1, S1, items, A, Y, q⟩ => ?_) h
  refine ⟨fun i m σ' H' => m = items.length - i ∧ i ≤ items.length ∧ ∃ G' S', Rp c X.K X.mg σ' G' H' S' ∧ Le c.T (S1.n - S'.n) G1 G' ∧ S'.n ≤ S1.n ∧ dLoop g tb (items.drop i) B S',
    ⟨items.length, by omega, Nat.zero_le _, G1, S1, A.rp, by rw [Nat.sub_self]; exact .refl _ _, Nat.le_refl _, q⟩, fun i m σ' H' hW => ?_⟩
  obtain ⟨em, hi, G', S', R', l', n', q'⟩ := hW
  by_cases hlt : i < items.length
  · have hd : items[i]? = some items[i] := List.getElem?_eq_getElem hlt
    have ed : items.drop i = items[i] :: items.drop (i + 1) := List.drop_eq_getElem_cons hlt
    rw [ed] at q'
    obtain ⟨go, y⟩ := Y.go i G' H' S'.n _ R'.sub l' n' hd
    have wrap : ∀ {σ2 H2} {G2 : Hp} {S2 : DS}, Rp c X.K X.mg σ2 G2 H2 S2 → Le c.T (S'.n - S2.n) G' G2 → S2.n ≤ S'.n → dLoop g tb (items.drop (i + 1)) B S2 →
        ∃ G' S', Rp c X.K X.mg σ2 G' H2 S' ∧ Le c.T (S1.n - S'.n) G1 G' ∧ S'.n ≤ S1.n ∧ dLoop g tb (items.drop (i + 1)) B S' := fun {σ2 H2 G2 S2} R2 l2 n2 q2 =>
      ⟨G2, S2, R2, le_trans' l' n' l2 n2, Nat.le_trans n2 n', q2⟩
    refine .inr ⟨go, fun σ2 H2 => ∃ G' S', Rp c X.K X.mg σ2 G' H2 S' ∧ Le c.T (S1.n - S'.n) G1 G' ∧ S'.n ≤ S1.n ∧ dLoop g tb (items.drop (i + 1)) B S', fun σ2 H2 hN => ⟨items.length - (i + 1), by omega, rfl, hlt, hN⟩, fun x H2 hy => ?_⟩
    obtain ⟨G2, gw, rx⟩ := y x H2 hy
    have R2 := R'.gw0 gw
    have lx : Le c.T (S'.n - S'.n) G' G2 := by
      rw [Nat.sub_self]
      exact gw.le
    refine g2 σ' G2 H2 S' x _ _ _ R2 rx (fun σ3 H3 ⟨G3, S3, R3, l3, n3, q3⟩ => ?_) q'
    have l23 : Le c.T (S'.n - S3.n) G' G3 := le_trans' lx (Nat.le_refl _) l3 n3
    refine b2 σ3 G3 H3 S3 { nx := fun S2 => dLoop g tb (items.drop (i + 1)) B S2, rt := B.rt, bk := B.nx, ct := fun S2 => dLoop g tb (items.drop (i + 1)) B S2 } _ R3 (fun σ4 H4 ⟨G4, S4, R4, l4, n4, q4⟩ => ?_) (fun v H4 z => h2 v H4 z) (fun σ4 H4 ⟨G4, S4, R4, l4, n4, q4⟩ => ?_) (fun σ4 H4 ⟨G4, S4, R4, l4, n4, q4⟩ => ?_) q3
    · exact wrap R4 (le_trans' l23 n3 l4 n4) (Nat.le_trans n4 n3) q4
    · refine h1 σ4 H4 ⟨G4, S4, R4, ?_, ?_, q4⟩
      · exact le_trans' A.le A.nle (le_trans' l' n' (le_trans' l23 n3 l4 n4) (Nat.le_trans n4 n3)) (by omega)
      · have := A.nle
        omega
    · exact wrap R4 (le_trans' l23 n3 l4 n4) (Nat.le_trans n4 n3) q4
  · have e : i = items.length := by omega
    subst e
    refine .inl ⟨Y.stop _ G' H' S'.n R'.sub l' n' rfl, ?_⟩
    rw [List.drop_length] at q'
    exact h1 σ' H' ⟨G', S', R', le_trans' A.le A.nle l' n', Nat.le_trans n' A.nle, q'⟩
/-! ### comprehensions -/
def wipeD (sl : List (Option SV)) : List Nat → List (Option SV)
  | [] => sl
  | v :: vs => (wipeD sl vs).set v none
def setsD (sl : List (Option SV)) : List (Nat × D) → List (Option SV)
  | [] => sl
  | p :: r => setsD (sl.set p.1 (some (.p p.2))) r
def setsV (σ : Sig) : List (Nat × V) → Sig
  | [] => σ
  | p :: r => setsV (σ.set p.1 (some p.2)) r
def ownB : Option (Option SV) → Bool
  | some (some (.ol _)) => true
  | some (some (.od _)) => true
  | some (some (.ot _)) => true
  | _ => false
theorem ownB_iff {x : Option (Option SV)} : ownB x = true ↔ isOwn x := by
  unfold ownB isOwn
  split <;> simp
inductive RepS (K : PySem.W.Frag) (mg : MG) (G : Hp) (n : Nat) : List (Nat × V) → List (Nat × D) → Prop
  | nil : RepS K mg G n [] []
  | cons {i : Nat} {v : V} {d : D} {vs : List (Nat × V)} {ds : List (Nat × D)} : Rep K mg G n v d → RepS K mg G n vs ds → RepS K mg G n ((i, v) :: vs) ((i, d) :: ds)
/-- a target of a comprehension: what it stores -/
def SimGc (K : PySem.W.Frag) (mg : MG) (t : TG) (gd : D → Option (List (Nat × D))) (ws : List Nat) : Prop := ∀ σ G H n v d l (Q : Sig → Hp → Prop), Sub G H → Rep K mg G n v d → gd d = some l →
  (∀ p ∈ l, p.1 ∈ ws) ∧ ((∀ vs, RepS K mg G n vs l → Q (setsV σ vs) H) → t v σ H Q)
theorem simGc_name (i : Nat) : SimGc K mg (gName i) (fun d => some [(i, d)]) [i] := by
  intro σ G H n v d l Q s r e
  have e2 : [(i, d)] = l := Option.some.inj e
  subst e2
  exact ⟨fun p hp => by simpa using congrArg Prod.fst (List.mem_singleton.mp hp), fun h => h [(i, v)] (.cons r .nil)⟩
def gdPair (i j : Nat) : D → Option (List (Nat × D))
  | .tup [a, b] => some [(i, a), (j, b)]
  | _ => none
theorem simGc_pair (i j : Nat) : SimGc K mg (gTup K 2 (gCons (gName i) (gCons (gName j) gNil))) (gdPair i j) [i, j] := by
  intro σ G H n v d l Q s r e
  unfold gdPair at e
  split at e
  · cases e
    cases r with
    | @tup p xs ds h a =>
      obtain ⟨v1, v2, ex, r1, r2⟩ := rep2 a
      subst ex
      refine ⟨fun p hp => ?_, fun hq => ⟨_, _, rfl, sqT_sub s h, rfl, v1, [v2], rfl, v2, [], rfl, rfl, hq [(i, v1), (j, v2)] (.cons r1 (.cons r2 .nil))⟩⟩
      simp only [List.mem_cons, List.not_mem_nil, or_false] at hp
      rcases hp with rfl | rfl <;> simp
  · cases e
section
variable {c : Ct} {K : PySem.W.Frag} {mg : MG} {σ σ2 : Sig} {G H G2 H2 : Hp} {S : DS}
theorem Rp.wipe (R : Rp c K mg σ G H S) : ∀ vs : List Nat, Rp c K mg (L2.wipe σ vs) G H ⟨wipeD S.sl vs, S.n⟩
  | [] => R
  | v :: vs => (Rp.wipe R vs).drop v none
theorem Rp.setsV : ∀ {vs : List (Nat × V)} {l : List (Nat × D)} {σ : Sig} {sl : List (Option SV)} {n : Nat}, Rp c K mg σ G H ⟨sl, n⟩ → RepS K mg G n vs l → Rp c K mg (DL.setsV σ vs) G H ⟨setsD sl l, n⟩
  | _, _, _, _, _, R, .nil => R
  | _, _, σ, sl, n, R, .cons (i := i) (d := d) r rs => Rp.setsV (σ := σ.set i _) (sl := sl.set i (some (.p d))) (n := n) (Rp.set R r) rs
theorem wipe_at {σ : Sig} {vs : List Nat} {i : Nat} (h : i ∉ vs) : (L2.wipe σ vs)[i]? = σ[i]? := by
  induction vs with
  | nil => rfl
  | cons v vs ih =>
    rw [List.mem_cons, not_or] at h
    show ((L2.wipe σ vs).set v none)[i]? = _
    rw [List.getElem?_set_ne (Ne.symm h.1)]
    exact ih h.2
theorem wipeD_at {sl : List (Option SV)} {vs : List Nat} {i : Nat} (h : i ∉ vs) : (wipeD sl vs)[i]? = sl[i]? := by
  induction vs with
  | nil => rfl
  | cons v vs ih =>
    rw [List.mem_cons, not_or] at h
    show ((wipeD sl vs).set v none)[i]? = _
    rw [List.getElem?_set_ne (Ne.symm h.1)]
    exact ih h.2
theorem setsV_at : ∀ {l : List (Nat × V)} {σ : Sig} {i : Nat}, (∀ p ∈ l, p.1 ≠ i) → (setsV σ l)[i]? = σ[i]?
  | [], _, _, _ => rfl
  | p :: l, σ, i, h => by
    show (setsV (σ.set p.1 (some p.2)) l)[i]? = _
    rw [setsV_at fun q hq => h q (List.mem_cons_of_mem _ hq), List.getElem?_set_ne (h p List.mem_cons_self)]
theorem setsD_at : ∀ {l : List (Nat × D)} {σ : List (Option SV)} {i : Nat}, (∀ p ∈ l, p.1 ≠ i) → (setsD σ l)[i]? = σ[i]?
  | [], _, _, _ => rfl
  | p :: l, σ, i, h => by
    show (setsD (σ.set p.1 (some (.p p.2))) l)[i]? = _
    rw [setsD_at fun q hq => h q (List.mem_cons_of_mem _ hq), List.getElem?_set_ne (h p List.mem_cons_self)]
theorem repS_fst {n : Nat} : ∀ {vs : List (Nat × V)} {l : List (Nat × D)}, RepS K mg G n vs l → vs.map (·.1) = l.map (·.1)
  | _, _, .nil => rfl
  | _, _, .cons _ b => by rw [List.map_cons, List.map_cons, repS_fst b]
theorem wipe_set {σ : Sig} {i : Nat} {w : Option V} : ∀ {vs : List Nat}, i ∈ vs → L2.wipe (σ.set i w) vs = L2.wipe σ vs := fun {vs} h => by
  apply List.ext_getElem?
  intro j
  induction vs with
  | nil => cases h
  | cons v vs ih =>
    show ((L2.wipe (σ.set i w) vs).set v none)[j]? = ((L2.wipe σ vs).set v none)[j]?
    by_cases hv : v = j
    · subst hv
      have e : (L2.wipe (σ.set i w) vs).length = (L2.wipe σ vs).length := by rw [wipe_length, wipe_length, List.length_set]
      by_cases hl : v < (L2.wipe σ vs).length
      · rw [List.getElem?_set_self hl, List.getElem?_set_self (by rw [e]; exact hl)]
      · rw [List.getElem?_eq_none (by rw [List.length_set, e]; omega), List.getElem?_eq_none (by simpa using hl)]
    · rw [List.getElem?_set_ne hv, List.getElem?_set_ne hv]
      by_cases hi : i ∈ vs
      · exact ih hi
      · have e : i = v := by
          rcases List.mem_cons.mp h with z | z
          · exact z
          · exact absurd z hi
        subst e
        by_cases hj : j ∈ vs
        · -- both wiped at j
          have key : ∀ (τ ρ : Sig) (us : List Nat), τ.length = ρ.length → j ∈ us → (L2.wipe τ us)[j]? = (L2.wipe ρ us)[j]? := by
            intro τ ρ us hl
            induction us with
            | nil => intro z; cases z
            | cons u us ihu =>
              intro hm
              show ((L2.wipe τ us).set u none)[j]? = ((L2.wipe ρ us).set u none)[j]?
              by_cases hu : u = j
              · subst hu
                have e2 : (L2.wipe τ us).length = (L2.wipe ρ us).length := by rw [wipe_length, wipe_length, hl]
                by_cases hl2 : u < (L2.wipe ρ us).length
                · rw [List.getElem?_set_self hl2, List.getElem?_set_self (by rw [e2]; exact hl2)]
                · rw [List.getElem?_eq_none (by rw [List.length_set, e2]; omega), List.getElem?_eq_none (by simpa using hl2)]
              · rw [List.getElem?_set_ne hu, List.getElem?_set_ne hu]
                exact ihu ((List.mem_cons.mp hm).resolve_left (Ne.symm hu))
          exact key _ _ _ (List.length_set ..) hj
        · rw [wipe_at hj, wipe_at hj, List.getElem?_set_ne hv]
theorem wipe_setsV {vs : List Nat} : ∀ {l : List (Nat × V)} {σ : Sig}, (∀ p ∈ l, p.1 ∈ vs) → L2.wipe (setsV σ l) vs = L2.wipe σ vs
  | [], _, _ => rfl
  | p :: l, σ, h => by
    show L2.wipe (setsV (σ.set p.1 (some p.2)) l) vs = _
    rw [wipe_setsV fun q hq => h q (List.mem_cons_of_mem _ hq), wipe_set (h p List.mem_cons_self)]
theorem wipe_wipe {σ : Sig} {vs : List Nat} : ∀ us : List Nat, (∀ i ∈ us, i ∈ vs) → L2.wipe (L2.wipe σ us) vs = L2.wipe σ vs
  | [], _ => rfl
  | u :: us, h => by
    show L2.wipe ((L2.wipe σ us).set u none) vs = _
    rw [wipe_set (h u List.mem_cons_self), wipe_wipe us fun i hi => h i (List.mem_cons_of_mem _ hi)]
/-- back to the slots outside the block -/
theorem Rp.back {vs : List Nat} {sl2 : List (Option SV)} {n2 : Nat} (R : Rp c K mg σ G H S) (l : Le c.T (S.n - n2) G G2) (hn : n2 ≤ S.n) (R2 : Rp c K mg σ2 G2 H2 ⟨sl2, n2⟩) (h1 : ∀ i, i ∉ vs → σ2[i]? = σ[i]?) (h2 : ∀ i, i ∉ vs → sl2[i]? = S.sl[i]?)
    (hv : ∀ i ∈ vs, ¬ isOwn S.sl[i]?) : Rp c K mg σ G2 H2 ⟨S.sl, n2⟩ := by
  refine ⟨R2.sub, R2.nle, R2.le, R2.hid, R2.new, R2.tabs, R.len, fun i => ?_, fun i j a hij o1 o2 e1 e2 => ?_⟩
  · by_cases hi : i ∈ vs
    · have z := R.slots i
      have nv := hv i hi
      show SlotOk K mg c G2 H2 n2 σ[i]? S.sl[i]?
      cases e : S.sl[i]? with
      | none => exact True.intro
      | some w =>
        cases w with
        | none => exact True.intro
        | some w =>
          rw [e] at z nv
          cases w with
          | p d =>
            obtain ⟨x, ex, rx⟩ := z
            exact ⟨x, ex, rx.up l (by omega)⟩
          | ol q => exact absurd True.intro nv
          | od q => exact absurd True.intro nv
          | ot q => exact absurd True.intro nv
    · have z := R2.slots i
      have z2 : SlotOk K mg c G2 H2 n2 σ2[i]? sl2[i]? := z
      rw [h1 i hi, h2 i hi] at z2
      exact z2
  · have hi : i ∉ vs := fun z => hv i z o1
    have hj : j ∉ vs := fun z => hv j z o2
    refine R2.apart i j a hij ?_ ?_ ?_ ?_
    · show isOwn sl2[i]?
      rw [h2 i hi]
      exact o1
    · show isOwn sl2[j]?
      rw [h2 j hj]
      exact o2
    · rw [h1 i hi]
      exact e1
    · rw [h1 j hj]
      exact e2
/-- a hidden object that no slot holds is written -/
theorem Rp.poke (R : Rp c K mg σ G H S) {p : Addr} {o : HO} (g : G p = none) (h0 : c.G0 p = none → c.H0 p = none) (po : Pl o) (lo : Loose σ S p) : Rp c K mg σ G (upd H p o) S := by
  refine ⟨⟨fun b w e => ?_, fun b w e n => ?_⟩, R.nle, R.le, fun b w h1 h2 => ?_, R.new, R.tabs, R.len, fun j => ?_, R.apart⟩
  · rw [upd_ne (ne_of_none e g)]
    exact R.sub b w e
  · by_cases hb : b = p
    · subst hb
      rw [upd_same] at e
      cases e
      exact po
    · rw [upd_ne hb] at e
      exact R.sub.hd b w e n
  · obtain ⟨h3, h4⟩ := R.hid b w h1 h2
    exact ⟨by rw [upd_ne (fun z => by subst z; have z2 := h0 h2; rw [h1] at z2; cases z2)]; exact h3, h4⟩
  · have sj := R.slots j
    have lj := lo j
    cases hq : S.sl[j]? with
    | none => exact True.intro
    | some w =>
      cases w with
      | none => exact True.intro
      | some w =>
        rw [hq] at sj lj
        cases w with
        | p d => exact sj
        | ol l =>
          obtain ⟨a', e', h1, h2, xs, h3, h4⟩ := sj
          have ne : a' ≠ p := fun z => by
            subst z
            exact lj True.intro e'
          exact ⟨a', e', h1, h2, xs, by rw [upd_ne ne]; exact h3, h4⟩
        | od l =>
          obtain ⟨a', e', h1, h2, xs, h3, h4⟩ := sj
          have ne : a' ≠ p := fun z => by
            subst z
            exact lj True.intro e'
          exact ⟨a', e', h1, h2, xs, by rw [upd_ne ne]; exact h3, h4⟩
        | ot l =>
          obtain ⟨a', e', h1, h2, xs, h3, h4⟩ := sj
          have ne : a' ≠ p := fun z => by
            subst z
            exact lj True.intro e'
          exact ⟨a', e', h1, h2, xs, by rw [upd_ne ne]; exact h3, h4⟩
/-- a hidden object that no slot holds comes into the open -/
theorem Rp.adopt (R : Rp c K mg σ G H S) {p : Addr} {o : HO} (g : G p = none) (h0 : c.G0 p = none → c.H0 p = none) (lo : Loose σ S p) (hp : H p = some o) : Rp c K mg σ (upd G p o) H S := by
  have sm : Same G (upd G p o) := fun b w e => by
    rw [upd_ne (ne_of_none e g)]
    exact e
  refine ⟨⟨fun b w e => ?_, fun b w e n => ?_⟩, R.nle, ?_, fun b w h1 h2 => ?_, fun b w h1 h2 => ?_, (Le.same (T := c.T) sm).tabs R.tabs, R.len, fun j => ?_, R.apart⟩
  · by_cases hb : b = p
    · subst hb
      rw [upd_same] at e
      cases e
      exact hp
    · rw [upd_ne hb] at e
      exact R.sub b w e
  · by_cases hb : b = p
    · subst hb
      rw [upd_same] at n
      cases n
    · rw [upd_ne hb] at n
      exact R.sub.hd b w e n
  · exact (R.le.trans (Le.same (T := c.T) sm)).mono (Nat.le_refl _)
  · obtain ⟨h3, h4⟩ := R.hid b w h1 h2
    refine ⟨h3, ?_⟩
    rw [upd_ne (fun z => by subst z; have z2 := h0 h2; rw [h1] at z2; cases z2)]
    exact h4
  · by_cases hb : b = p
    · rw [hb] at h2 ⊢
      exact h0 h2
    · rw [upd_ne hb] at h1
      exact R.new b w h1 h2
  · have sj := R.slots j
    have lj := lo j
    cases hq : S.sl[j]? with
    | none => exact True.intro
    | some w =>
      cases w with
      | none => exact True.intro
      | some w =>
        rw [hq] at sj lj
        cases w with
        | p d =>
          obtain ⟨x, ex, rx⟩ := sj
          exact ⟨x, ex, rx.same sm⟩
        | ol l =>
          obtain ⟨a', e', h1, h2, xs, h3, h4⟩ := sj
          have ne : a' ≠ p := fun z => by
            subst z
            exact lj True.intro e'
          exact ⟨a', e', by rw [upd_ne ne]; exact h1, h2, xs, h3, h4.same sm⟩
        | od l =>
          obtain ⟨a', e', h1, h2, xs, h3, h4⟩ := sj
          have ne : a' ≠ p := fun z => by
            subst z
            exact lj True.intro e'
          exact ⟨a', e', by rw [upd_ne ne]; exact h1, h2, xs, h3, h4.same sm⟩
        | ot l =>
          obtain ⟨a', e', h1, h2, xs, h3, h4⟩ := sj
          have ne : a' ≠ p := fun z => by
            subst z
            exact lj True.intro e'
          exact ⟨a', e', by rw [upd_ne ne]; exact h1, h2, xs, h3, h4.same sm⟩
end
end
end DL
set_option maxHeartbeats 1000000
namespace DL
open PySem PySem.Spec PyProof.Rows L2
def dComp (gd : D → Option (List (Nat × D))) (dt : DT) (de : DE) (sl0 : List (Option SV)) : List D → List D → Nat → (List D → Nat → Prop) → Prop
  | [], acc, n, Q => Q acc n
  | d :: ds, acc, n, Q => acc.length < 16777216 ∧ ∃ l, gd d = some l ∧ dt ⟨setsD sl0 l, n⟩ fun b S2 => S2.sl = setsD sl0 l ∧
      if b = true then de S2 fun y S3 => S3.sl = setsD sl0 l ∧ dComp gd dt de sl0 ds (acc ++ [y]) S3.n Q else dComp gd dt de sl0 ds acc S2.n Q
def dLc (di : DI) (gd : D → Option (List (Nat × D))) (dt : DT) (de : DE) (vs : List Nat) : DE := fun S Q => di S fun items S1 => (∀ v ∈ vs, ownB S1.sl[v]? = false) ∧
  dComp gd dt de (wipeD S1.sl vs) items [] S1.n fun acc n => Q (.lst acc) ⟨S1.sl, n⟩
def dYes : DT := fun S Q => Q true S
section
variable {c : Ct} {K : PySem.W.Frag} {mg : MG}
theorem loose_sub {σ σ2 : Sig} {S S2 : DS} {b : Addr} (h : Loose σ S b) (k : ∀ i : Nat, isOwn S2.sl[i]? → isOwn S.sl[i]? ∧ σ2[i]? = σ[i]?) : Loose σ2 S2 b := fun i o e => by
  obtain ⟨h1, h2⟩ := k i o
  rw [h2] at e
  exact h i h1 e
theorem simLcAt {wi : TI} {di : DI} {t : TG} {gd : D → Option (List (Nat × D))} {ws : List Nat} {tt : TT} {dt : DT} {te : TE} {de : DE} {vs : List Nat} {σ : Sig} {G H : Hp} {S : DS} (R : Rp c K mg σ G H S)
    (hi : ∀ (Qd : List D → DS → Prop) (Rr : It → Hp → Prop), (∀ J H', (∃ G' S' items, Aft c K mg σ G H S H' G' S' ∧ Yl c.T K mg J G' S'.n items ∧ Qd items S') → Rr J H') → di S Qd → wi σ H Rr)
    (hg : SimGc K mg t gd ws) (ht : SimT c K mg tt dt) (he : SimE c K mg te de) (hw : ∀ i ∈ ws, i ∈ vs) :
    ∀ Qd Q, (∀ v H', WE c K mg σ G H S Qd v H' → Q v H') → dLc di gd dt de vs S Qd → tLc wi t tt te vs σ H Q := by
  intro Qd Q hQ h
  refine hi _ _ (fun J H1 ⟨G1, S1, items, A, Y, q⟩ => ?_) h
  obtain ⟨hv, q⟩ := q
  intro P nP
  have nv : ∀ i ∈ vs, ¬ isOwn S1.sl[i]? := fun i hi z => by
    have e := hv i hi
    rw [ownB_iff.mpr z] at e
    cases e
  have gP : G1 P = none := A.rp.gnone nP
  have hP0 : c.G0 P = none → c.H0 P = none := A.rp.old nP
  have loP : Loose σ S1 P := fun i o e => by
    have z := A.rp.slots i
    cases hq : S1.sl[i]? with
    | none => rw [hq] at o; exact o
    | some w =>
      cases w with
      | none => rw [hq] at o; exact o
      | some w =>
        rw [hq] at o z
        cases w with
        | p d => exact o
        | ol l =>
          obtain ⟨a', e', _, _, xs, h3, _⟩ := z
          rw [e] at e'
          cases e'
          rw [nP] at h3
          cases h3
        | od l =>
          obtain ⟨a', e', _, _, xs, h3, _⟩ := z
          rw [e] at e'
          cases e'
          rw [nP] at h3
          cases h3
        | ot l =>
          obtain ⟨a', e', _, _, xs, h3, _⟩ := z
          rw [e] at e'
          cases e'
          rw [nP] at h3
          cases h3
  let sl0 := wipeD S1.sl vs
  -- what holds ahead of the turn i
  let Inv : Nat → Hp → Prop := fun i H' => ∃ (G' : Hp) (n : Nat) (xs : List V) (acc : List D), Aft c K mg σ G1 H1 S1 H' G' ⟨S1.sl, n⟩ ∧ G' P = none ∧ H' P = some (.lst xs) ∧ RepAll K mg G' n xs acc ∧
    dComp gd dt de sl0 (items.drop i) acc n fun acc n => Qd (.lst acc) ⟨S1.sl, n⟩
  have A0 : Aft c K mg σ G1 H1 S1 (upd H1 P (.lst [])) G1 ⟨S1.sl, S1.n⟩ := ⟨by show Le c.T (S1.n - S1.n) G1 G1; rw [Nat.sub_self]; exact .refl _ _, Nat.le_refl _, A.rp.hide nP pl_lst, fun b o h n l => ⟨by rw [upd_ne (ne_of_none h nP)]; exact h, n, l⟩⟩
  refine ⟨fun i m H' => m = items.length - i ∧ i ≤ items.length ∧ Inv i H', ⟨items.length, by omega, Nat.zero_le _, G1, S1.n, [], [], A0, gP, upd_same, .nil, q⟩, fun i m H' hW => ?_⟩
  obtain ⟨em, hi, G', n, xs, acc, A', gP', hP', ra, q'⟩ := hW
  have R' := A'.rp
  have fixed : ∀ (l : List (Nat × D)) (i : Nat), (∀ p ∈ l, p.1 ∈ ws) → i ∉ vs → (setsD sl0 l)[i]? = S1.sl[i]? := fun l i hl hiv => by
    rw [setsD_at (i := i) fun p hp e => hiv (by rw [← e]; exact hw _ (hl p hp))]
    exact wipeD_at hiv
  have ownAt : ∀ (l : List (Nat × D)) (j : Nat), (∀ p ∈ l, p.1 ∈ ws) → isOwn (setsD sl0 l)[j]? → j ∉ vs := fun l j hl o hj => by
    have key : ∀ (l : List (Nat × D)) (sl : List (Option SV)), ¬ isOwn sl[j]? → ¬ isOwn (setsD sl l)[j]? := by
      intro l
      induction l with
      | nil => intro sl h; exact h
      | cons p l ih =>
        intro sl h
        refine ih (sl.set p.1 (some (.p p.2))) fun z => ?_
        by_cases hp : p.1 = j
        · subst hp
          by_cases hlt : p.1 < sl.length
          · rw [List.getElem?_set_self hlt] at z
            exact z
          · rw [List.getElem?_eq_none (by simpa using hlt)] at z
            exact z
        · rw [List.getElem?_set_ne hp] at z
          exact h z
    refine key l sl0 (fun z => ?_) o
    have wiped : ∀ (us : List Nat), j ∈ us → ¬ isOwn (wipeD S1.sl us)[j]? := by
      intro us
      induction us with
      | nil => intro z; cases z
      | cons u us ih =>
        intro hm z
        have z' : isOwn ((wipeD S1.sl us).set u none)[j]? := z
        by_cases hu : u = j
        · subst hu
          by_cases hlt : u < (wipeD S1.sl us).length
          · rw [List.getElem?_set_self hlt] at z'
            exact z'
          · rw [List.getElem?_eq_none (by simpa using hlt)] at z'
            exact z'
        · rw [List.getElem?_set_ne hu] at z'
          exact ih ((List.mem_cons.mp hm).resolve_left (Ne.symm hu)) z'
    exact wiped vs hj z
  by_cases hlt : i < items.length
  · have hd : items[i]? = some items[i] := List.getElem?_eq_getElem hlt
    have ed : items.drop i = items[i] :: items.drop (i + 1) := List.drop_eq_getElem_cons hlt
    rw [ed] at q'
    obtain ⟨hz, l, el, q'⟩ := q'
    obtain ⟨go, y⟩ := Y.go i G' H' n _ R'.sub A'.le A'.nle hd
    refine .inr ⟨go, Inv (i + 1), fun H2 hN => ⟨items.length - (i + 1), by omega, rfl, hlt, hN⟩, fun x H2 hy => ?_⟩
    obtain ⟨G2, gw, rx⟩ := y x H2 hy
    have R2 := R'.gw0 gw
    have A2 : Aft c K mg σ G' H' ⟨S1.sl, n⟩ H2 G2 ⟨S1.sl, n⟩ := Aft.gw0 R' gw
    have gP2 : G2 P = none := gw.apart hP' gP'
    have hP2 : H2 P = some (.lst xs) := gw.hid _ _ hP' gP'
    obtain ⟨hl, hg'⟩ := hg (L2.wipe σ vs) G2 H2 n x items[i] l (fun σ2 H3 => L2.wipe σ2 vs = L2.wipe σ vs ∧ tt σ2 H3 fun b H4 => if b = true then te σ2 H4 fun y H5 => ∃ acc, H5 P = some (.lst acc) ∧ acc.length < sizeLine ∧ Inv (i + 1) (upd H5 P (.lst (acc ++ [y]))) else Inv (i + 1) H4) R2.sub rx el
    refine hg' fun vl rl => ?_
    have vlw : ∀ p ∈ vl, p.1 ∈ vs := fun p hp => by
      have z : p.1 ∈ vl.map (·.1) := List.mem_map.mpr ⟨p, hp, rfl⟩
      rw [repS_fst rl] at z
      obtain ⟨p', h1, h2⟩ := List.mem_map.mp z
      rw [← h2]
      exact hw _ (hl p' h1)
    refine ⟨?_, ?_⟩
    · rw [wipe_setsV vlw, wipe_wipe vs fun i hi => hi]
    have σat : ∀ j, j ∉ vs → (DL.setsV (L2.wipe σ vs) vl)[j]? = σ[j]? := fun j hj => by
      rw [setsV_at (i := j) fun p hp e => hj (by rw [← e]; exact vlw p hp)]
      exact wipe_at hj
    have RB : Rp c K mg (DL.setsV (L2.wipe σ vs) vl) G2 H2 ⟨setsD sl0 l, n⟩ := Rp.setsV (Rp.wipe R2 vs) rl
    have loB : ∀ b, Loose σ ⟨S1.sl, n⟩ b → Loose (DL.setsV (L2.wipe σ vs) vl) ⟨setsD sl0 l, n⟩ b := fun b h => loose_sub h fun j o => by
      have hj := ownAt l j hl o
      exact ⟨by rw [← fixed l j hl hj]; exact o, σat j hj⟩
    -- from the block's state back to the def's
    have back : ∀ {G3 H3 : Hp} {S3 : DS}, Aft c K mg (DL.setsV (L2.wipe σ vs) vl) G2 H2 ⟨setsD sl0 l, n⟩ H3 G3 S3 → S3.sl = setsD sl0 l →
        Aft c K mg σ G1 H1 S1 H3 G3 ⟨S1.sl, S3.n⟩ ∧ G3 P = none ∧ H3 P = some (.lst xs) ∧ RepAll K mg G3 S3.n xs acc := fun {G3 H3 S3} B e => by
      obtain ⟨sl3, n3⟩ := S3
      have e' : sl3 = setsD sl0 l := e
      subst e'
      have RR : Rp c K mg σ G3 H3 ⟨S1.sl, n3⟩ := Rp.back (S := ⟨S1.sl, n⟩) (vs := vs) R2 B.le B.nle B.rp σat (fun j hj => fixed l j hl hj) nv
      have AA : Aft c K mg σ G2 H2 ⟨S1.sl, n⟩ H3 G3 ⟨S1.sl, n3⟩ := ⟨B.le, B.nle, RR, fun b o h1 h2 h3 => by
        obtain ⟨k1, k2, _⟩ := B.hid b o h1 h2 (loB b h3)
        exact ⟨k1, k2, h3⟩⟩
      obtain ⟨k1, k2, k3⟩ := AA.hid P _ hP2 gP2 loP
      exact ⟨(A'.trans A2).trans AA, k2, k1, AA.repAll (A2.repAll ra)⟩
    refine ht _ G2 H2 ⟨setsD sl0 l, n⟩ _ _ RB (fun b H3 ⟨G3, S3, B3, q3⟩ => ?_) q'
    obtain ⟨e3, q3⟩ := q3
    cases b with
    | false =>
      rw [if_neg Bool.false_ne_true] at q3 ⊢
      obtain ⟨k1, k2, k3, k4⟩ := back B3 e3
      exact ⟨G3, S3.n, xs, acc, k1, k2, k3, k4, q3⟩
    | true =>
      rw [if_pos rfl] at q3 ⊢
      refine he _ G3 H3 S3 _ _ B3.rp (fun v H4 ⟨G4, S4, d, B4, r4, q4⟩ => ?_) q3
      obtain ⟨e4, q4⟩ := q4
      obtain ⟨k1, k2, k3, k4⟩ := back (B3.trans B4) e4
      refine ⟨xs, k3, by rw [k4.length, sizeLine_eq]; exact hz, G4, S4.n, xs ++ [v], acc ++ [d], ?_, k2, upd_same, k4.append (.one r4), q4⟩
      refine ⟨k1.le, k1.nle, k1.rp.poke k2 hP0 pl_lst loP, fun b o h1 h2 h3 => ?_⟩
      obtain ⟨j1, j2, j3⟩ := k1.hid b o h1 h2 h3
      exact ⟨by rw [upd_ne (ne_of_none h1 nP)]; exact j1, j2, j3⟩
  · have e : i = items.length := by omega
    subst e
    refine .inl ⟨Y.stop _ G' H' n R'.sub A'.le A'.nle rfl, ?_⟩
    rw [List.drop_length] at q'
    have sm : Same G' (upd G' P (.lst xs)) := fun b w e => by
      rw [upd_ne (ne_of_none e gP')]
      exact e
    have A3 : Aft c K mg σ G1 H1 S1 H' (upd G' P (.lst xs)) ⟨S1.sl, n⟩ := ⟨by
      have z := A'.le.trans (Le.same (T := c.T) sm)
      exact z, A'.nle, R'.adopt gP' hP0 loP hP', fun b o h1 h2 h3 => by
      obtain ⟨j1, j2, j3⟩ := A'.hid b o h1 h2 h3
      exact ⟨j1, by rw [upd_ne (ne_of_none h1 nP)]; exact j2, j3⟩⟩
    exact hQ _ _ ⟨_, ⟨S1.sl, n⟩, .lst acc, A.trans A3, .lst (.inl (.inl upd_same)) (ra.same sm), q'⟩
theorem simLc {wi : TI} {di : DI} {t : TG} {gd : D → Option (List (Nat × D))} {ws : List Nat} {tt : TT} {dt : DT} {te : TE} {de : DE} {vs : List Nat} (hi : SimI c K mg wi di) (hg : SimGc K mg t gd ws) (ht : SimT c K mg tt dt) (he : SimE c K mg te de) (hw : ∀ i ∈ ws, i ∈ vs) :
    SimE c K mg (tLc wi t tt te vs) (dLc di gd dt de vs) := fun σ G H S Qd Q R hQ h => simLcAt R (fun Qd Rr => hi σ G H S Qd Rr R) hg ht he hw Qd Q hQ h
end
/-! ### the rules -/
/-- the weakest reading -/
def canE (c : Ct) (K : PySem.W.Frag) (mg : MG) (de : DE) : TE := fun σ H Q => ∃ G S Qd, Rp c K mg σ G H S ∧ (∀ v H', WE c K mg σ G H S Qd v H' → Q v H') ∧ de S Qd
def canT (c : Ct) (K : PySem.W.Frag) (mg : MG) (de : DT) : TT := fun σ H Q => ∃ G S Qd, Rp c K mg σ G H S ∧ (∀ v H', WT c K mg σ G H S Qd v H' → Q v H') ∧ de S Qd
section
variable {c : Ct} {X : Cx}
theorem sim_canE {K : PySem.W.Frag} {mg : MG} {de : DE} : SimE c K mg (canE c K mg de) de := fun σ G H S Qd Q R hQ h => ⟨G, S, Qd, R, hQ, h⟩
theorem sim_canT {K : PySem.W.Frag} {mg : MG} {de : DT} : SimT c K mg (canT c K mg de) de := fun σ G H S Qd Q R hQ h => ⟨G, S, Qd, R, hQ, h⟩
theorem PDE.can {e : Expr} {de : DE} (h : PDE c X e de) : PE X e (canE c X.K X.mg de) := by
  obtain ⟨te, h1, h2⟩ := h
  refine ⟨fun pins s σ H Q I hq => ?_⟩
  obtain ⟨G, S, Qd, R, hQ, hd⟩ := hq
  exact h1.run pins s σ H Q I (h2 σ G H S Qd Q R hQ hd)
theorem PDT.can {e : Expr} {de : DT} (h : PDT c X e de) : PT X e (canT c X.K X.mg de) := by
  obtain ⟨te, h1, h2⟩ := h
  refine ⟨fun pins s σ H Q I hq => ?_⟩
  obtain ⟨G, S, Qd, R, hQ, hd⟩ := hq
  exact h1.run pins s σ H Q I (h2 σ G H S Qd Q R hQ hd)
def PDTs (c : Ct) (X : Cx) (ifs : List Expr) (dt : DT) : Prop := PTs X ifs (canT c X.K X.mg dt)
theorem pdts_nil : PDTs c X [] dYes := by
  refine ⟨fun pins s σ H Q I hq => ?_⟩
  obtain ⟨G, S, Qd, R, hQ, hd⟩ := hq
  exact pts_nil.run pins s σ H Q I (hQ true H ⟨G, S, .refl R, hd⟩)
theorem pdts_one {e : Expr} {dt : DT} (h : PDT c X e dt) : PDTs c X [e] dt := pts_one h.can
abbrev Blk (X : Cx) (scope : Scope) (s : Shared) (H : Hp) (C : Addr) (cl : List (Str × Addr)) (fp : List Addr) : Cx := X.blk s H scope (compEnvC scope cl C X.env) fp
/-- [elt for x in iter ifs], x in slot i -/
theorem pd_lc {i : Nat} {x : Str} {elt iter : Expr} {ifs : List Expr} {scope : Scope} {pos p : Pos} {di : DI} {dt : DT} {de : DE} (hc : X.calm = true) (hN : X.N.Nodup) (hi : PDI c X (.Name x p) iter di) (ok : BlkOk X.N X.env.scope scope [(x, i)])
    (hg : ∀ s H C cl fp, PG (Blk X scope s H C cl fp) (.Name x p) (gName i)) (ht : ∀ s H C cl fp, PDTs c (Blk X scope s H C cl fp) ifs dt) (he : ∀ s H C cl fp, PDE c (Blk X scope s H C cl fp) elt de) (hs : ∀ x, foldedSetIterable iter X.env x = pure x := by intro _; rfl) :
    PDE c X (.ListComp elt [⟨.Name x p, iter, ifs, 0⟩] scope pos) (dLc di (fun d => some [(i, d)]) dt de [i]) := by
  obtain ⟨wi, i1, i2⟩ := hi
  exact ⟨_, pe_lc (tt := canT c X.K X.mg dt) hc hN i1 ok hg (fun s H C cl fp => ht s H C cl fp) (fun s H C cl fp => (he s H C cl fp).can) hs, simLc i2 (simGc_name i) sim_canT sim_canE fun _ h => h⟩
/-- [elt for x, y in iter ifs] -/
theorem pd_lcP {i j : Nat} {x y : Str} {elt iter : Expr} {ifs : List Expr} {scope : Scope} {pos p q r : Pos} {kk : Nat} {di : DI} {dt : DT} {de : DE} (hc : X.calm = true) (hN : X.N.Nodup) (hi : PDI c X (.Tuple [.Name x p, .Name y q] kk r) iter di) (ok : BlkOk X.N X.env.scope scope [(x, i), (y, j)])
    (hg : ∀ s H C cl fp, PG (Blk X scope s H C cl fp) (.Tuple [.Name x p, .Name y q] kk r) (gTup X.K 2 (gCons (gName i) (gCons (gName j) gNil)))) (ht : ∀ s H C cl fp, PDTs c (Blk X scope s H C cl fp) ifs dt) (he : ∀ s H C cl fp, PDE c (Blk X scope s H C cl fp) elt de) (hs : ∀ x, foldedSetIterable iter X.env x = pure x := by intro _; rfl) :
    PDE c X (.ListComp elt [⟨.Tuple [.Name x p, .Name y q] kk r, iter, ifs, 0⟩] scope pos) (dLc di (gdPair i j) dt de [i, j]) := by
  obtain ⟨wi, i1, i2⟩ := hi
  exact ⟨_, pe_lc (tt := canT c X.K X.mg dt) hc hN i1 ok hg (fun s H C cl fp => ht s H C cl fp) (fun s H C cl fp => (he s H C cl fp).can) hs, simLc i2 (simGc_pair i j) sim_canT sim_canE fun _ h => h⟩
/-- y = [elt for x in iter ifs] -/
theorem pds_setLc {i k : Nat} {x y : Str} {elt iter : Expr} {ifs : List Expr} {scope : Scope} {pos p py spos : Pos} {di : DI} {dt : DT} {de : DE} (hc : X.calm = true) (hN : X.N.Nodup) (hy : X.N[k]? = some y) (hyl : X.env.scope.names.lookup y = some .local)
    (hsw : swapsWith (.ListComp elt [⟨.Name x p, iter, ifs, 0⟩] scope pos) (some (.Name y py)) spos.line X.env = pure true) (hi : PDI c X (.Name x p) iter di) (ok : BlkOk X.N X.env.scope scope [(x, i)])
    (hg : ∀ s H C cl fp, PG (Blk X scope s H C cl fp) (.Name x p) (gName i)) (ht : ∀ s H C cl fp, PDTs c (Blk X scope s H C cl fp) ifs dt) (he : ∀ s H C cl fp, PDE c (Blk X scope s H C cl fp) elt de) (hs : ∀ x, foldedSetIterable iter X.env x = pure x := by intro _; rfl) :
    PDS c X (.Assign [.Name y py] (.ListComp elt [⟨.Name x p, iter, ifs, 0⟩] scope pos) spos) (dAsg k (dLc di (fun d => some [(i, d)]) dt de [i])) := by
  obtain ⟨wi, i1, i2⟩ := hi
  exact ⟨_, ps_setLc (tt := canT c X.K X.mg dt) hc hN hy hyl hsw i1 ok hg (fun s H C cl fp => ht s H C cl fp) (fun s H C cl fp => (he s H C cl fp).can) hs, simAsg k (simLc i2 (simGc_name i) sim_canT sim_canE fun _ h => h)⟩
theorem pds_setLcP {i j k : Nat} {x x2 y : Str} {elt iter : Expr} {ifs : List Expr} {scope : Scope} {pos p q r py spos : Pos} {kk : Nat} {di : DI} {dt : DT} {de : DE} (hc : X.calm = true) (hN : X.N.Nodup) (hy : X.N[k]? = some y) (hyl : X.env.scope.names.lookup y = some .local)
    (hsw : swapsWith (.ListComp elt [⟨.Tuple [.Name x p, .Name x2 q] kk r, iter, ifs, 0⟩] scope pos) (some (.Name y py)) spos.line X.env = pure true) (hi : PDI c X (.Tuple [.Name x p, .Name x2 q] kk r) iter di) (ok : BlkOk X.N X.env.scope scope [(x, i), (x2, j)])
    (hg : ∀ s H C cl fp, PG (Blk X scope s H C cl fp) (.Tuple [.Name x p, .Name x2 q] kk r) (gTup X.K 2 (gCons (gName i) (gCons (gName j) gNil)))) (ht : ∀ s H C cl fp, PDTs c (Blk X scope s H C cl fp) ifs dt) (he : ∀ s H C cl fp, PDE c (Blk X scope s H C cl fp) elt de) (hs : ∀ x, foldedSetIterable iter X.env x = pure x := by intro _; rfl) :
    PDS c X (.Assign [.Name y py] (.ListComp elt [⟨.Tuple [.Name x p, .Name x2 q] kk r, iter, ifs, 0⟩] scope pos) spos) (dAsg k (dLc di (gdPair i j) dt de [i, j])) := by
  obtain ⟨wi, i1, i2⟩ := hi
  exact ⟨_, ps_setLc (tt := canT c X.K X.mg dt) hc hN hy hyl hsw i1 ok hg (fun s H C cl fp => ht s H C cl fp) (fun s H C cl fp => (he s H C cl fp).can) hs, simAsg k (simLc i2 (simGc_pair i j) sim_canT sim_canE fun _ h => h)⟩
end
end DL
set_option maxHeartbeats 1000000
namespace DL
open PySem PySem.Spec PyProof.Rows L2
/-! ### objects of one's own -/
theorem nOl {l : List D} : ∀ d, SV.ol l ≠ .p d := fun _ z => nomatch z
theorem nOd {l : List (Key × D)} : ∀ d, SV.od l ≠ .p d := fun _ z => nomatch z
def WF (c : Ct) (K : PySem.W.Frag) (mg : MG) (σ : Sig) (G H : Hp) (S : DS) (Qd : SV → DS → Prop) : VK := fun v H' => ∃ (p : Addr) (H1 : Hp) (o : HO) (u : SV) (G1 : Hp) (S1 : DS), v = .ref p ∧ H1 p = none ∧ H' = upd H1 p o ∧ Aft c K mg σ G H S H1 G1 S1 ∧
  (∀ H2 : Hp, H2 p = some o → Owns K mg c G1 H2 S1.n p u) ∧ (∀ d, u ≠ .p d) ∧ Qd u S1
abbrev DF := DS → (SV → DS → Prop) → Prop
def SimF (c : Ct) (K : PySem.W.Frag) (mg : MG) (te : TE) (df : DF) : Prop := ∀ σ G H S Qd Q, Rp c K mg σ G H S → (∀ v H', WF c K mg σ G H S Qd v H' → Q v H') → df S Qd → te σ H Q
def PDF (c : Ct) (X : Cx) (e : Expr) (df : DF) : Prop := ∃ te, PE X e te ∧ SimF c X.K X.mg te df
section
variable {c : Ct} {K : PySem.W.Frag} {mg : MG} {σ : Sig} {G H G' H' : Hp} {S S' : DS}
theorem Rp.fresh_loose (R : Rp c K mg σ G H S) {P : Addr} (nP : H P = none) : Loose σ S P := fun i o e => by
  have z := R.slots i
  cases hq : S.sl[i]? with
  | none => rw [hq] at o; exact o
  | some w =>
    cases w with
    | none => rw [hq] at o; exact o
    | some w =>
      rw [hq] at o z
      cases w with
      | p d => exact o
      | ol l =>
        obtain ⟨a', e', _, _, xs, h3, _⟩ := z
        rw [e] at e'
        cases e'
        rw [nP] at h3
        cases h3
      | od l =>
        obtain ⟨a', e', _, _, xs, h3, _⟩ := z
        rw [e] at e'
        cases e'
        rw [nP] at h3
        cases h3
      | ot l =>
        obtain ⟨a', e', _, _, xs, h3, _⟩ := z
        rw [e] at e'
        cases e'
        rw [nP] at h3
        cases h3
theorem Owns.aft (A : Aft c K mg σ G H S H' G' S') {a : Addr} {o : HO} {u : SV} (ho : ∀ H2 : Hp, H2 a = some o → Owns K mg c G H2 S.n a u) (hg : G' a = none) : ∀ H2 : Hp, H2 a = some o → Owns K mg c G' H2 S'.n a u := fun H2 e => by
  have z := ho H2 e
  cases u with
  | p d => exact z
  | ol l =>
    obtain ⟨h1, h2, xs, h3, h4⟩ := z
    exact ⟨hg, h2, xs, h3, A.repAll h4⟩
  | od l =>
    obtain ⟨h1, h2, xs, h3, h4⟩ := z
    exact ⟨hg, h2, xs, h3, h4.up A.le (by have := A.nle; omega)⟩
  | ot l =>
    obtain ⟨h1, h2, xs, h3, h4⟩ := z
    exact ⟨hg, h2, xs, h3, h4.up A.le (by have := A.nle; omega)⟩
theorem owns_ol {p : Addr} {xs : List V} {l : List D} {n : Nat} (R : Rp c K mg σ G H S) (np : H p = none) (r : RepAll K mg G n xs l) : ∀ H2 : Hp, H2 p = some (.lst xs) → Owns K mg c G H2 n p (.ol l) := fun H2 e => ⟨R.gnone np, R.old np, xs, e, r⟩
end
section
variable {c : Ct} {X : Cx} {e : Expr} {es : List Expr} {ds : DA} {de : DE} {pos : Pos}
def dfLst (t : DA) : DF := fun S Q => t S fun xs S1 => xs.length ≤ 16777216 ∧ Q (.ol xs) S1
theorem pdf_lst (h : PDA c X es ds) : PDF c X (.List es pos) (dfLst ds) := by
  obtain ⟨ta, a1, a2⟩ := h
  refine ⟨_, pe_lst a1, fun σ G H S Qd Q R hQ h => ?_⟩
  refine a2 σ G H S _ _ R (fun xs H1 ⟨G1, S1, dx, A1, r1, h1⟩ => ?_) h
  obtain ⟨hz, h1⟩ := h1
  refine ⟨by rw [r1.length, sizeLine_eq]; exact hz, fun p np => ?_⟩
  exact hQ _ _ ⟨p, H1, _, .ol dx, G1, S1, rfl, np, rfl, A1, owns_ol A1.rp np r1, nOl, h1⟩
def dfRep (t : DA) (db : DE) : DF := fun S Q => t S fun xs S1 => xs.length ≤ 16777216 ∧ db S1 fun y S2 => ∃ k, y = .int k ∧ -(2 ^ 63) ≤ k ∧ k < 2 ^ 63 ∧ xs.length * k.toNat ≤ 16777216 ∧ Q (.ol (List.replicate k.toNat xs).flatten) S2
theorem pdf_rep {b : Expr} {db : DE} {p1 : Pos} (ha : PDA c X es ds) (hb : PDE c X b db) : PDF c X (.BinOp (.List es p1) .Mult b pos) (dfRep ds db) := by
  obtain ⟨ta, a1, a2⟩ := ha
  obtain ⟨tb, b1, b2⟩ := hb
  refine ⟨_, pe_op op_rep (pe_lst a1) b1, fun σ G H S Qd Q R hQ h => ?_⟩
  refine a2 σ G H S _ _ R (fun vs H1 ⟨G1, S1, ds, A1, r1, h1⟩ => ?_) h
  obtain ⟨hz, h1⟩ := h1
  refine ⟨by rw [r1.length, sizeLine_eq]; exact hz, fun p np => ?_⟩
  have A2 := Aft.gw0 A1.rp (.alloc (o := .lst vs) A1.rp.sub np)
  refine b2 σ _ _ S1 _ _ A2.rp (fun v H3 ⟨G3, S3, dy, A3, r3, h3⟩ => ?_) h1
  obtain ⟨k, ek, k1, k2, k3, h3⟩ := h3
  subst ek
  cases r3
  have hp : G3 p = some (.lst vs) := A3.le.keep p _ upd_same firm_lst
  refine ⟨p, k, vs, rfl, rfl, A3.rp.sub _ _ hp, k1, k2, by rw [r1.length, sizeLine_eq]; exact k3, fun q nq => ?_⟩
  exact hQ _ _ ⟨q, H3, _, .ol _, G3, S3, rfl, nq, rfl, (A1.trans A2).trans A3, owns_ol A3.rp nq (repAll_flat (A3.repAll (A2.repAll r1)) k.toNat), nOl, h3⟩
/-- list(x) -/
def dfList (t : DA) : DF := fun S Q => t S fun xs S1 => ∃ x l, xs = [x] ∧ itemsOf x = some l ∧ Q (.ol l) S1
theorem pdf_list {p : Pos} (hg : Gl X "list") (hm : X.mg "list" = none) (ha : PDA c X (e :: es) ds) (he : starEach (e :: es) X.env = (false, eval e X.env) :: starEach es X.env := by rfl) (hpl : (backTo pos (starEach es X.env)).any (·.1) = false := by rfl) :
    PDF c X (.Call (.Name "list" p) (e :: es) [] pos) (dfList ds) := by
  obtain ⟨ta, a1, a2⟩ := ha
  refine ⟨_, pe_callTy call_list_of hg hm (by decide +kernel) a1 (by decide) (by decide) he hpl, fun σ G H S Qd Q R hQ h => ?_⟩
  refine a2 σ G H S _ _ R (fun vs H1 ⟨G1, S1, ds, A1, r1, h1⟩ => ?_) h
  obtain ⟨x, l, e1, e2, h1⟩ := h1
  subst e1
  obtain ⟨v, ev, rv⟩ := rep1 r1
  subst ev
  unfold itemsOf at e2
  split at e2
  · cases e2
    cases rv with
    | lst h a => exact ⟨_, _, rfl, .inl (sqL_sub A1.rp.sub h), fun q nq => hQ _ _ ⟨q, H1, _, .ol _, G1, S1, rfl, nq, rfl, A1, owns_ol A1.rp nq a, nOl, h1⟩⟩
  · cases e2
    cases rv with
    | tup h a => exact ⟨_, _, rfl, .inr (sqT_sub A1.rp.sub h), fun q nq => hQ _ _ ⟨q, H1, _, .ol _, G1, S1, rfl, nq, rfl, A1, owns_ol A1.rp nq a, nOl, h1⟩⟩
  · cases e2
/-- {} -/
def dfDict : DF := fun S Q => Q (.od []) S
theorem pdf_dict : PDF c X (.Dict [] [] pos) dfDict :=
  ⟨_, pe_dnewK, fun σ G H S Qd Q R hQ h p np => hQ _ _ ⟨p, H, _, .od [], G, S, rfl, np, rfl, .refl R, fun H2 e => ⟨R.gnone np, R.old np, [], e, .nil⟩, nOd, h⟩⟩
/-- x = a new object of one's own -/
def dOwn (i : Nat) (df : DF) : DSt := fun B S => df S fun u S1 => B.nx { S1 with sl := S1.sl.set i (some u) }
theorem pds_own {i : Nat} {x : Str} {p : Pos} {df : DF} (hN : X.N.Nodup) (hi : X.N[i]? = some x) (hx : Loc X.env.scope x) (he : PDF c X e df) (hs : swapsWith e (some (.Name x p)) pos.line X.env = pure false := by rfl) (hf : X.fn x = true ∨ X.env.scope.names.lookup x = some .local := by first | exact .inl rfl | exact .inr rfl | assumption) :
    PDS c X (.Assign [.Name x p] e pos) (dOwn i df) := by
  obtain ⟨a, a1, a2⟩ := he
  refine ⟨_, ps_set hN hi hx a1 hs hf, fun σ G H S B E R h1 h2 h3 h4 h => ?_⟩
  refine a2 σ G H S _ _ R (fun v H' ⟨q, H1, o, u, G1, S1, ev, nq, eH, A, ho, hu, hq⟩ => ?_) h
  subst ev eH
  have R1 : Rp c X.K X.mg σ G1 (upd H1 q o) S1 := A.rp.hide nq (Owns.pl ho hu)
  exact h1 _ _ ⟨G1, _, R1.take (A.rp.fresh_loose nq) (ho _ upd_same) hu, A.le, A.nle, hq⟩
/-! ### two targets, objects of one's own among them -/
def dParFF (i j : Nat) (da db : DF) : DSt := fun B S => da S fun u S1 => db S1 fun w S2 => B.nx { S2 with sl := (S2.sl.set i (some u)).set j (some w) }
def dParFP (i j : Nat) (da : DF) (db : DE) : DSt := fun B S => da S fun u S1 => db S1 fun w S2 => B.nx { S2 with sl := (S2.sl.set i (some u)).set j (some (.p w)) }
def dParPF (i j : Nat) (da : DE) (db : DF) : DSt := fun B S => da S fun u S1 => db S1 fun w S2 => B.nx { S2 with sl := (S2.sl.set i (some (.p u))).set j (some w) }
theorem loose_set {σ : Sig} {S : DS} {i : Nat} {a b : Addr} {u : SV} (h : Loose σ S b) (ne : a ≠ b) : Loose (σ.set i (some (.ref a))) { S with sl := S.sl.set i (some u) } b := fun j o e => by
  by_cases hj : i = j
  · subst hj
    by_cases hl : i < σ.length
    · rw [List.getElem?_set_self hl] at e
      cases e
      exact ne rfl
    · rw [List.getElem?_eq_none (by simpa using hl)] at e
      cases e
  · have o' : isOwn (S.sl.set i (some u))[j]? := o
    rw [List.getElem?_set_ne hj] at o' e
    exact h j o' e
theorem loose_setP {σ : Sig} {S : DS} {i : Nat} {b : Addr} {v : V} {d : D} (h : Loose σ S b) (hl : σ.length = S.sl.length) : Loose (σ.set i (some v)) { S with sl := S.sl.set i (some (.p d)) } b := fun j o e => by
  have o' : isOwn (S.sl.set i (some (SV.p d)))[j]? := o
  by_cases hj : i = j
  · subst hj
    by_cases hl : i < S.sl.length
    · rw [List.getElem?_set_self hl] at o'
      exact o'
    · rw [List.getElem?_eq_none (by simpa using hl)] at o'
      exact o'
  · rw [List.getElem?_set_ne hj] at o' e
    exact h j o' e
section
variable {i j : Nat} {x y : Str} {a b : Expr} {px py pt : Pos} {kt k2 : Nat} {pt2 : Pos} {da db : DF} {ea eb : DE}
theorem pds_parFF (hc : X.calm = true) (hN : X.N.Nodup) (hi : X.N[i]? = some x) (hj : X.N[j]? = some y) (hij : i ≠ j)
    (hx : X.env.scope.names.lookup x = some .local) (hy : X.env.scope.names.lookup y = some .local) (ha : PDF c X a da) (hb : PDF c X b db)
    (hw : swappedStores [.Tuple [.Name x px, .Name y py] kt pt] (.Tuple [a, b] k2 pt2) X.env = pure (some [x, y]))
    (hs : swapsWithSole [.Tuple [.Name x px, .Name y py] kt pt] (.Tuple [a, b] k2 pt2) pos.line X.env = pure false := by rfl)
    (hs1 : starEach [a, b] X.env = (false, eval a X.env) :: starEach [b] X.env := by rfl) (hs2 : starEach [b] X.env = (false, eval b X.env) :: starEach [] X.env := by rfl) :
    PDS c X (.Assign [.Tuple [.Name x px, .Name y py] kt pt] (.Tuple [a, b] k2 pt2) pos) (dParFF i j da db) := by
  obtain ⟨ta, a1, a2⟩ := ha
  obtain ⟨tb, b1, b2⟩ := hb
  refine ⟨_, ps_par hc hN hi hj hij hx hy (pa_cons a1 (pa_cons b1 pa_nil hs2) hs1) hw hs, fun σ G H S B E R h1 h2 h3 h4 h => ?_⟩
  refine a2 σ G H S _ _ R (fun v H' ⟨q, H1, o, u, G1, S1, ev, nq, eH, A, ho, hu, hq⟩ => ?_) h
  subst ev eH
  have R1 : Rp c X.K X.mg σ G1 (upd H1 q o) S1 := A.rp.hide nq (Owns.pl ho hu)
  refine b2 σ G1 _ S1 _ _ R1 (fun w H3 ⟨q2, H2, o2, u2, G2, S2, ev2, nq2, eH2, A2, ho2, hu2, hq2⟩ => ?_) hq
  subst ev2 eH2
  obtain ⟨k1, k2, k3⟩ := A2.hid q o upd_same (A.rp.gnone nq) (A.rp.fresh_loose nq)
  have ne : q ≠ q2 := ne_of_none k1 nq2
  have R2 : Rp c X.K X.mg σ G2 (upd H2 q2 o2) S2 := A2.rp.hide nq2 (Owns.pl ho2 hu2)
  have o1 := Owns.aft A2 ho k2 (upd H2 q2 o2) (by rw [upd_ne ne]; exact k1)
  have R3 := R2.take (i := i) k3 o1 hu
  have R4 := R3.take (i := j) (p := q2) (u := u2) (loose_set (A2.rp.fresh_loose nq2) ne) (ho2 _ upd_same) hu2
  exact ⟨_, _, rfl, h1 _ _ ⟨G2, _, R4, le_trans' A.le A.nle A2.le A2.nle, Nat.le_trans A2.nle A.nle, hq2⟩⟩
theorem pds_parFP (hc : X.calm = true) (hN : X.N.Nodup) (hi : X.N[i]? = some x) (hj : X.N[j]? = some y) (hij : i ≠ j)
    (hx : X.env.scope.names.lookup x = some .local) (hy : X.env.scope.names.lookup y = some .local) (ha : PDF c X a da) (hb : PDE c X b eb)
    (hw : swappedStores [.Tuple [.Name x px, .Name y py] kt pt] (.Tuple [a, b] k2 pt2) X.env = pure (some [x, y]))
    (hs : swapsWithSole [.Tuple [.Name x px, .Name y py] kt pt] (.Tuple [a, b] k2 pt2) pos.line X.env = pure false := by rfl)
    (hs1 : starEach [a, b] X.env = (false, eval a X.env) :: starEach [b] X.env := by rfl) (hs2 : starEach [b] X.env = (false, eval b X.env) :: starEach [] X.env := by rfl) :
    PDS c X (.Assign [.Tuple [.Name x px, .Name y py] kt pt] (.Tuple [a, b] k2 pt2) pos) (dParFP i j da eb) := by
  obtain ⟨ta, a1, a2⟩ := ha
  obtain ⟨tb, b1, b2⟩ := hb
  refine ⟨_, ps_par hc hN hi hj hij hx hy (pa_cons a1 (pa_cons b1 pa_nil hs2) hs1) hw hs, fun σ G H S B E R h1 h2 h3 h4 h => ?_⟩
  refine a2 σ G H S _ _ R (fun v H' ⟨q, H1, o, u, G1, S1, ev, nq, eH, A, ho, hu, hq⟩ => ?_) h
  subst ev eH
  have R1 : Rp c X.K X.mg σ G1 (upd H1 q o) S1 := A.rp.hide nq (Owns.pl ho hu)
  refine b2 σ G1 _ S1 _ _ R1 (fun w H2 ⟨G2, S2, d, A2, r2, hq2⟩ => ?_) hq
  obtain ⟨k1, k2, k3⟩ := A2.hid q o upd_same (A.rp.gnone nq) (A.rp.fresh_loose nq)
  have o1 := Owns.aft A2 ho k2 H2 k1
  have R3 := A2.rp.take (i := i) k3 o1 hu
  have R4 := R3.set (i := j) (v := w) (d := d) r2
  exact ⟨_, _, rfl, h1 _ _ ⟨G2, _, R4, le_trans' A.le A.nle A2.le A2.nle, Nat.le_trans A2.nle A.nle, hq2⟩⟩
theorem pds_parPF (hc : X.calm = true) (hN : X.N.Nodup) (hi : X.N[i]? = some x) (hj : X.N[j]? = some y) (hij : i ≠ j)
    (hx : X.env.scope.names.lookup x = some .local) (hy : X.env.scope.names.lookup y = some .local) (ha : PDE c X a ea) (hb : PDF c X b db)
    (hw : swappedStores [.Tuple [.Name x px, .Name y py] kt pt] (.Tuple [a, b] k2 pt2) X.env = pure (some [x, y]))
    (hs : swapsWithSole [.Tuple [.Name x px, .Name y py] kt pt] (.Tuple [a, b] k2 pt2) pos.line X.env = pure false := by rfl)
    (hs1 : starEach [a, b] X.env = (false, eval a X.env) :: starEach [b] X.env := by rfl) (hs2 : starEach [b] X.env = (false, eval b X.env) :: starEach [] X.env := by rfl) :
    PDS c X (.Assign [.Tuple [.Name x px, .Name y py] kt pt] (.Tuple [a, b] k2 pt2) pos) (dParPF i j ea db) := by
  obtain ⟨ta, a1, a2⟩ := ha
  obtain ⟨tb, b1, b2⟩ := hb
  refine ⟨_, ps_par hc hN hi hj hij hx hy (pa_cons a1 (pa_cons b1 pa_nil hs2) hs1) hw hs, fun σ G H S B E R h1 h2 h3 h4 h => ?_⟩
  refine a2 σ G H S _ _ R (fun v H1 ⟨G1, S1, d, A, r1, hq⟩ => ?_) h
  refine b2 σ G1 H1 S1 _ _ A.rp (fun w H3 ⟨q2, H2, o2, u2, G2, S2, ev2, nq2, eH2, A2, ho2, hu2, hq2⟩ => ?_) hq
  subst ev2 eH2
  have R2 : Rp c X.K X.mg σ G2 (upd H2 q2 o2) S2 := A2.rp.hide nq2 (Owns.pl ho2 hu2)
  have R3 := R2.set (i := i) (A2.rep r1)
  have R4 := R3.take (i := j) (p := q2) (u := u2) (loose_setP (A2.rp.fresh_loose nq2) A2.rp.len) (ho2 _ upd_same) hu2
  exact ⟨_, _, rfl, h1 _ _ ⟨G2, _, R4, le_trans' A.le A.nle A2.le A2.nle, Nat.le_trans A2.nle A.nle, hq2⟩⟩
end
/-! ### append, pop, stores -/
def olAt (S : DS) (i : Nat) : Option (List D) := match S.sl[i]? with
  | some (some (.ol l)) => some l
  | _ => none
def odAt (S : DS) (i : Nat) : Option (List (Key × D)) := match S.sl[i]? with
  | some (some (.od l)) => some l
  | _ => none
section
variable {K : PySem.W.Frag} {mg : MG} {σ : Sig} {G H : Hp} {S : DS} {i : Nat}
theorem ol_get (R : Rp c K mg σ G H S) {l : List D} (h : olAt S i = some l) : ∃ a xs, S.sl[i]? = some (some (.ol l)) ∧ σ[i]? = some (some (.ref a)) ∧ G a = none ∧ (c.G0 a = none → c.H0 a = none) ∧ H a = some (.lst xs) ∧ RepAll K mg G S.n xs l := by
  unfold olAt at h
  split at h
  · rename_i e
    cases h
    have z := R.slots i
    rw [e] at z
    obtain ⟨a, e', h1, h2, xs, h3, h4⟩ := z
    exact ⟨a, xs, e, e', h1, h2, h3, h4⟩
  · cases h
theorem od_get (R : Rp c K mg σ G H S) {l : List (Key × D)} (h : odAt S i = some l) : ∃ a xs, S.sl[i]? = some (some (.od l)) ∧ σ[i]? = some (some (.ref a)) ∧ G a = none ∧ (c.G0 a = none → c.H0 a = none) ∧ H a = some (.dK xs) ∧ RepK K mg G S.n xs l := by
  unfold odAt at h
  split at h
  · rename_i e
    cases h
    have z := R.slots i
    rw [e] at z
    obtain ⟨a, e', h1, h2, xs, h3, h4⟩ := z
    exact ⟨a, xs, e, e', h1, h2, h3, h4⟩
  · cases h
/-- an own list, written -/
theorem Aft.put (R : Rp c K mg σ G H S) {a : Addr} {l l' : List D} {xs : List V} (hs : S.sl[i]? = some (some (.ol l))) (hσ : σ[i]? = some (some (.ref a))) (g : G a = none) (h0 : c.G0 a = none → c.H0 a = none) (r : RepAll K mg G S.n xs l') :
    Aft c K mg σ G H S (upd H a (.lst xs)) G { S with sl := S.sl.set i (some (.ol l')) } := by
  refine ⟨by show Le c.T (S.n - S.n) G G; rw [Nat.sub_self]; exact .refl _ _, Nat.le_refl _, R.put hs (fun _ z => nomatch z) (fun _ z => nomatch z) hσ fun H' e => ⟨g, h0, xs, e, r⟩, fun b o h1 h2 h3 => ?_⟩
  have ne : b ≠ a := fun z => by
    subst z
    exact h3 i (by rw [hs]; exact True.intro) hσ
  refine ⟨by rw [upd_ne ne]; exact h1, h2, fun j o e => ?_⟩
  have o' : isOwn (S.sl.set i (some (SV.ol l')))[j]? := o
  by_cases hj : i = j
  · subst hj
    rw [hσ] at e
    cases e
    exact ne rfl
  · rw [List.getElem?_set_ne hj] at o'
    exact h3 j o' e
theorem Aft.putD (R : Rp c K mg σ G H S) {a : Addr} {l l' : List (Key × D)} {xs : List (Key × V)} (hs : S.sl[i]? = some (some (.od l))) (hσ : σ[i]? = some (some (.ref a))) (g : G a = none) (h0 : c.G0 a = none → c.H0 a = none) (r : RepK K mg G S.n xs l') :
    Aft c K mg σ G H S (upd H a (.dK xs)) G { S with sl := S.sl.set i (some (.od l')) } := by
  refine ⟨by show Le c.T (S.n - S.n) G G; rw [Nat.sub_self]; exact .refl _ _, Nat.le_refl _, R.put hs (fun _ z => nomatch z) (fun _ z => nomatch z) hσ fun H' e => ⟨g, h0, xs, e, r⟩, fun b o h1 h2 h3 => ?_⟩
  have ne : b ≠ a := fun z => by
    subst z
    exact h3 i (by rw [hs]; exact True.intro) hσ
  refine ⟨by rw [upd_ne ne]; exact h1, h2, fun j o e => ?_⟩
  have o' : isOwn (S.sl.set i (some (SV.od l')))[j]? := o
  by_cases hj : i = j
  · subst hj
    rw [hσ] at e
    cases e
    exact ne rfl
  · rw [List.getElem?_set_ne hj] at o'
    exact h3 j o' e
end
def dAppend (i : Nat) (de : DE) : DE := fun S Q => ∃ l0, olAt S i = some l0 ∧ de S fun d S1 => ∃ l, olAt S1 i = some l ∧ l.length < 16777216 ∧ Q .non { S1 with sl := S1.sl.set i (some (.ol (l ++ [d]))) }
section
variable {i : Nat} {x : Str} {p apos cpos : Pos}
theorem pd_append (hN : X.N[i]? = some x) (hv : Vis X.env.scope x) (he : PDE c X e de)
    (hbase : attributeBase (.Name x p) "append" X.env (eval (.Name x p) X.env) = eval (.Name x p) X.env := by rfl)
    (hfew : ((backTo cpos (starEach (e :: []) X.env)).all (fun x => !x.1) && (backToKw cpos (keywordEach [] X.env)).all (fun x => x.1.isSome)
      && decide ((e :: []).length + ([] : List Keyword).length + (if ([] : List Keyword).isEmpty then 0 else 1) < 30)) = true := by rfl)
    (hline : (apos.endLine == cpos.line) = true := by rfl) (hs : starEach (e :: []) X.env = (false, eval e X.env) :: starEach [] X.env := by rfl)
    (hd : (x == ("__debug__" : Str)) = false := by decide) (hcd : (x == ("__classdict__" : Str)) = false := by decide) :
    PDE c X (.Call (.Attribute (.Name x p) "append" apos) [e] [] cpos) (dAppend i de) := by
  obtain ⟨te, e1, e2⟩ := he
  refine ⟨_, pe_bm PySem.F.plainAttrs_list PySem.F.slot_list_append PySem.F.type_list_append mt_append (pe_var hN hv hd hcd) (pa_cons e1 pa_nil hs) hbase hfew hline hs rfl, fun σ G H S Qd Q R hQ h => ?_⟩
  obtain ⟨l0, h0, h⟩ := h
  obtain ⟨a, xs0, q1, q2, q3, q4, q5, q6⟩ := ol_get R h0
  refine ⟨.ref a, q2, .inl ⟨rfl, _, SqL.of q5⟩, ?_⟩
  refine e2 σ G H S _ _ R (fun v H1 ⟨G1, S1, d, A, r, h1⟩ => ?_) h
  obtain ⟨l, hl, hz, h1⟩ := h1
  obtain ⟨a', xs, p1, p2, p3, p4, p5, p6⟩ := ol_get A.rp hl
  rw [q2] at p2
  cases p2
  refine ⟨a, xs, v, rfl, rfl, p5, by rw [p6.length, sizeLine_eq]; exact hz, ?_⟩
  have B := Aft.put A.rp p1 q2 p3 p4 (p6.append (.one r))
  exact hQ _ _ ⟨G1, _, .non, A.trans B, .non, h1⟩
def dPopAt (i : Nat) (de : DE) : DE := fun S Q => ∃ l0, olAt S i = some l0 ∧ de S fun k S1 => ∃ (l : List D) (ix : Int) (j : Nat) (d : D), olAt S1 i = some l ∧ k = .int ix ∧ -(2 ^ 63) ≤ ix ∧ ix < 2 ^ 63 ∧ seqIndex? ix l.length = some j ∧ l[j]? = some d ∧ Q d { S1 with sl := S1.sl.set i (some (.ol (l.eraseIdx j))) }
theorem repAll_erase {K : PySem.W.Frag} {mg : MG} {G : Hp} {n : Nat} : ∀ {vs : List V} {ds : List D} (j : Nat), RepAll K mg G n vs ds → RepAll K mg G n (vs.eraseIdx j) (ds.eraseIdx j)
  | _, _, _, .nil => .nil
  | _, _, 0, .cons a b => b
  | _, _, j + 1, .cons a b => .cons a (repAll_erase j b)
theorem pd_popAt (hN : X.N[i]? = some x) (hv : Vis X.env.scope x) (he : PDE c X e de)
    (hbase : attributeBase (.Name x p) "pop" X.env (eval (.Name x p) X.env) = eval (.Name x p) X.env := by rfl)
    (hfew : ((backTo cpos (starEach (e :: []) X.env)).all (fun x => !x.1) && (backToKw cpos (keywordEach [] X.env)).all (fun x => x.1.isSome)
      && decide ((e :: []).length + ([] : List Keyword).length + (if ([] : List Keyword).isEmpty then 0 else 1) < 30)) = true := by rfl)
    (hline : (apos.endLine == cpos.line) = true := by rfl) (hs : starEach (e :: []) X.env = (false, eval e X.env) :: starEach [] X.env := by rfl)
    (hd : (x == ("__debug__" : Str)) = false := by decide) (hcd : (x == ("__classdict__" : Str)) = false := by decide) :
    PDE c X (.Call (.Attribute (.Name x p) "pop" apos) [e] [] cpos) (dPopAt i de) := by
  obtain ⟨te, e1, e2⟩ := he
  refine ⟨_, pe_bm PySem.F.plainAttrs_list PySem.F.slot_list_pop PySem.F.type_list_pop mt_popAt (pe_var hN hv hd hcd) (pa_cons e1 pa_nil hs) hbase hfew hline hs rfl, fun σ G H S Qd Q R hQ h => ?_⟩
  obtain ⟨l0, h0, h⟩ := h
  obtain ⟨a, xs0, q1, q2, q3, q4, q5, q6⟩ := ol_get R h0
  refine ⟨.ref a, q2, .inl ⟨rfl, _, SqL.of q5⟩, ?_⟩
  refine e2 σ G H S _ _ R (fun v H1 ⟨G1, S1, d, A, r, h1⟩ => ?_) h
  obtain ⟨l, ix, j, d1, hl, ek, b1, b2, hj, hd1, h1⟩ := h1
  subst ek
  cases r
  obtain ⟨a', xs, p1, p2, p3, p4, p5, p6⟩ := ol_get A.rp hl
  rw [q2] at p2
  cases p2
  obtain ⟨y, ey, ry⟩ := p6.get hd1
  refine ⟨a, xs, ix, j, y, rfl, rfl, p5, b1, b2, by rw [p6.length]; exact hj, ey, ?_⟩
  have B := Aft.put A.rp p1 q2 p3 p4 (repAll_erase j p6)
  exact hQ _ _ ⟨G1, _, d1, A.trans B, B.rep ry, h1⟩
/-- x.extend(a list) -/
def dExtend (i : Nat) (de : DE) : DE := fun S Q => ∃ l0, olAt S i = some l0 ∧ de S fun d S1 => ∃ l r, olAt S1 i = some l ∧ d = .lst r ∧ l.length + r.length ≤ 16777216 ∧ Q .non { S1 with sl := S1.sl.set i (some (.ol (l ++ r))) }
/-- len(x), x one's own -/
def dLenOl (i : Nat) : DE := fun S Q => ∃ l, olAt S i = some l ∧ Q (.int l.length) S
theorem pd_lenOl {p2 : Pos} (hg : Gl X "len") (hm : X.mg "len" = none) (hN : X.N[i]? = some x) (hv : Vis X.env.scope x) (hs : starEach [.Name x p] X.env = (false, eval (.Name x p) X.env) :: starEach [] X.env := by rfl) (hpl : (backTo pos (starEach [] X.env)).any (·.1) = false := by rfl)
    (hd : (x == ("__debug__" : Str)) = false := by decide) (hcd : (x == ("__classdict__" : Str)) = false := by decide) : PDE c X (.Call (.Name "len" p2) [.Name x p] [] pos) (dLenOl i) := by
  refine ⟨_, pe_callB call_len_seq hg hm (by decide +kernel) (pa_cons (pe_var hN hv hd hcd) pa_nil hs) (by decide) (by decide) hs hpl, fun σ G H S Qd Q R hQ h => ?_⟩
  obtain ⟨l, hl, h⟩ := h
  obtain ⟨a, xs, q1, q2, q3, q4, q5, q6⟩ := ol_get R hl
  refine ⟨.ref a, q2, a, xs, rfl, .inl (SqL.of q5), ?_⟩
  rw [q6.length]
  exact hQ _ _ ⟨G, S, _, .refl R, .int _, h⟩
/-- x[k] = .., x a list of one's own -/
def dgSetIx (i : Nat) (dk : DE) : DG := fun d S Q => ∃ l0, olAt S i = some l0 ∧ dk S fun k S1 => ∃ (l : List D) (ix : Int) (j : Nat), olAt S1 i = some l ∧ k = .int ix ∧ ixN l.length ix = some j ∧ Q { S1 with sl := S1.sl.set i (some (.ol (l.set j d))) }
theorem pdg_setIx {k : Expr} {dk : DE} (hN : X.N[i]? = some x) (hv : Vis X.env.scope x) (hk : PDE c X k dk)
    (ha : ∀ v, assign (.Subscript (.Name x p) k pos) X.env v = (do
      let ov ← holding [v] (eval (.Name x p) X.env)
      let iv ← holding [v, ov] (eval k X.env)
      standAt pos
      holding [v, ov, iv] (setItem ov iv v)
      release [v, ov, iv] []) := by intro _; rfl)
    (hd : (x == ("__debug__" : Str)) = false := by decide) (hcd : (x == ("__classdict__" : Str)) = false := by decide) : PDG c X (.Subscript (.Name x p) k pos) (dgSetIx i dk) := by
  obtain ⟨tk, k1, k2⟩ := hk
  refine ⟨_, pg_sub (pe_var hN hv hd hcd) k1 set_list ha, fun σ G H S v d Qd Q R rv hQ h => ?_⟩
  obtain ⟨l0, h0, h⟩ := h
  obtain ⟨a, xs0, q1, q2, q3, q4, q5, q6⟩ := ol_get R h0
  refine ⟨.ref a, q2, ?_⟩
  refine k2 σ G H S _ _ R (fun w H1 ⟨G1, S1, dk, A, r, h1⟩ => ?_) h
  obtain ⟨l, ix, j, hl, ek, hj, h1⟩ := h1
  subst ek
  cases r
  obtain ⟨a', xs, p1, p2, p3, p4, p5, p6⟩ := ol_get A.rp hl
  rw [q2] at p2
  cases p2
  refine ⟨a, xs, ix, j, rfl, rfl, p5, by rw [p6.length]; exact hj, ?_⟩
  have B := Aft.put A.rp p1 q2 p3 p4 (RepAll.set (A.rep rv) j p6)
  exact hQ _ _ ⟨G1, _, B.rp, (A.trans B).le, (A.trans B).nle, h1⟩
end
/-! ### dicts -/
def keyOf : D → Option Key
  | .int i => some (.inl i)
  | .str x => some (.inr x)
  | _ => none
def lookD (l : List (Key × D)) (k : Key) : Option D := (l.find? fun p => decide (p.1 = k)).map (·.2)
def putD (l : List (Key × D)) (k : Key) (d : D) : List (Key × D) := if (l.any fun p => decide (p.1 = k)) = true then l.map (fun p => if p.1 = k then (p.1, d) else p) else l ++ [(k, d)]
section
variable {K : PySem.W.Frag} {mg : MG} {G : Hp} {n : Nat}
theorem rep_key {v : V} {d : D} {k : Key} (r : Rep K mg G n v d) (h : keyOf d = some k) : v = kV k := by
  unfold keyOf at h
  split at h
  · cases h
    cases r
    rfl
  · cases h
    cases r
    rfl
  · cases h
theorem repK_look {k : Key} : ∀ {xs : List (Key × V)} {l : List (Key × D)}, RepK K mg G n xs l → (lookD l k = none ∧ valV xs k = none) ∨ ∃ d v, lookD l k = some d ∧ valV xs k = some v ∧ Rep K mg G n v d
  | _, _, .nil => .inl ⟨rfl, rfl⟩
  | _, _, .cons (k := k') (v := v) (d := d) a b => by
    by_cases e : k' = k
    · refine .inr ⟨d, v, ?_, valV_pos e, a⟩
      simp [lookD, List.find?_cons, e]
    · have h1 : ∀ r : List (Key × D), lookD ((k', d) :: r) k = lookD r k := fun r => by simp [lookD, List.find?_cons, e]
      rw [h1, valV_neg (p := (k', v)) e]
      exact repK_look b
theorem repK_len : ∀ {xs : List (Key × V)} {l : List (Key × D)}, RepK K mg G n xs l → xs.length = l.length
  | _, _, .nil => rfl
  | _, _, .cons a b => by rw [List.length_cons, List.length_cons, repK_len b]
theorem repK_any {k : Key} : ∀ {xs : List (Key × V)} {l : List (Key × D)}, RepK K mg G n xs l → (xs.any fun p => decide (p.1 = k)) = l.any fun p => decide (p.1 = k)
  | _, _, .nil => rfl
  | _, _, .cons a b => by rw [List.any_cons, List.any_cons, repK_any b]
theorem repK_app : ∀ {xs ys : List (Key × V)} {l m : List (Key × D)}, RepK K mg G n xs l → RepK K mg G n ys m → RepK K mg G n (xs ++ ys) (l ++ m)
  | _, _, _, _, .nil, h => h
  | _, _, _, _, .cons a b, h => .cons a (repK_app b h)
theorem repK_map {k : Key} {v : V} {d : D} (r : Rep K mg G n v d) : ∀ {xs : List (Key × V)} {l : List (Key × D)}, RepK K mg G n xs l → RepK K mg G n (xs.map fun p => if p.1 = k then (p.1, v) else p) (l.map fun p => if p.1 = k then (p.1, d) else p)
  | _, _, .nil => .nil
  | _, _, .cons (k := k') (v := v') (d := d') a b => by
    rw [List.map_cons, List.map_cons]
    by_cases e : k' = k
    · rw [if_pos e, if_pos e]
      exact .cons r (repK_map r b)
    · rw [if_neg e, if_neg e]
      exact .cons a (repK_map r b)
theorem repK_put {k : Key} {v : V} {d : D} (r : Rep K mg G n v d) {xs : List (Key × V)} {l : List (Key × D)} (h : RepK K mg G n xs l) : RepK K mg G n (putK xs k v) (putD l k d) := by
  unfold putK putD
  rw [repK_any h]
  by_cases e : (l.any fun p => decide (p.1 = k)) = true
  · rw [if_pos e, if_pos e]
    exact repK_map r h
  · rw [if_neg e, if_neg e]
    exact repK_app h (.cons r .nil)
end
def dctAt (S : DS) (i : Nat) : Option (List (Key × D)) := match S.sl[i]? with
  | some (some (.od l)) => some l
  | some (some (.p (.dct l))) => some l
  | _ => none
theorem dct_get {K : PySem.W.Frag} {mg : MG} {σ : Sig} {G H : Hp} {S : DS} {i : Nat} (R : Rp c K mg σ G H S) {l : List (Key × D)} (h : dctAt S i = some l) : ∃ a xs, σ[i]? = some (some (.ref a)) ∧ Rd H a (.dK xs) ∧ RepK K mg G S.n xs l := by
  unfold dctAt at h
  split at h
  · rename_i e
    cases h
    have z := R.slots i
    rw [e] at z
    obtain ⟨a, e', h1, h2, xs, h3, h4⟩ := z
    exact ⟨a, xs, e', .inl h3, h4⟩
  · rename_i e
    cases h
    have z := R.slots i
    rw [e] at z
    obtain ⟨v, e', r⟩ := z
    cases r with
    | dct h a => exact ⟨_, _, e', rd_sub R.sub h, a⟩
  · cases h
section
variable {i : Nat} {x : Str} {p apos cpos : Pos} {k : Expr} {dk : DE}
def dDGet (i : Nat) (dk : DE) : DE := fun S Q => (∃ l0, dctAt S i = some l0) ∧ dk S fun k S1 => ∃ l ky d, dctAt S1 i = some l ∧ keyOf k = some ky ∧ lookD l ky = some d ∧ Q d S1
theorem pd_dget (hu : X.A.units + 1 < cLine) (hN : X.N[i]? = some x) (hv : Vis X.env.scope x) (hk : PDE c X k dk) (hs : NoSl k := by intro _ _; rfl) (hd : (x == ("__debug__" : Str)) = false := by decide) (hcd : (x == ("__classdict__" : Str)) = false := by decide) :
    PDE c X (.Subscript (.Name x p) k pos) (dDGet i dk) := by
  obtain ⟨tk, k1, k2⟩ := hk
  refine ⟨_, pe_dget hu (pe_var hN hv hd hcd) k1 hs, fun σ G H S Qd Q R hQ h => ?_⟩
  obtain ⟨⟨l0, h0⟩, h⟩ := h
  obtain ⟨a, xs0, q1, q2, q3⟩ := dct_get R h0
  refine ⟨.ref a, q1, ?_⟩
  refine k2 σ G H S _ _ R (fun w H1 ⟨G1, S1, dk, A, r, h1⟩ => ?_) h
  obtain ⟨l, ky, d, hl, ek, e2, h1⟩ := h1
  obtain ⟨a', xs, p1, p2, p3⟩ := dct_get A.rp hl
  rw [q1] at p1
  cases p1
  rcases repK_look (k := ky) p3 with ⟨z1, z2⟩ | ⟨d', v, z1, z2, z3⟩
  · rw [e2] at z1
    cases z1
  · rw [e2] at z1
    cases z1
    exact ⟨a, v, rfl, .inl ⟨xs, ky, p2, rep_key r ek, z2.symm⟩, hQ _ _ ⟨G1, S1, d, A, z3, h1⟩⟩
/-- k in x, k not in x -/
def dDIn (neg : Bool) (i : Nat) (dk : DE) : DE := fun S Q => dk S fun k S1 => ∃ l ky, dctAt S1 i = some l ∧ keyOf k = some ky ∧ Q (.bl (if neg then !(lookD l ky).isSome else (lookD l ky).isSome)) S1
theorem simDIn {K : PySem.W.Frag} {mg : MG} {tk : TE} (k2 : SimE c K mg tk dk) : SimE c K mg (tDIn tk (tVar i)) (dDIn false i dk) := by
  intro σ G H S Qd Q R hQ h
  refine k2 σ G H S _ _ R (fun w H1 ⟨G1, S1, dk, A, r, h1⟩ => ?_) h
  obtain ⟨l, ky, hl, ek, h1⟩ := h1
  obtain ⟨a, xs, p1, p2, p3⟩ := dct_get A.rp hl
  refine ⟨.ref a, p1, a, valV xs ky, rfl, .inl ⟨xs, ky, p2, rep_key r ek, rfl⟩, ?_⟩
  have e : (valV xs ky).isSome = (lookD l ky).isSome := by
    rcases repK_look (k := ky) p3 with ⟨z1, z2⟩ | ⟨d', v, z1, z2, z3⟩ <;> rw [z1, z2] <;> rfl
  rw [e]
  exact hQ _ _ ⟨G1, S1, _, A, .bl _, h1⟩
theorem simDNotIn {K : PySem.W.Frag} {mg : MG} {tk : TE} (k2 : SimE c K mg tk dk) : SimE c K mg (tDNotIn tk (tVar i)) (dDIn true i dk) := by
  intro σ G H S Qd Q R hQ h
  refine k2 σ G H S _ _ R (fun w H1 ⟨G1, S1, dk, A, r, h1⟩ => ?_) h
  obtain ⟨l, ky, hl, ek, h1⟩ := h1
  obtain ⟨a, xs, p1, p2, p3⟩ := dct_get A.rp hl
  refine ⟨.ref a, p1, a, valV xs ky, rfl, .inl ⟨xs, ky, p2, rep_key r ek, rfl⟩, ?_⟩
  have e : (valV xs ky).isSome = (lookD l ky).isSome := by
    rcases repK_look (k := ky) p3 with ⟨z1, z2⟩ | ⟨d', v, z1, z2, z3⟩ <;> rw [z1, z2] <;> rfl
  rw [e]
  exact hQ _ _ ⟨G1, S1, _, A, .bl _, h1⟩
theorem pdt_din (hu : X.A.units + 1 < cLine) (hN : X.N[i]? = some x) (hv : Vis X.env.scope x) (hk : PDE c X k dk) (h1 : behindInMarks .In (.Name x p) = false := by rfl) (hd : (x == ("__debug__" : Str)) = false := by decide) (hcd : (x == ("__classdict__" : Str)) = false := by decide) :
    PDT c X (.Compare k [.In] [.Name x p] pos) (dB (dDIn false i dk)) := by
  obtain ⟨tk, k1, k2⟩ := hk
  exact ⟨_, pt_cmp (pc_din hu k1 (pe_var hN hv hd hcd)) h1, simB (simDIn k2)⟩
theorem pdt_dnotin (hu : X.A.units + 1 < cLine) (hN : X.N[i]? = some x) (hv : Vis X.env.scope x) (hk : PDE c X k dk) (h1 : behindInMarks .NotIn (.Name x p) = false := by rfl) (hd : (x == ("__debug__" : Str)) = false := by decide) (hcd : (x == ("__classdict__" : Str)) = false := by decide) :
    PDT c X (.Compare k [.NotIn] [.Name x p] pos) (dB (dDIn true i dk)) := by
  obtain ⟨tk, k1, k2⟩ := hk
  exact ⟨_, pt_cmp (pc_dnotin hu k1 (pe_var hN hv hd hcd)) h1, simB (simDNotIn k2)⟩
theorem pd_dnotin (hu : X.A.units + 1 < cLine) (hN : X.N[i]? = some x) (hv : Vis X.env.scope x) (hk : PDE c X k dk) (h1 : behindInMarks .NotIn (.Name x p) = false := by rfl) (hd : (x == ("__debug__" : Str)) = false := by decide) (hcd : (x == ("__classdict__" : Str)) = false := by decide) :
    PDE c X (.Compare k [.NotIn] [.Name x p] pos) (dDIn true i dk) := by
  obtain ⟨tk, k1, k2⟩ := hk
  exact ⟨_, pe_cmp (pc_dnotin hu k1 (pe_var hN hv hd hcd)) h1, simDNotIn k2⟩
/-- x[k] = v -/
def dDPut (i : Nat) (dk dv : DE) : DSt := fun B S => dv S fun d S1 => (∃ l0, odAt S1 i = some l0) ∧ dk S1 fun k S2 => ∃ l ky, odAt S2 i = some l ∧ keyOf k = some ky ∧ l.length < 16777216 ∧ B.nx { S2 with sl := S2.sl.set i (some (.od (putD l ky d))) }
theorem pds_dput {v : Expr} {dv : DE} (hu : X.A.units + 1 < cLine) (hN : X.N[i]? = some x) (hv : Vis X.env.scope x) (hk : PDE c X k dk) (hval : PDE c X v dv) (hs : swapsWith v (some (.Subscript (.Name x p) k apos)) pos.line X.env = pure false := by rfl) (hd : (x == ("__debug__" : Str)) = false := by decide) (hcd : (x == ("__classdict__" : Str)) = false := by decide) :
    PDS c X (.Assign [.Subscript (.Name x p) k apos] v pos) (dDPut i dk dv) := by
  obtain ⟨tk, k1, k2⟩ := hk
  obtain ⟨tv, v1, v2⟩ := hval
  refine ⟨_, ps_dput hu (pe_var hN hv hd hcd) k1 v1 hs, fun σ G H S B E R h1 h2 h3 h4 h => ?_⟩
  refine v2 σ G H S _ _ R (fun w H1 ⟨G1, S1, d, A, r, q⟩ => ?_) h
  obtain ⟨⟨l0, e0⟩, q⟩ := q
  obtain ⟨a, xs0, q1, q2, q3, q4, q5, q6⟩ := od_get A.rp e0
  refine ⟨.ref a, q2, ?_⟩
  refine k2 σ G1 H1 S1 _ _ A.rp (fun y H2 ⟨G2, S2, dk, A2, r2, q'⟩ => ?_) q
  obtain ⟨l, ky, el, ek, hz, q'⟩ := q'
  obtain ⟨a', xs, p1, p2, p3, p4, p5, p6⟩ := od_get A2.rp el
  rw [q2] at p2
  cases p2
  have B2 := Aft.putD A2.rp p1 q2 p3 p4 (repK_put (k := ky) (A2.rep r) p6)
  refine ⟨a, _, rfl, .inl ⟨xs, ky, p5, rep_key r2 ek, by rw [repK_len p6, sizeLine_eq]; exact hz, rfl⟩, ?_⟩
  exact h1 _ _ ⟨G2, _, B2.rp, ((A.trans A2).trans B2).le, ((A.trans A2).trans B2).nle, q'⟩
/-- x.get(k, v) -/
def dDGet2 (i : Nat) (dk dv : DE) : DE := fun S Q => (∃ l0, dctAt S i = some l0) ∧ dk S fun k S1 => dv S1 fun v S2 => ∃ l ky, dctAt S2 i = some l ∧ keyOf k = some ky ∧ Q ((lookD l ky).getD v) S2
theorem pd_dget2 {f : Expr} {dv : DE} (hu : X.A.units + 1 < cLine) (hN : X.N[i]? = some x) (hv : Vis X.env.scope x) (hk : PDE c X k dk) (hf : PDE c X f dv) (m : M2 X (.Name x p) "get" apos k f cpos) (hd : (x == ("__debug__" : Str)) = false := by decide) (hcd : (x == ("__classdict__" : Str)) = false := by decide) :
    PDE c X (.Call (.Attribute (.Name x p) "get" apos) [k, f] [] cpos) (dDGet2 i dk dv) := by
  obtain ⟨tk, k1, k2⟩ := hk
  obtain ⟨tf, f1, f2⟩ := hf
  refine ⟨_, pe_dget2 hu (pe_var hN hv hd hcd) k1 f1 m, fun σ G H S Qd Q R hQ h => ?_⟩
  obtain ⟨⟨l0, h0⟩, h⟩ := h
  obtain ⟨a, xs0, q1, q2, q3⟩ := dct_get R h0
  refine ⟨.ref a, q1, a, rfl, .inl ⟨xs0, q2⟩, ?_⟩
  refine k2 σ G H S _ _ R (fun w H1 ⟨G1, S1, dk, A, r, h1⟩ => ?_) h
  refine f2 σ G1 H1 S1 _ _ A.rp (fun u H2 ⟨G2, S2, dv, A2, r2, h2⟩ => ?_) h1
  obtain ⟨l, ky, hl, ek, h2⟩ := h2
  obtain ⟨a', xs, p1, p2, p3⟩ := dct_get A2.rp hl
  rw [q1] at p1
  cases p1
  refine ⟨valV xs ky, .inl ⟨xs, ky, p2, rep_key r ek, rfl⟩, ?_⟩
  refine hQ _ _ ⟨G2, S2, _, A.trans A2, ?_, h2⟩
  rcases repK_look (k := ky) p3 with ⟨z1, z2⟩ | ⟨d', v, z1, z2, z3⟩
  · rw [z1, z2]
    exact r2
  · rw [z1, z2]
    exact z3
/-- len of a dict -/
theorem call_lenR : CallR X (.builtin "len") (fun xs H Q => ∃ a kvs, xs = [V.ref a] ∧ Rd H a (.dK kvs) ∧ Q (.int kvs.length) H) := by
  intro pins s σ H xs us Q I r h
  obtain ⟨a, kvs, rfl, ha, q⟩ := h
  rw [Vals.ref1 r]
  exact d_len I ha fun t s' J => ⟨.int kvs.length, H, J, ⟨t, rfl⟩, q⟩
def gLenD : List D → Option D
  | [.dct l] => some (.int l.length)
  | _ => none
theorem cd_lenD : CallD c X (.builtin "len") gLenD := ⟨_, call_lenR, fun G H n vs ds z Q s r q hq => by
  unfold gLenD at q
  split at q
  · cases q
    obtain ⟨v, e, rv⟩ := rep1 r
    subst e
    cases rv with
    | dct h a =>
      refine ⟨_, _, rfl, rd_sub s h, ?_⟩
      rw [repK_len a]
      exact hq _ G H (.refl s) (.int _)
  · cases q⟩
end
end
end DL
set_option maxHeartbeats 1000000
namespace DL
open PySem PySem.Spec PyProof.Rows L2
/-! ### what the module leaves as it is -/
structure Bi (mg : MG) : Prop where
  isinstance : mg "isinstance" = none
  len : mg "len" = none
  all : mg "all" = none
  abs : mg "abs" = none
  sum : mg "sum" = none
  sorted : mg "sorted" = none
  int : mg "int" = none
  bool : mg "bool" = none
  tuple : mg "tuple" = none
  list : mg "list" = none
  str : mg "str" = none
  max : mg "max" = none
  min : mg "min" = none
  repr : mg "repr" = none
  range : mg "range" = none
  enumerate : mg "enumerate" = none
  zip : mg "zip" = none
  set : mg "set" = none
theorem hu1 {k : Nat} {A : Around} (hr : Room k A) : A.units + 1 < cLine := hu_of hr
theorem hu64 {k : Nat} {A : Around} (hr : Room k A) : A.units + 64 < cLine := by have := hr.un; omega
theorem hu65 {k : Nat} {A : Around} (hr : Room k A) : A.units + 65 < cLine := by have := hr.un; omega
/-! ### promises by the number of arguments -/
abbrev M0 := Nat → (D → Nat → Prop) → (Exc → Nat → Prop) → Prop
def mt1 (f : D → M0) : MT := fun ds n Q E => ∃ a, ds = [a] ∧ f a n Q E
def mt2 (f : D → D → M0) : MT := fun ds n Q E => ∃ a b, ds = [a, b] ∧ f a b n Q E
def mt3 (f : D → D → D → M0) : MT := fun ds n Q E => ∃ a b c, ds = [a, b, c] ∧ f a b c n Q E
def mt4 (f : D → D → D → D → M0) : MT := fun ds n Q E => ∃ a b c d, ds = [a, b, c, d] ∧ f a b c d n Q E
def mt5 (f : D → D → D → D → D → M0) : MT := fun ds n Q E => ∃ a b c d e, ds = [a, b, c, d, e] ∧ f a b c d e n Q E
theorem ar1 {f : D → M0} : ∀ ds n Q E, mt1 f ds n Q E → ds.length = 1 := fun _ _ _ _ ⟨_, e, _⟩ => by rw [e] <;> rfl
theorem ar2 {f : D → D → M0} : ∀ ds n Q E, mt2 f ds n Q E → ds.length = 2 := fun _ _ _ _ ⟨_, _, e, _⟩ => by rw [e] <;> rfl
theorem ar3 {f : D → D → D → M0} : ∀ ds n Q E, mt3 f ds n Q E → ds.length = 3 := fun _ _ _ _ ⟨_, _, _, e, _⟩ => by rw [e] <;> rfl
theorem ar4 {f : D → D → D → D → M0} : ∀ ds n Q E, mt4 f ds n Q E → ds.length = 4 := fun _ _ _ _ ⟨_, _, _, _, e, _⟩ => by rw [e] <;> rfl
theorem ar5 {f : D → D → D → D → D → M0} : ∀ ds n Q E, mt5 f ds n Q E → ds.length = 5 := fun _ _ _ _ ⟨_, _, _, _, _, e, _⟩ => by rw [e] <;> rfl
/-- a pure function's promise: the result -/
def ret (d : D) : M0 := fun n Q _ => Q d n
end DL
set_option maxHeartbeats 1000000
namespace DL
open PySem PySem.Spec PyProof.Rows L2
/-! ### a dict walked: it is locked meanwhile -/
section
variable {K : PySem.W.Frag} {mg : MG} {G G' H : Hp} {n : Nat} {a : Addr} {kvs : List (Key × V)} {od : Obj}
mutual
theorem Rep.lock (h : G a = some (.dK kvs)) : ∀ {v : V} {d : D}, Rep K mg G n v d → Rep K mg (upd G a (.frz od (.dK kvs))) n v d
  | _, _, .non => .non
  | _, _, .bl b => .bl b
  | _, _, .int i => .int i
  | _, _, .str x => .str x
  | _, _, .lst (a := b) r q => .lst (by
      rcases r with (r | ⟨o, r⟩) | r
      · exact .inl (.inl (by rw [upd_ne (fun e => by rw [e, h] at r; cases r)]; exact r))
      · exact .inl (.inr ⟨o, by rw [upd_ne (fun e => by rw [e, h] at r; cases r)]; exact r⟩)
      · exact .inr r) (RepAll.lock h q)
  | _, _, .tup r q => .tup (by
      rcases r with (r | ⟨o, r⟩) | r
      · exact .inl (.inl (by rw [upd_ne (fun e => by rw [e, h] at r; cases r)]; exact r))
      · exact .inl (.inr ⟨o, by rw [upd_ne (fun e => by rw [e, h] at r; cases r)]; exact r⟩)
      · exact .inr r) (RepAll.lock h q)
  | _, _, .dct (a := b) r q => .dct (by
      by_cases e : b = a
      · subst e
        rcases r with r | ⟨o, r⟩
        · rw [h] at r
          cases r
          exact .inr ⟨od, upd_same⟩
        · rw [h] at r
          cases r
      · rcases r with r | ⟨o, r⟩
        · exact .inl (by rw [upd_ne e]; exact r)
        · exact .inr ⟨o, by rw [upd_ne e]; exact r⟩) (RepK.lock h q)
  | _, _, .fn r => .fn r
  | _, _, .ty x => .ty x
  | _, _, .dice r hb => .dice (by rw [upd_ne (fun e => by rw [e, h] at r; exact dice_ne_dK (Option.some.inj r).symm)]; exact r) hb
theorem RepAll.lock (h : G a = some (.dK kvs)) : ∀ {vs : List V} {ds : List D}, RepAll K mg G n vs ds → RepAll K mg (upd G a (.frz od (.dK kvs))) n vs ds
  | _, _, .nil => .nil
  | _, _, .cons p q => .cons (Rep.lock h p) (RepAll.lock h q)
theorem RepK.lock (h : G a = some (.dK kvs)) : ∀ {vs : List (Key × V)} {ds : List (Key × D)}, RepK K mg G n vs ds → RepK K mg (upd G a (.frz od (.dK kvs))) n vs ds
  | _, _, .nil => .nil
  | _, _, .cons p q => .cons (Rep.lock h p) (RepK.lock h q)
end
mutual
theorem Rep.unlock (h : G a = some (.frz od (.dK kvs))) : ∀ {v : V} {d : D}, Rep K mg G n v d → Rep K mg (upd G a (.dK kvs)) n v d
  | _, _, .non => .non
  | _, _, .bl b => .bl b
  | _, _, .int i => .int i
  | _, _, .str x => .str x
  | _, _, .lst (a := b) r q => .lst (by
      rcases r with (r | ⟨o, r⟩) | r
      · exact .inl (.inl (by rw [upd_ne (fun e => by rw [e, h] at r; cases r)]; exact r))
      · exact .inl (.inr ⟨o, by rw [upd_ne (fun e => by rw [e, h] at r; cases r)]; exact r⟩)
      · exact .inr r) (RepAll.unlock h q)
  | _, _, .tup r q => .tup (by
      rcases r with (r | ⟨o, r⟩) | r
      · exact .inl (.inl (by rw [upd_ne (fun e => by rw [e, h] at r; cases r)]; exact r))
      · exact .inl (.inr ⟨o, by rw [upd_ne (fun e => by rw [e, h] at r; cases r)]; exact r⟩)
      · exact .inr r) (RepAll.unlock h q)
  | _, _, .dct (a := b) r q => .dct (by
      by_cases e : b = a
      · subst e
        rcases r with r | ⟨o, r⟩
        · rw [h] at r
          cases r
        · rw [h] at r
          cases r
          exact .inl upd_same
      · rcases r with r | ⟨o, r⟩
        · exact .inl (by rw [upd_ne e]; exact r)
        · exact .inr ⟨o, by rw [upd_ne e]; exact r⟩) (RepK.unlock h q)
  | _, _, .fn r => .fn r
  | _, _, .ty x => .ty x
  | _, _, .dice r hb => .dice (by rw [upd_ne (fun e => by rw [e, h] at r; exact dice_ne_frz (Option.some.inj r).symm)]; exact r) hb
theorem RepAll.unlock (h : G a = some (.frz od (.dK kvs))) : ∀ {vs : List V} {ds : List D}, RepAll K mg G n vs ds → RepAll K mg (upd G a (.dK kvs)) n vs ds
  | _, _, .nil => .nil
  | _, _, .cons p q => .cons (Rep.unlock h p) (RepAll.unlock h q)
theorem RepK.unlock (h : G a = some (.frz od (.dK kvs))) : ∀ {vs : List (Key × V)} {ds : List (Key × D)}, RepK K mg G n vs ds → RepK K mg (upd G a (.dK kvs)) n vs ds
  | _, _, .nil => .nil
  | _, _, .cons p q => .cons (Rep.unlock h p) (RepK.unlock h q)
end
end
/-- the slots that no object of one's own holds -/
def noOwn (sl : List (Option SV)) : List (Option SV) := sl.map fun
  | some (.p d) => some (.p d)
  | _ => none
theorem noOwn_at (sl : List (Option SV)) (i : Nat) : (noOwn sl)[i]? = (sl[i]?).map fun
    | some (.p d) => some (.p d)
    | _ => none := by
  unfold noOwn
  rw [List.getElem?_map]
theorem noOwn_own (sl : List (Option SV)) (i : Nat) : ¬ isOwn (noOwn sl)[i]? := by
  rw [noOwn_at]
  cases sl[i]? with
  | none => exact fun z => z
  | some w =>
    cases w with
    | none => exact fun z => z
    | some w => cases w <;> exact fun z => z
/-- the tables stand under a lock too -/
theorem tabs_upd {T : TT0} {G : Hp} {a : Addr} {u o : HO} (h : LamX.Tabs T G) (hu : G a = some u) (n1 : ∀ ps, u ≠ .tbl ps) (n2 : ∀ c q, u ≠ LamX.CodeO c q) : LamX.Tabs T (upd G a o) := fun p hp => by
  obtain ⟨ps, h1, h2, h3⟩ := h p hp
  have ne : p.1 ≠ a := fun e => by
    rw [e, hu] at h1
    exact n1 ps (Option.some.inj h1)
  refine ⟨ps, by rw [upd_ne ne]; exact h1, h2, fun pos cv hc => ?_⟩
  obtain ⟨c, e1, e2⟩ := h3 pos cv hc
  refine ⟨c, e1, ?_⟩
  have ne2 : c ≠ a := fun e => by
    rw [e, hu] at e2
    exact n2 _ _ (Option.some.inj e2)
  rw [upd_ne ne2]
  exact e2
theorem dK_code {kvs : List (Key × V)} : ∀ c q, (HO.dK kvs) ≠ LamX.CodeO c q := fun c q z => by
  unfold LamX.CodeO at z
  cases z
theorem frz_code {o : Obj} {u : HO} : ∀ c q, (HO.frz o u) ≠ LamX.CodeO c q := fun c q z => by
  unfold LamX.CodeO at z
  cases z
section
variable {c : Ct} {K : PySem.W.Frag} {mg : MG} {σ : Sig} {G H : Hp} {S : DS} {a : Addr} {kvs : List (Key × V)} {od : Obj}
/-- the entry of a locked block -/
abbrev lockCt (c : Ct) (G H : Hp) (n : Nat) (a : Addr) (od : Obj) (kvs : List (Key × V)) : Ct := { c with G0 := upd G a (.frz od (.dK kvs)), H0 := upd H a (.frz od (.dK kvs)), n0 := n }
theorem Rp.lockIn (R : Rp c K mg σ G H S) (ha : G a = some (.dK kvs)) : Rp (lockCt c G H S.n a od kvs) K mg σ (upd G a (.frz od (.dK kvs))) (upd H a (.frz od (.dK kvs))) ⟨noOwn S.sl, S.n⟩ := by
  refine ⟨⟨fun b o e => ?_, fun b o e n => ?_⟩, Nat.le_refl _, by show Le c.T (S.n - S.n) _ _; rw [Nat.sub_self]; exact .refl _ _, fun b o h1 h2 => ⟨h1, h2⟩, fun b o h1 h2 => ?_, tabs_upd R.tabs ha (fun _ z => by cases z) dK_code, ?_, fun i => ?_, fun i j b hij o1 => absurd o1 (noOwn_own _ _)⟩
  · by_cases hb : b = a
    · subst hb
      rw [upd_same] at e ⊢
      exact e
    · rw [upd_ne hb] at e ⊢
      exact R.sub b o e
  · by_cases hb : b = a
    · subst hb
      rw [upd_same] at n
      cases n
    · rw [upd_ne hb] at e n
      exact R.sub.hd b o e n
  · have h2' : upd G a (.frz od (.dK kvs)) b = none := h2
    rw [h2'] at h1
    cases h1
  · show σ.length = (noOwn S.sl).length
    unfold noOwn
    rw [List.length_map]
    exact R.len
  · show SlotOk K mg _ _ _ S.n σ[i]? (noOwn S.sl)[i]?
    rw [noOwn_at]
    have z := R.slots i
    cases e : S.sl[i]? with
    | none => exact True.intro
    | some w =>
      cases w with
      | none => exact True.intro
      | some w =>
        rw [e] at z
        cases w with
        | p d =>
          obtain ⟨x, ex, rx⟩ := z
          exact ⟨x, ex, rx.lock ha⟩
        | ol l => exact True.intro
        | od l => exact True.intro
        | ot l => exact True.intro
/-- the end of a locked block -/
theorem Rp.lockOut {G' H' : Hp} {n' : Nat} (R : Rp c K mg σ G H S) (ha : G a = some (.dK kvs)) (R' : Rp (lockCt c G H S.n a od kvs) K mg σ G' H' ⟨noOwn S.sl, n'⟩) :
    Aft c K mg σ G H S (upd H' a (.dK kvs)) (upd G' a (.dK kvs)) ⟨S.sl, n'⟩ ∧ H' a = some (.frz od (.dK kvs)) ∧ G' a = some (.frz od (.dK kvs)) := by
  have hn : n' ≤ S.n := R'.nle
  have l' : Le c.T (S.n - n') (upd G a (.frz od (.dK kvs))) G' := R'.le
  have hG : G' a = some (.frz od (.dK kvs)) := l'.keep a _ upd_same firm_frz
  have hH : H' a = some (.frz od (.dK kvs)) := R'.sub _ _ hG
  have hHa : H a = some (.dK kvs) := R.sub _ _ ha
  have gn : ∀ {b}, b ≠ a → G b = none → upd G a (HO.frz od (.dK kvs)) b = none := fun {b} ne h => by rw [upd_ne ne]; exact h
  have l : Le c.T (S.n - n') G (upd G' a (.dK kvs)) := by
    refine ⟨fun b o e f => ?_, fun b B e => ?_, fun t => tabs_upd R'.tabs hG (fun _ z => by cases z) frz_code⟩
    · by_cases hb : b = a
      · subst hb
        rw [ha] at e
        cases e
        exact upd_same
      · rw [upd_ne hb]
        exact l'.keep b o (by rw [upd_ne hb]; exact e) f
    · have hb : b ≠ a := fun z => by
        rw [z, ha] at e
        exact dice_ne_dK (Option.some.inj e).symm
      obtain ⟨B', h1, h2⟩ := l'.roll b B (by rw [upd_ne hb]; exact e)
      exact ⟨B', h1, by rw [upd_ne hb]; exact h2⟩
  have hid : ∀ b o, H b = some o → G b = none → H' b = some o ∧ G' b = none ∧ b ≠ a := fun b o h1 h2 => by
    have ne : b ≠ a := fun z => by
      rw [z, ha] at h2
      cases h2
    obtain ⟨h3, h4⟩ := R'.hid b o (by show upd H a _ b = _; rw [upd_ne ne]; exact h1) (by show upd G a _ b = _; rw [upd_ne ne]; exact h2)
    exact ⟨h3, h4, ne⟩
  have own : ∀ {p : Addr} {u : SV}, Owns K mg c G H S.n p u → Owns K mg c (upd G' a (.dK kvs)) (upd H' a (.dK kvs)) n' p u := fun {p u} h => by
    cases u with
    | p d => exact h
    | ol l0 =>
      obtain ⟨h1, h2, xs, h3, h4⟩ := h
      obtain ⟨k1, k2, k3⟩ := hid _ _ h3 h1
      exact ⟨by rw [upd_ne k3]; exact k2, h2, xs, by rw [upd_ne k3]; exact k1, h4.up l (by omega)⟩
    | od l0 =>
      obtain ⟨h1, h2, xs, h3, h4⟩ := h
      obtain ⟨k1, k2, k3⟩ := hid _ _ h3 h1
      exact ⟨by rw [upd_ne k3]; exact k2, h2, xs, by rw [upd_ne k3]; exact k1, h4.up l (by omega)⟩
    | ot l0 =>
      obtain ⟨h1, h2, xs, h3, h4⟩ := h
      obtain ⟨k1, k2, k3⟩ := hid _ _ h3 h1
      exact ⟨by rw [upd_ne k3]; exact k2, h2, xs, by rw [upd_ne k3]; exact k1, h4.up l (by omega)⟩
  refine ⟨⟨l, hn, ?_, fun b o h1 h2 h3 => ?_⟩, hH, hG⟩
  · refine ⟨⟨fun b o e => ?_, fun b o e n => ?_⟩, Nat.le_trans hn R.nle, ?_, fun b o h1 h2 => ?_, fun b o h1 h2 => ?_, l.tabs R.tabs, R.len, fun i => ?_, R.apart⟩
    · by_cases hb : b = a
      · subst hb
        rw [upd_same] at e ⊢
        exact e
      · rw [upd_ne hb] at e ⊢
        exact R'.sub b o e
    · by_cases hb : b = a
      · subst hb
        rw [upd_same] at n
        cases n
      · rw [upd_ne hb] at e n
        exact R'.sub.hd b o e n
    · have z := R.le.trans l
      have := R.nle
      have e : c.n0 - S.n + (S.n - n') = c.n0 - n' := by omega
      rw [e] at z
      exact z
    · obtain ⟨h3, h4⟩ := R.hid b o h1 h2
      obtain ⟨k1, k2, k3⟩ := hid b o h3 h4
      exact ⟨by rw [upd_ne k3]; exact k1, by rw [upd_ne k3]; exact k2⟩
    · by_cases hb : b = a
      · rw [hb] at h2 ⊢
        exact R.new a _ ha h2
      · rw [upd_ne hb] at h1
        cases e : G b with
        | some u => exact R.new b u e h2
        | none =>
          have z := R'.new b o h1 (gn hb e)
          have z' : upd H a (HO.frz od (.dK kvs)) b = none := z
          rw [upd_ne hb] at z'
          exact R.old z' h2
    · have z := R.slots i
      show SlotOk K mg c _ _ n' σ[i]? S.sl[i]?
      cases e : S.sl[i]? with
      | none => exact True.intro
      | some w =>
        cases w with
        | none => exact True.intro
        | some w =>
          rw [e] at z
          cases w with
          | p d =>
            obtain ⟨x, ex, rx⟩ := z
            exact ⟨x, ex, rx.up l (by omega)⟩
          | ol l0 =>
            obtain ⟨p, ep, op⟩ := z
            exact ⟨p, ep, own op⟩
          | od l0 =>
            obtain ⟨p, ep, op⟩ := z
            exact ⟨p, ep, own op⟩
          | ot l0 =>
            obtain ⟨p, ep, op⟩ := z
            exact ⟨p, ep, own op⟩
  · obtain ⟨k1, k2, k3⟩ := hid b o h1 h2
    exact ⟨by rw [upd_ne k3]; exact k1, by rw [upd_ne k3]; exact k2, h3⟩
/-- the entry of a block that holds no object of one's own -/
abbrev newCt (c : Ct) (G H : Hp) (n : Nat) : Ct := { c with G0 := G, H0 := H, n0 := n }
theorem Rp.enter (R : Rp c K mg σ G H S) : Rp (newCt c G H S.n) K mg σ G H ⟨noOwn S.sl, S.n⟩ := by
  refine ⟨R.sub, Nat.le_refl _, by show Le c.T (S.n - S.n) _ _; rw [Nat.sub_self]; exact .refl _ _, fun b o h1 h2 => ⟨h1, h2⟩, fun b o h1 h2 => ?_, R.tabs, ?_, fun i => ?_, fun i j b hij o1 => absurd o1 (noOwn_own _ _)⟩
  · have h2' : G b = none := h2
    rw [h2'] at h1
    cases h1
  · show σ.length = (noOwn S.sl).length
    unfold noOwn
    rw [List.length_map]
    exact R.len
  · show SlotOk K mg _ _ _ S.n σ[i]? (noOwn S.sl)[i]?
    rw [noOwn_at]
    have z := R.slots i
    cases e : S.sl[i]? with
    | none => exact True.intro
    | some w =>
      cases w with
      | none => exact True.intro
      | some w =>
        rw [e] at z
        cases w with
        | p d => exact z
        | ol l => exact True.intro
        | od l => exact True.intro
        | ot l => exact True.intro
theorem Rp.exit {G' H' : Hp} {n' : Nat} (R : Rp c K mg σ G H S) (R' : Rp (newCt c G H S.n) K mg σ G' H' ⟨noOwn S.sl, n'⟩) : Aft c K mg σ G H S H' G' ⟨S.sl, n'⟩ := by
  have hn : n' ≤ S.n := R'.nle
  have l : Le c.T (S.n - n') G G' := R'.le
  have hid : ∀ b o, H b = some o → G b = none → H' b = some o ∧ G' b = none := fun b o h1 h2 => R'.hid b o h1 h2
  have own : ∀ {p : Addr} {u : SV}, Owns K mg c G H S.n p u → Owns K mg c G' H' n' p u := fun {p u} h => by
    cases u with
    | p d => exact h
    | ol l0 =>
      obtain ⟨h1, h2, xs, h3, h4⟩ := h
      obtain ⟨k1, k2⟩ := hid _ _ h3 h1
      exact ⟨k2, h2, xs, k1, h4.up l (by omega)⟩
    | od l0 =>
      obtain ⟨h1, h2, xs, h3, h4⟩ := h
      obtain ⟨k1, k2⟩ := hid _ _ h3 h1
      exact ⟨k2, h2, xs, k1, h4.up l (by omega)⟩
    | ot l0 =>
      obtain ⟨h1, h2, xs, h3, h4⟩ := h
      obtain ⟨k1, k2⟩ := hid _ _ h3 h1
      exact ⟨k2, h2, xs, k1, h4.up l (by omega)⟩
  refine ⟨l, hn, ⟨R'.sub, Nat.le_trans hn R.nle, ?_, fun b o h1 h2 => ?_, fun b o h1 h2 => ?_, l.tabs R.tabs, R.len, fun i => ?_, R.apart⟩, fun b o h1 h2 h3 => ?_⟩
  · have z := R.le.trans l
    have := R.nle
    have e : c.n0 - S.n + (S.n - n') = c.n0 - n' := by omega
    rw [e] at z
    exact z
  · obtain ⟨h3, h4⟩ := R.hid b o h1 h2
    exact hid b o h3 h4
  · cases e : G b with
    | some u => exact R.new b u e h2
    | none => exact R.old (R'.new b o h1 e) h2
  · have z := R.slots i
    show SlotOk K mg c _ _ n' σ[i]? S.sl[i]?
    cases e : S.sl[i]? with
    | none => exact True.intro
    | some w =>
      cases w with
      | none => exact True.intro
      | some w =>
        rw [e] at z
        cases w with
        | p d =>
          obtain ⟨x, ex, rx⟩ := z
          exact ⟨x, ex, rx.up l (by omega)⟩
        | ol l0 =>
          obtain ⟨p, ep, op⟩ := z
          exact ⟨p, ep, own op⟩
        | od l0 =>
          obtain ⟨p, ep, op⟩ := z
          exact ⟨p, ep, own op⟩
        | ot l0 =>
          obtain ⟨p, ep, op⟩ := z
          exact ⟨p, ep, own op⟩
  · obtain ⟨k1, k2⟩ := hid b o h1 h2
    exact ⟨k1, k2, h3⟩
end
/-! ### walks of a locked dict -/
def itemD (p : Key × D) : D := .tup [(match p.1 with | .inl i => .int i | .inr x => .str x), p.2]
def keyD (k : Key) : D := match k with
  | .inl i => .int i
  | .inr x => .str x
theorem rep_keyD {K : PySem.W.Frag} {mg : MG} {G : Hp} {n : Nat} (k : Key) : Rep K mg G n (kV k) (keyD k) := by
  cases k with
  | inl i => exact .int i
  | inr x => exact .str x
section
variable {T : TT0} {K : PySem.W.Frag} {mg : MG} {G0 : Hp} {n0 : Nat} {a : Addr} {od : Obj} {kvs : List (Key × V)} {l : List (Key × D)}
theorem repK_get : ∀ {kvs : List (Key × V)} {l : List (Key × D)} {G : Hp} {n i : Nat} {k : Key} {d : D}, RepK K mg G n kvs l → l[i]? = some (k, d) → ∃ v, kvs[i]? = some (k, v) ∧ Rep K mg G n v d
  | _, _, _, _, _, _, _, .nil, h => by simp at h
  | _, _, _, _, 0, _, _, .cons p q, h => by
    have e := Option.some.inj h
    cases e
    exact ⟨_, rfl, p⟩
  | _, _, _, _, i + 1, k, d, .cons p q, h => by
    obtain ⟨v, h1, h2⟩ := repK_get (i := i) (k := k) (d := d) q h
    exact ⟨v, h1, h2⟩
theorem yl_items (h : G0 a = some (.frz od (.dK kvs))) (r : RepK K mg G0 n0 kvs l) : Yl T K mg (Iti a od kvs) G0 n0 (l.map itemD) where
  stop := fun i G H n s le hn hi => ⟨s _ _ (le.keep _ _ h firm_frz), by rw [repK_len r]; exact Nat.le_of_eq (by simpa using hi)⟩
  go := fun i G H n d s le hn hi => by
    rw [List.getElem?_map] at hi
    cases e : l[i]? with
    | none =>
      rw [e] at hi
      cases hi
    | some p =>
      obtain ⟨k, d0⟩ := p
      rw [e] at hi
      have ed : itemD (k, d0) = d := Option.some.inj hi
      subst ed
      obtain ⟨v, ev, rv⟩ := repK_get r e
      refine ⟨⟨s _ _ (le.keep _ _ h firm_frz), (List.getElem?_eq_some_iff.mp ev).1⟩, fun x H' y => ?_⟩
      obtain ⟨P, k', v', e', ex, nP, eH⟩ := y
      rw [ev] at e'
      cases e'
      subst ex eH
      have g : Gw T 0 G H _ _ := .alloc (o := .tup [kV k, v]) s nP
      exact ⟨_, g, .tup (SqT.of upd_same) (.cons (rep_keyD k) (.cons ((rv.up le (by omega)).up g.le (Nat.le_refl _)) .nil))⟩
theorem yl_keys (h : G0 a = some (.frz od (.dK kvs))) (r : RepK K mg G0 n0 kvs l) : Yl T K mg (Itk a od kvs) G0 n0 (l.map fun p => keyD p.1) where
  stop := fun i G H n s le hn hi => ⟨s _ _ (le.keep _ _ h firm_frz), by rw [repK_len r]; exact Nat.le_of_eq (by simpa using hi)⟩
  go := fun i G H n d s le hn hi => by
    rw [List.getElem?_map] at hi
    cases e : l[i]? with
    | none =>
      rw [e] at hi
      cases hi
    | some p =>
      obtain ⟨k, d0⟩ := p
      rw [e] at hi
      have ed : keyD k = d := Option.some.inj hi
      subst ed
      obtain ⟨v, ev, rv⟩ := repK_get r e
      refine ⟨⟨s _ _ (le.keep _ _ h firm_frz), (List.getElem?_eq_some_iff.mp ev).1⟩, fun x H' y => ?_⟩
      obtain ⟨eH, k', v', e', ex⟩ := y
      rw [ev] at e'
      cases e'
      subst ex eH
      exact ⟨G, .refl s, rep_keyD k⟩
end
/-- a comprehension over a dict in slot i -/
def dLcD (i : Nat) (f : Key × D → D) (gd : D → Option (List (Nat × D))) (dt : DT) (de : DE) (vs : List Nat) : DE := fun S Q => ∃ l, dctAt S i = some l ∧ (∀ v ∈ vs, v ≠ i ∧ ownB S.sl[v]? = false) ∧
  dComp gd dt de (wipeD (noOwn (froz S i (.dct l)).sl) vs) (l.map f) [] S.n fun acc n => Q (.lst acc) ⟨(froz S i (.dct l)).sl, n⟩
def tLcW (wi : TI) (t : TG) (tt : TT) (te : TE) (vs : List Nat) : TE := fun σ H Q => tLockE (tLc wi t tt te vs) σ H Q ∨ tLc wi t tt te vs σ H Q
/-- the weakest readings, at any entry -/
def anyE (T : TT0) (K : PySem.W.Frag) (mg : MG) (E : XK) (ED : Exc → Nat → Prop) (de : DE) : TE := fun σ H Q => ∃ G0 H0 n0, canE ⟨T, G0, H0, n0, E, ED⟩ K mg de σ H Q
def anyT (T : TT0) (K : PySem.W.Frag) (mg : MG) (E : XK) (ED : Exc → Nat → Prop) (de : DT) : TT := fun σ H Q => ∃ G0 H0 n0, canT ⟨T, G0, H0, n0, E, ED⟩ K mg de σ H Q
theorem sim_anyE {T : TT0} {K : PySem.W.Frag} {mg : MG} {E : XK} {ED : Exc → Nat → Prop} {de : DE} {G0 H0 : Hp} {n0 : Nat} : SimE ⟨T, G0, H0, n0, E, ED⟩ K mg (anyE T K mg E ED de) de := fun σ G H S Qd Q R hQ h => ⟨G0, H0, n0, G, S, Qd, R, hQ, h⟩
theorem sim_anyT {T : TT0} {K : PySem.W.Frag} {mg : MG} {E : XK} {ED : Exc → Nat → Prop} {de : DT} {G0 H0 : Hp} {n0 : Nat} : SimT ⟨T, G0, H0, n0, E, ED⟩ K mg (anyT T K mg E ED de) de := fun σ G H S Qd Q R hQ h => ⟨G0, H0, n0, G, S, Qd, R, hQ, h⟩
abbrev ctW (c : Ct) (G0 H0 : Hp) (n0 : Nat) : Ct := ⟨c.T, G0, H0, n0, c.E, c.ED⟩
theorem noOwn_len (sl : List (Option SV)) : (noOwn sl).length = sl.length := by unfold noOwn; rw [List.length_map]
section
variable {c : Ct} {K : PySem.W.Frag} {mg : MG}
theorem simLcD {i : Nat} {f : Key × D → D} {wi : TI} {t : TG} {gd : D → Option (List (Nat × D))} {ws : List Nat} {dt : DT} {de : DE} {vs : List Nat}
    (hi : ∀ (σ : Sig) (H : Hp) (Rr : It → Hp → Prop) (a : Addr) (od : Obj) (kvs : List (Key × V)), σ[i]? = some (some (.ref a)) → H a = some (.frz od (.dK kvs)) →
      (∀ J, (∀ G n l, G a = some (.frz od (.dK kvs)) → RepK K mg G n kvs l → Yl c.T K mg J G n (l.map f)) → Rr J H) → wi σ H Rr)
    (hg : SimGc K mg t gd ws) (hw : ∀ i ∈ ws, i ∈ vs) : SimE c K mg (tLcW wi t (anyT c.T K mg c.E c.ED dt) (anyE c.T K mg c.E c.ED de) vs) (dLcD i f gd dt de vs) := by
  intro σ G H S Qd Q R hQ h
  obtain ⟨l, hl, hv, h⟩ := h
  -- the dict, frozen as data
  have hs : ∃ u, S.sl[i]? = some (some u) ∧ frozen u = .dct l := by
    unfold dctAt at hl
    split at hl
    · rename_i e
      cases hl
      exact ⟨_, e, rfl⟩
    · rename_i e
      cases hl
      exact ⟨_, e, rfl⟩
    · cases hl
  obtain ⟨u, hs, hu⟩ := hs
  obtain ⟨G1, v, g, e, r, R1, hg1⟩ := R.freeze hs (fun l e => by subst e; cases hu)
  rw [hu] at r R1
  have lo1 : ∀ b, Loose σ S b → Loose σ (froz S i (.dct l)) b := fun b lb j hj => lb j (by
    by_cases e2 : i = j
    · subst e2
      have q : isOwn (S.sl.set i (some (SV.p (.dct l))))[i]? := hj
      rw [List.getElem?_set_self (List.getElem?_eq_some_iff.mp hs).1] at q
      exact q.elim
    · have q : isOwn (S.sl.set i (some (SV.p (.dct l))))[j]? := hj
      rw [List.getElem?_set_ne e2] at q
      exact q)
  have A1 : Aft c K mg σ G H S H G1 (froz S i (.dct l)) := ⟨by show Le c.T (S.n - S.n) G G1; rw [Nat.sub_self]; exact g, Nat.le_refl _, R1, fun b o h1 n1 l1 => ⟨h1, hg1 b o h1 n1 l1, lo1 b l1⟩⟩
  have il : i < S.sl.length := (List.getElem?_eq_some_iff.mp hs).1
  have si : (froz S i (.dct l)).sl[i]? = some (some (.p (.dct l))) := by
    show (S.sl.set i (some (SV.p (.dct l))))[i]? = _
    rw [List.getElem?_set_self il]
  cases r with
  | @dct a kvs _ hr rk =>
    rcases hr with hr | ⟨od, hr⟩
    · -- locked
      refine .inl ⟨a, .dK kvs, R1.sub _ _ hr, True.intro, fun od => ?_⟩
      have RL := R1.lockIn (od := od) hr
      have nn : ∀ v ∈ vs, ownB (noOwn (froz S i (.dct l)).sl)[v]? = false := fun v _ => by
        cases e : ownB (noOwn (froz S i (.dct l)).sl)[v]? with
        | false => rfl
        | true => exact absurd (ownB_iff.mp e) (noOwn_own _ _)
      refine simLcAt (c := lockCt c G1 H S.n a od kvs) (di := fun S0 Q0 => Q0 (l.map f) S0) RL (fun Qd0 Rr0 hJ h0 => ?_) hg sim_anyT sim_anyE hw (fun d S2 => S2.sl = noOwn (froz S i (.dct l)).sl ∧ Qd d ⟨(froz S i (.dct l)).sl, S2.n⟩) _ (fun v2 H2 hW => ?_) ⟨nn, ?_⟩
      · exact hi σ _ Rr0 a od kvs e upd_same fun J hJ' => hJ J _ ⟨_, _, l.map f, .refl RL, hJ' _ _ l upd_same (rk.lock hr), h0⟩
      · obtain ⟨G2, S2, d, A2, r2, e2, q2⟩ := hW
        obtain ⟨sl2, n2⟩ := S2
        have e2' : sl2 = noOwn (froz S i (.dct l)).sl := e2
        subst e2'
        obtain ⟨AO, k1, k2⟩ := R1.lockOut hr A2.rp
        exact ⟨k1, hQ _ _ ⟨_, ⟨(froz S i (.dct l)).sl, n2⟩, d, A1.trans AO, r2.unlock k2, q2⟩⟩
      · have key : ∀ (items : List D) (acc : List D) (n : Nat) (sl0 : List (Option SV)), dComp gd dt de sl0 items acc n (fun acc n => Qd (.lst acc) ⟨(froz S i (.dct l)).sl, n⟩) →
            dComp gd dt de sl0 items acc n (fun acc n => (noOwn (froz S i (.dct l)).sl = noOwn (froz S i (.dct l)).sl ∧ Qd (.lst acc) ⟨(froz S i (.dct l)).sl, n⟩)) := fun items acc n sl0 h => by
          have e3 : (fun (acc : List D) (n : Nat) => (noOwn (froz S i (.dct l)).sl = noOwn (froz S i (.dct l)).sl ∧ Qd (.lst acc) ⟨(froz S i (.dct l)).sl, n⟩)) = fun acc n => Qd (.lst acc) ⟨(froz S i (.dct l)).sl, n⟩ := by
            funext acc n
            simp
          rw [e3]
          exact h
        exact key _ _ _ _ h
    · refine .inr ?_
      have RL := R1.enter
      have nn : ∀ v ∈ vs, ownB (noOwn (froz S i (.dct l)).sl)[v]? = false := fun v _ => by
        cases e : ownB (noOwn (froz S i (.dct l)).sl)[v]? with
        | false => rfl
        | true => exact absurd (ownB_iff.mp e) (noOwn_own _ _)
      refine simLcAt (c := newCt c G1 H S.n) (di := fun S0 Q0 => Q0 (l.map f) S0) RL (fun Qd0 Rr0 hJ h0 => ?_) hg sim_anyT sim_anyE hw (fun d S2 => S2.sl = noOwn (froz S i (.dct l)).sl ∧ Qd d ⟨(froz S i (.dct l)).sl, S2.n⟩) _ (fun v2 H2 hW => ?_) ⟨nn, ?_⟩
      · exact hi σ _ Rr0 a od kvs e (R1.sub _ _ hr) fun J hJ' => hJ J _ ⟨_, _, l.map f, .refl RL, hJ' _ _ l hr rk, h0⟩
      · obtain ⟨G2, S2, d, A2, r2, e2, q2⟩ := hW
        obtain ⟨sl2, n2⟩ := S2
        have e2' : sl2 = noOwn (froz S i (.dct l)).sl := e2
        subst e2'
        exact hQ _ _ ⟨_, ⟨(froz S i (.dct l)).sl, n2⟩, d, A1.trans (R1.exit A2.rp), r2, q2⟩
      · have e3 : (fun (acc : List D) (n : Nat) => (noOwn (froz S i (.dct l)).sl = noOwn (froz S i (.dct l)).sl ∧ Qd (.lst acc) ⟨(froz S i (.dct l)).sl, n⟩)) = fun acc n => Qd (.lst acc) ⟨(froz S i (.dct l)).sl, n⟩ := by
          funext acc n
          simp
        have goal : dComp gd dt de (wipeD (noOwn (froz S i (.dct l)).sl) vs) (l.map f) [] S.n (fun acc n => (noOwn (froz S i (.dct l)).sl = noOwn (froz S i (.dct l)).sl ∧ Qd (.lst acc) ⟨(froz S i (.dct l)).sl, n⟩)) := by
          rw [e3]
          exact h
        exact goal
end
/-! ### the rules -/
section
variable {c : Ct} {X : Cx}
theorem pe_orLock {e : Expr} {wi : TI} {t : TG} {tt : TT} {te : TE} {vs : List Nat} (h : PE X e (tLc wi t tt te vs)) : PE X e (tLcW wi t tt te vs) := by
  refine ⟨fun pins s σ H Q I hq => ?_⟩
  rcases hq with hq | hq
  · exact (pe_lock h).run pins s σ H Q I hq
  · exact h.run pins s σ H Q I hq
theorem anyE_of {e : Expr} {de : DE} (h : ∀ G0 H0 n0, PDE (ctW c G0 H0 n0) X e de) : PE X e (anyE c.T X.K X.mg c.E c.ED de) := by
  refine ⟨fun pins s σ H Q I hq => ?_⟩
  obtain ⟨G0, H0, n0, hq⟩ := hq
  exact (h G0 H0 n0).can.run pins s σ H Q I hq
def PDTsA (c : Ct) (X : Cx) (ifs : List Expr) (dt : DT) : Prop := PTs X ifs (anyT c.T X.K X.mg c.E c.ED dt)
theorem pdtsA_nil : PDTsA c X [] dYes := by
  refine ⟨fun pins s σ H Q I hq => ?_⟩
  obtain ⟨G0, H0, n0, hq⟩ := hq
  exact (pdts_nil (c := ctW c G0 H0 n0)).run pins s σ H Q I hq
theorem pdtsA_one {e : Expr} {dt : DT} (h : ∀ G0 H0 n0, PDT (ctW c G0 H0 n0) X e dt) : PDTsA c X [e] dt := by
  have h1 : PT X e (anyT c.T X.K X.mg c.E c.ED dt) := by
    refine ⟨fun pins s σ H Q I hq => ?_⟩
    obtain ⟨G0, H0, n0, hq⟩ := hq
    exact (h G0 H0 n0).can.run pins s σ H Q I hq
  exact pts_one h1
theorem hi_items {K : PySem.W.Frag} {mg : MG} {T : TT0} {i : Nat} (σ : Sig) (H : Hp) (Rr : It → Hp → Prop) (a : Addr) (od : Obj) (kvs : List (Key × V)) (e : σ[i]? = some (some (.ref a))) (h : H a = some (.frz od (.dK kvs)))
    (q : ∀ J, (∀ G n l, G a = some (.frz od (.dK kvs)) → RepK K mg G n kvs l → Yl T K mg J G n (l.map itemD)) → Rr J H) : iItems (tVar i) σ H Rr :=
  ⟨_, e, a, od, kvs, rfl, h, q _ fun G n l h1 h2 => yl_items h1 h2⟩
theorem hi_keys {K : PySem.W.Frag} {mg : MG} {T : TT0} {i : Nat} (σ : Sig) (H : Hp) (Rr : It → Hp → Prop) (a : Addr) (od : Obj) (kvs : List (Key × V)) (e : σ[i]? = some (some (.ref a))) (h : H a = some (.frz od (.dK kvs)))
    (q : ∀ J, (∀ G n l, G a = some (.frz od (.dK kvs)) → RepK K mg G n kvs l → Yl T K mg J G n (l.map fun p => keyD p.1)) → Rr J H) : iKeys (tVar i) σ H Rr :=
  ⟨_, e, a, od, rfl, .inl ⟨kvs, h, q _ fun G n l h1 h2 => yl_keys h1 h2⟩⟩
/-- [elt for x, y in d.items() ifs] -/
theorem pd_lcItems {i j k : Nat} {x y z : Str} {elt : Expr} {ifs : List Expr} {scope : Scope} {pos p q r pz apos cpos : Pos} {kk : Nat} {dt : DT} {de : DE} (hc : X.calm = true) (hN : X.N.Nodup) (hz : X.N[k]? = some z) (hv : Vis X.env.scope z)
    (ok : BlkOk X.N X.env.scope scope [(x, i), (y, j)])
    (hg : ∀ s H C cl fp, PG (Blk X scope s H C cl fp) (.Tuple [.Name x p, .Name y q] kk r) (gTup X.K 2 (gCons (gName i) (gCons (gName j) gNil)))) (ht : ∀ s H C cl fp, PDTsA c (Blk X scope s H C cl fp) ifs dt) (he : ∀ G0 H0 n0, ∀ s H C cl fp, PDE (ctW c G0 H0 n0) (Blk X scope s H C cl fp) elt de)
    (hd : (z == ("__debug__" : Str)) = false := by decide) (hcd : (z == ("__classdict__" : Str)) = false := by decide) (hline : (apos.endLine == cpos.line) = true := by rfl)
    (hs : ∀ w, foldedSetIterable (.Call (.Attribute (.Name z pz) "items" apos) [] [] cpos) X.env w = pure w := by intro _; rfl) :
    PDE c X (.ListComp elt [⟨.Tuple [.Name x p, .Name y q] kk r, .Call (.Attribute (.Name z pz) "items" apos) [] [] cpos, ifs, 0⟩] scope pos) (dLcD k itemD (gdPair i j) dt de [i, j]) :=
  ⟨_, pe_orLock (pe_lc (tt := anyT c.T X.K X.mg c.E c.ED dt) hc hN (pi_items (pe_var hz hv hd hcd) rfl hline) ok hg (fun s H C cl fp => ht s H C cl fp) (fun s H C cl fp => anyE_of fun G0 H0 n0 => he G0 H0 n0 s H C cl fp) hs), simLcD (hi_items) (simGc_pair i j) fun _ h => h⟩
/-- [elt for x in d ifs] -/
theorem pd_lcKeys {i k : Nat} {x z : Str} {elt : Expr} {ifs : List Expr} {scope : Scope} {pos p pz : Pos} {dt : DT} {de : DE} (hc : X.calm = true) (hN : X.N.Nodup) (hz : X.N[k]? = some z) (hv : Vis X.env.scope z)
    (ok : BlkOk X.N X.env.scope scope [(x, i)])
    (hg : ∀ s H C cl fp, PG (Blk X scope s H C cl fp) (.Name x p) (gName i)) (ht : ∀ s H C cl fp, PDTsA c (Blk X scope s H C cl fp) ifs dt) (he : ∀ G0 H0 n0, ∀ s H C cl fp, PDE (ctW c G0 H0 n0) (Blk X scope s H C cl fp) elt de)
    (hd : (z == ("__debug__" : Str)) = false := by decide) (hcd : (z == ("__classdict__" : Str)) = false := by decide)
    (hs : ∀ w, foldedSetIterable (.Name z pz) X.env w = pure w := by intro _; rfl) :
    PDE c X (.ListComp elt [⟨.Name x p, .Name z pz, ifs, 0⟩] scope pos) (dLcD k (fun p => keyD p.1) (fun d => some [(i, d)]) dt de [i]) :=
  ⟨_, pe_orLock (pe_lc (tt := anyT c.T X.K X.mg c.E c.ED dt) hc hN (pi_keys (pe_var hz hv hd hcd)) ok hg (fun s H C cl fp => ht s H C cl fp) (fun s H C cl fp => anyE_of fun G0 H0 n0 => he G0 H0 n0 s H C cl fp) hs), simLcD (hi_keys) (simGc_name i) fun _ h => h⟩
end
end DL
set_option maxHeartbeats 2000000
namespace DL
open PySem PySem.Spec PyProof.Rows L2
open PySem.W (KxsFacts kxs_mw ksFn ks_superIn)
/-! ### an own exception over ValueError, its __init__: super().__init__(x); self.f = x -/
/-- what the written part says of the class C, of its __init__ at fI -/
structure InitC (P : Program) (K : PySem.W.Frag) (C fI : Addr) (qual : Str) (args : Arguments) (body : List Stmt) (sc : Scope) (f : Str) : Prop where
  oex : OexC K C
  ini : PySem.W.findIn K (.ref C) "__init__" = some (some (.ref fI))
  tyI : PySem.W.typeIn K (.ref fI) = some (.type "function")
  fn : ∃ (oc : Value) (od : Option Addr) (kV doc pm ct : Value) (an : Option Addr) (osl : Array (Option Value)) (cda cc : Addr) (ccl cl : Value) (cdd cld : Option Addr) (vs : Array Value) (ccs csl : Array (Option Value)) (file : Str) (tf : Tok),
    K.lookup fI = some ⟨oc, od, .func (ksFn "__init__" qual args body sc .none kV doc pm an (.ref cda) ct cc), osl⟩ ∧ PySem.W.codeIn K (.ref cda) qual = true ∧
    K.lookup cda = some ⟨ccl, cdd, .fields vs, ccs⟩ ∧ vs[2]? = some (.str file tf) ∧ P.main.file = file ∧ K.lookup cc = some ⟨cl, cld, .cell (some (.ref C)), csl⟩
  sup : ks_superIn K C C "__init__" = some (some (.builtin "ValueError.__init__"))
  sub : PySem.W.subIn K (.ref C) (.type "ValueError") = some true
  mro : PySem.W.mroIn K C (.ref C) = some true
  opq : PySem.W.nsIn K cStatics "thirdparty.any" = some none
  fld : PySem.W.findIn K (.ref C) f = some none
/-- its shape -/
structure InitS (P : Program) (args : Arguments) (sc : Scope) (x y : Str) : Prop where
  kind : sc.kind = .function
  co : sc.isCoroutine = false
  gen : sc.isGenerator = false
  cell : ∀ n ∈ sc.names, n.2 ≠ .cell
  lx : sc.names.lookup x = some .local
  ly : sc.names.lookup y = some .local
  ne : x ≠ y
  sup : sc.names.lookup ("super" : Str) = some .globalImplicit
  cls : sc.names.lookup ("__class__" : Str) = some .free
  fst : ∃ ar, (args.posonlyargs ++ args.args).head? = some ar ∧ ar.arg = x
  top : (P.main.scope.names.lookup ("super" : Str)).isSome = false
  dx : (x == ("__debug__" : Str)) = false
  dy : (y == ("__debug__" : Str)) = false
/-- its promise -/
def spInit (C : Addr) (f : Str) : Sp := fun vs H Q _ => ∃ (a : Addr) (v : V), vs = [.ref a, v] ∧ H a = some (exo a C none) ∧ ∀ dx, H dx = none → dx ≠ a → Q .non (upd (upd H dx (exd dx [(f, v)])) a (exo a C (some dx)))
theorem kxs_field {i : String} {x : Addr} : (kxs_mw i x).data = .fields #[.builtin i, .ref x] := rfl
section
variable {prog : Program} {w : World} {A : Around} {E : Value → Shared → Prop}
open PySem.W in
/-- the built-in __init__ bound to e is called; what else stands is kept -/
theorem mw_call {K : Frag} {C u e t0 : Addr} {rest : List Value} {s : Shared} {Q : Value → Shared → Prop} (T : OexC K C) (X : K.In s.heap) (hu : s.heap.get? u = some (kxs_mw "ValueError.__init__" e)) (he : s.heap.get? e = some (PySem.HandSPX.excO C t0)) (hz : rest.length ≤ sizeLine)
    (hq : ∀ h' t1, (∀ b o, b ≠ e → s.heap.get? b = some o → h'.get? b = some o) → h'.get? e = some (PySem.HandSPX.excO C t1) → Q .none { s with heap := h' }) : wpAny (model prog w) A (call (.ref u) rest) Q E s := by
  obtain ⟨nm, q, N, bs, bm, sn, sub, ab, col, dd, k0, k1, k2, k3, k5, hC, -⟩ := T.cls
  obtain ⟨hp, g, d, t, os⟩ := s
  have FB := F.excBase_ValueError
  apply wpAny_call
  apply codeAny_of_tree
  show wpAny _ A.in1 (callAny (.ref u) ⟨rest, []⟩) _ _ _
  unfold callAny
  simp only
  refine wpAny_bind (wpAny_load hu ?_)
  rw [show (kxs_mw "ValueError.__init__" e).cls = .type "method-wrapper" from rfl, kxs_field]
  show wpAny _ _ (if (Value.type "method-wrapper" != Value.type "method") = true then (checkBoundCall "ValueError.__init__" ⟨.ref e :: rest, []⟩ >>= fun _ => again (.builtin "ValueError.__init__" ⟨.ref e :: rest, []⟩)) else _) _ _ _
  refine KFB.if_so (by decide +kernel) (wpAny_bind (check_bound_init FB.toExcCallFacts (X _ _ hC) he rfl ?_))
  refine wpAny_pure ⟨plainId_quiet FB.init.plain _, codeAny_builtin FB.initEntry ?_⟩
  exact exc_init_tree (cls := .ref C) (t0 := t0) (dv := none) (c2 := .none) (c3 := .none) (b4 := .bool false) he hz fun h' k1 k2 _ => hq h' _ k1 k2
end
/-- two parameters, nothing else -/
abbrev sc2 (x y : Str) : Scope := { kind := .function, names := [(x, .local), (y, .local)], isGenerator := false, isCoroutine := false }
theorem sc2_ok {x y : Str} (h : x ≠ y) : FnScope [x, y] [x, y] (sc2 x y) where
  kind := rfl
  co := rfl
  gen := rfl
  nd := by simp [h]
  pre := rfl
  par := fun z hz => by
    have hz' : z = x ∨ z = y := by simpa using hz
    rcases hz' with e | e
    · subst e
      exact .inl (by simp [List.lookup])
    · subst e
      have e2 : (z == x) = false := by simpa using fun q : z = x => h q.symm
      exact .inl (by simp [List.lookup, e2])
  nofree := fun z hz e => by
    have hz' : z = (x, .local) ∨ z = (y, .local) := by simpa using hz
    rcases hz' with q | q <;> (subst q; cases e)
theorem bind2 {x y : Str} (h : x ≠ y) {u v : Value} {L a : Addr} {q : Str} {cd : Value} : (fun z => ([x, y].zip [u, v]).reverse.lookup z) = bindL (envOfC q (sc2 x y) L a cd).kindOf ([x, y].zip [u, v]) fun _ => none := by
  have k1 : (envOfC q (sc2 x y) L a cd).kindOf x = some .local := by
    show List.lookup x [(x, NameKind.local), (y, .local)] = _
    simp [List.lookup]
  have k2 : (envOfC q (sc2 x y) L a cd).kindOf y = some .local := by
    have e2 : (y == x) = false := by simpa using fun q : y = x => h q.symm
    show List.lookup y [(x, NameKind.local), (y, .local)] = _
    simp [List.lookup, e2]
  funext z
  show List.lookup z [(y, v), (x, u)] = bindL (envOfC q (sc2 x y) L a cd).kindOf [(x, u), (y, v)] (fun _ => none) z
  simp only [bindL]
  rw [if_pos k1, if_pos k2]
  by_cases e : z = y
  · rw [if_pos e]
    subst e
    simp [List.lookup]
  · rw [if_neg e]
    have e2 : (z == y) = false := by simpa using e
    by_cases e3 : z = x
    · rw [if_pos e3]
      subst e3
      simp [List.lookup, e2]
    · rw [if_neg e3]
      have e4 : (z == x) = false := by simpa using e3
      simp [List.lookup, e2, e4]
section
variable {P : Program} {w : World} {K : PySem.W.Frag} {mg : MG} {base : Heap} {C fI : Addr} {qual x y f : Str} {args : Arguments} {sc : Scope} {p0 p1 p2 p3 p4 p5 p6 p7 p8 p9 : Pos}
abbrev initBody (x y f : Str) (p0 p1 p2 p3 p4 p5 p6 p7 p8 p9 : Pos) : List Stmt :=
  [.Expr (.Call (.Attribute (.Call (.Name "super" p0) [] [] p1) "__init__" p2) [.Name y p3] [] p4) p5, .Assign [.Attribute (.Name x p6) f p7] (.Name y p8) p9]
open PySem.W in
theorem init_ok {pl : Sem Bool} (T : InitC P K C fI qual args (initBody x y f p0 p1 p2 p3 p4 p5 p6 p7 p8 p9) sc f) (Sh : InitS P args sc x y) (hm : mg "super" = none)
    (hb : ∀ (kV doc pm cdv ct : Value) (an : Option Addr) (cc : Addr) (us : List Value), us.length = [x, y].length → bindArgs (ksFn "__init__" qual args (initBody x y f p0 p1 p2 p3 p4 p5 p6 p7 p8 p9) sc .none kV doc pm an cdv ct cc) ⟨us, []⟩ = pure ([x, y].zip us))
    (hmc : ∀ env : Env, env.scope = sc → eval (.Call (.Attribute (.Call (.Name "super" p0) [] [] p1) "__init__" p2) [.Name y p3] [] p4) env = (do
      let ov ← attributeBase (.Call (.Name "super" p0) [] [] p1) "__init__" env (eval (.Call (.Name "super" p0) [] [] p1) env)
      standAt p2.atName
      let (f, first) ← holding [ov] (getMethod ov "__init__" pl)
      callWith p4 f first (backTo p4 (starEach [.Name y p3] env)) []))
    (hin : ∀ env : Env, env.scope = sc → interactive env = false) :
    ∃ fd, FnOk P w K mg base CX0 1 fI fd [x, y] (spInit C f) ∧ Binds K fd [x, y] [] := by
  obtain ⟨oc, od, kV, doc, pm, ct, an, osl, cda, cc, ccl, cl, cdd, cld, vs, ccs, csl, file, tf, lk, hcd, lc, hvs, hfile, lcell⟩ := T.fn
  refine ⟨_, ⟨fun vs H Q E h => ?_, fun A outer s H ar us zs Q E hr e0 hbd r h => ?_⟩, .all fun us hl => hb kV doc pm (.ref cda) ct an cc us hl⟩
  · obtain ⟨a, v, e, _⟩ := h
    rw [e]
    rfl
  obtain ⟨a, v, e, ha, h⟩ := h
  subst e
  cases r with
  | @cons _ u0 _ ur r1 r =>
  cases r with
  | @cons _ u1 _ ur2 r2 r =>
  cases r
  obtain rfl : u0 = Value.ref a := r1
  have KX : K.In s.heap := e0.mod.kin.keeps fun b o e => (e0.bs b o e).1
  have lim : s.heap.NoLimit := e0.mod.nolimit.keeps fun b o e => (e0.bs b o e).1
  refine ks_codeAny_call_defAt (fd := ksFn "__init__" qual args (initBody x y f p0 p1 p2 p3 p4 p5 p6 p7 p8 p9) sc .none kV doc pm an (.ref cda) ct cc) (body := initBody x y f p0 p1 p2 p3 p4 p5 p6 p7 p8 p9) (binds := [x, y].zip [.ref a, u1])
    hr.depth (KX _ _ lk) rfl lim (codeRec_of KX hcd) rfl hbd Sh.cell (fun z hz => ?_) (fun h₁ hns hk₁ => ?_) Sh.co Sh.gen Sh.kind
  · have hz' : z = (x, .ref a) ∨ z = (y, u1) := by simpa using hz
    rcases hz' with q | q
    · subst q
      exact Sh.lx
    · subst q
      exact Sh.ly
  · rw [bind2 (q := qual) (L := s.heap.objs.size) (a := fI) (cd := .ref cda) Sh.ne] at hns
    have I : Inv (cxOf CX0 P w K mg base [x, y] qual (sc2 x y) fI (.ref cda) A outer s H E) [] (start [x, y] [.ref a, v]) H { s with heap := h₁, toks := s.toks + ([x, y].zip [Value.ref a, u1]).length } :=
      inv_start (sc2_ok Sh.ne) hr.hd e0 rfl (.cons rfl (.cons r2 .nil)) ⟨⟨⟨h₁, _, rfl⟩, hns, hk₁, Nat.le_refl _⟩, (fun n c e => by cases e), List.Pairwise.nil, (fun n c e => by cases e)⟩
    obtain ⟨ar, har, ear⟩ := Sh.fst
    obtain ⟨mb, hbl, hbb⟩ := e0.mod.blt
    obtain ⟨nm, q, N, bs, bm, sn, sub, ab, col, dd, k0, k1, k2, k3, k5, hC, hbm⟩ := T.oex.cls
    have hcl : clsIn K C = some { name := nm, bases := bs, mro := .ref C :: bm, ns := N, qualname := q, hasDict := true, slotNames := sn, subclasses := sub, abstract := ab, collection := col, hasDel := false } := by unfold clsIn; rw [hC] <;> rfl
    -- the values of the names
    have at0 : ∀ {H' : Hp} {s' : Shared} {i : Nat} {z : Str} {b : V}, Inv (cxOf CX0 P w K mg base [x, y] qual (sc2 x y) fI (.ref cda) A outer s H E) [] (start [x, y] [.ref a, v]) H' s' → [x, y][i]? = some z → (start [x, y] [V.ref a, v])[i]? = some (some b) → List.lookup z (sc2 x y).names = some .local →
        ∃ u m, RelV b u ∧ s'.heap.Ns s.heap.objs.size m ∧ m z = some u := fun {H' s' i z b} J h1 h2 h3 => by
      obtain ⟨m, hn, hl⟩ := J.loc
      obtain ⟨u, r, k⟩ := hl i z b h1 h2 (.inl h3)
      rcases k with ⟨_, k⟩ | ⟨k, _⟩
      · exact ⟨u, m, r, hn, k⟩
      · have k' : List.lookup z (sc2 x y).names = some .cell ∨ List.lookup z (sc2 x y).names = some .free := k
        rw [h3] at k'
        rcases k' with k' | k' <;> cases k'
    have lx : List.lookup x (sc2 x y).names = some .local := by simp [List.lookup]
    have ly : List.lookup y (sc2 x y).names = some .local := by
      have e2 : (y == x) = false := by simpa using fun q : y = x => Sh.ne q.symm
      simp [List.lookup, e2]
    have K1 : K.In h₁ := I.kIn
    obtain ⟨t1, ho⟩ := exo_at I.hok ha
    obtain ⟨_, m, ru, hn, hx⟩ := at0 (i := 0) I rfl rfl lx
    cases ru
    refine ks_wpAt_execs_cons (ks_wpAt_Expr_any (ks_wpAt_MethodCall ?_ (hmc _ rfl)) (hin _ rfl))
    refine ks_wpAt_super_base (file := file) (tf := tf) Sh.sup Sh.cls (by decide) rfl (K1 _ _ lk) rfl har rfl (K1 _ _ lc) rfl hvs (by rw [hfile]; simp) Sh.top ?_
    refine ks_loadName_global Sh.kind Sh.sup (PySem.Calls.loadGlobal_builtin (e0.mod.glob.keeps I.bk) hm (hbl.keeps I.bk) ((hbb _ (by decide)).trans (by first | rfl | kernel_rfl)) ⟨rfl, ?_⟩)
    refine wpAny_loadName_free Sh.kind Sh.cls rfl ⟨_, K1 _ _ lcell, rfl⟩ ?_ (by decide)
    rw [ear]
    refine wpAny_loadName_local Sh.kind Sh.lx hn hx ?_
    refine ks_wpAny_isType_cls (K1 _ _ hC) rfl ⟨rfl, ?_⟩
    refine ks_wpAny_call_super (K1 _ _ hC) rfl ho rfl (fun c e => by cases e) (looks_mroIn K1 T.mro) (fun h2 e2 kk2 => ?_)
    have I2 := I.kept (t' := s.toks + ([x, y].zip [Value.ref a, u1]).length) (h' := h2) kk2
    have K2 : K.In h2 := I2.kIn
    have J2 : PySem.W.InstAt h2 a { cls := .ref C, data := .fields #[.ref t1, .none, .none, .none, .bool false, .none] } C none := ⟨kk2 _ _ ho, rfl, rfl, trivial⟩
    have hsup : alongIn K "__init__" (((Value.ref C :: bm).dropWhile (· != .ref C)).drop 1) = some (some (.builtin "ValueError.__init__")) := by
      have z := T.sup
      unfold ks_superIn at z
      rw [hcl] at z
      exact z
    refine kxs_getMethod kxs_ValueError e2 (looks_opaque K2 T.opq) (l₀ := Value.ref C :: bm) (fun A Q E s k q => wpAny_bind ((looks_clsIn K2 hcl) A _ E s k (wpAny_pure q))) rfl K2 hsup (J2.type.andThen (looks_subIn K2 T.sub)) (ks_ne K2 J2 hcl) (by decide) ?_
    have kk3 : ∀ b o, h2.get? b = some o → (h2.push (kxs_mw "ValueError.__init__" a)).get? b = some o := fun b o e => Heap.get?_push_of_some _ e
    have I3 := I2.kept (t' := s.toks + ([x, y].zip [Value.ref a, u1]).length + 1) (h' := h2.push (kxs_mw "ValueError.__init__" a)) kk3
    have hu : (h2.push (kxs_mw "ValueError.__init__" a)).get? h2.objs.size = some (kxs_mw "ValueError.__init__" a) := Heap.get?_push_size _ rfl
    obtain ⟨u2, m2, ru2, hn2, hx2⟩ := at0 (i := 1) I3 rfl rfl ly
    refine kxs_callWith (i := "ValueError.__init__") (x := a) rfl ?_
    show wpAny _ _ (evalArgs (.ref h2.objs.size) true ((false, eval (.Name y p3) _) :: backTo p4 (starEach [] _)) []) _ _ _
    refine Calls.evalArgs_plain (Calls.spliced_cons (wpAny_Name (wpAny_loadName_local Sh.kind Sh.ly hn2 hx2 ?_) Sh.dy))
    refine Calls.spliced_nil ⟨hu, ?_⟩
    refine mw_call T.oex I3.kIn hu (kk3 _ _ (kk2 _ _ ho)) (by show 1 ≤ sizeLine; rw [sizeLine_eq]; omega) (fun h4 t4 kk4 e4 => ?_)
    have I4 := I3.write (t' := s.toks + ([x, y].zip [Value.ref a, u1]).length + 1) (x := a) (e := a) (o := exo a C none) (h' := h4) (by rw [ha]; exact True.intro) (.inl rfl) kk4 ⟨_, e4⟩ (exo_ok e4)
    have eu : upd H a (exo a C none) = H := by
      funext b
      by_cases hb : b = a
      · rw [hb, upd_same, ha]
      · rw [upd_ne hb]
    rw [eu] at I4
    obtain ⟨u3, m3, ru3, hn3, hx3⟩ := at0 (i := 1) I4 rfl rfl ly
    obtain ⟨_, m4, ru4, hn4, hx4⟩ := at0 (i := 0) I4 rfl rfl lx
    cases ru4
    refine ks_wpAt_execs_cons (ks_wpAt_Assign_Attr (wpAt_of_wpAny (wpAny_Name (wpAny_loadName_local Sh.kind Sh.ly hn3 hx3 ?_) Sh.dy)))
    refine wpAny_Name (wpAny_loadName_local Sh.kind Sh.lx hn4 hx4 ?_) Sh.dx
    refine ost_new T.oex I4 ha T.fld ru3 fun dx s' n ne J => ?_
    exact wpAt_of_wpAny (wpAny_execs_nil ⟨.non, _, J.os, J.bare, J.base, J.hok, rfl, h dx n ne⟩)
end
end DL
set_option maxHeartbeats 1000000
namespace DL
open PySem PySem.Spec PyProof.Rows L2
/-! ### raise x(e): an own class whose __init__ stores e as f -/
structure RaiseC (P : Program) (w : World) (K : PySem.W.Frag) (mg : MG) (base : Heap) (x f : Str) : Prop where
  ex : ∃ (C fI : Addr) (fd : FuncData) (ps : List Str), OexC K C ∧ PySem.W.findIn K (.ref C) "__init__" = some (some (.ref fI)) ∧ PySem.W.typeIn K (.ref fI) = some (.type "function") ∧ FnOk P w K mg base CX0 1 fI fd ps (spInit C f) ∧ Binds K fd ps [] ∧ mg x = some (.ref C)
def dRaise (ED : Exc → Nat → Prop) (x f : Str) (de : DE) : DSt := fun _ S => de S fun d S1 => ED (x, f, d) S1.n
section
variable {c : Ct} {X : Cx}
theorem pds_raise {x f : Str} {e : Expr} {de : DE} {p pos pos2 : Pos} (R : RaiseC X.prog X.w X.K X.mg X.base x f) (L : Lnk c X.K X.mg) (hc : X.calm = true) (tk : Takes X fun cls d _ H => c.E cls d H) (hr : Room 2 X.A) (hg : Gl X x) (he : PDE c X e de)
    (hdb : (x == ("__debug__" : Str)) = false := by decide) (hs : starEach [e] X.env = (false, eval e X.env) :: starEach [] X.env := by rfl) : PDS c X (.Raise (some (.Call (.Name x p) [e] [] pos)) none pos2) (dRaise c.ED x f de) := by
  obtain ⟨C, fI, fd, ps, T, iC, tI, F1, hb, hm⟩ := R.ex
  obtain ⟨te, e1, e2⟩ := he
  refine ⟨_, ps_raise hc tk (pmk_oex (ds := []) (dvs := []) T iC tI F1 hr hb .nil pass0 hg hm (pa_cons e1 pa_nil hs) hdb hs), fun σ G H S B E R' h1 h2 h3 h4 h => ?_⟩
  refine e2 σ G H S _ _ R' (fun v H1 ⟨G1, S1, d, A, r, q⟩ => ?_) h
  refine ⟨by show 1 ≤ 1000; omega, fun a na => ⟨a, v, rfl, upd_same, fun dx nd ne => ⟨rfl, dx, [(f, v)], upd_same, ?_, ?_, ?_⟩⟩⟩
  · rw [upd_ne ne, upd_same]
  · rw [upd_ne ne] at nd
    exact nd
  · rw [upd_ne ne] at nd
    have eH : upd (del (upd (upd (upd H1 a (exo a C none)) dx (exd dx [(f, v)])) a (exo a C (some dx))) a) dx (.xd [(f, v)]) = upd H1 dx (.xd [(f, v)]) := by
      funext b
      by_cases hb : b = dx
      · rw [hb, upd_same, upd_same]
      · rw [upd_ne hb, upd_ne hb]
        by_cases ha : b = a
        · rw [ha, del_same, na]
        · rw [del_ne ha, upd_ne ha, upd_ne hb, upd_ne ha]
    show c.E (.ref C) (some dx) (upd (del (upd (upd (upd H1 a (exo a C none)) dx (exd dx [(f, v)])) a (exo a C (some dx))) a) dx (.xd [(f, v)]))
    rw [eH]
    have g : Gw c.T 0 G1 H1 _ _ := .alloc (o := .xd [(f, v)]) A.rp.sub nd
    exact lnk_at L σ G1 H1 S1 A.rp x f d 0 v C dx _ _ (Nat.zero_le _) g hm upd_same (r.up g.le (by omega)) q
end
/-! ### calls of defs that a name holds, with keywords -/
def pickG {α : Type} (z : α) (perm : List (Bool × Nat)) (us ws : List α) : List α := perm.map fun p => (if p.1 then us else ws).getD p.2 z
theorem vals_getD : ∀ {vs : List V} {us : List Value} (i : Nat), Vals vs us → RelV (vs.getD i .non) (us.getD i .none)
  | _, _, _, .nil => rfl
  | _, _, 0, .cons a _ => a
  | _, _, i + 1, .cons _ b => vals_getD i b
theorem repAll_getD {K : PySem.W.Frag} {mg : MG} {G : Hp} {n : Nat} : ∀ {vs : List V} {us : List D} (i : Nat), RepAll K mg G n vs us → Rep K mg G n (vs.getD i .non) (us.getD i .non)
  | _, _, _, .nil => .non
  | _, _, 0, .cons a _ => a
  | _, _, i + 1, .cons _ b => repAll_getD i b
theorem vals_pick {vs zs : List V} {us ws : List Value} (r : Vals vs us) (rz : Vals zs ws) : ∀ perm : List (Bool × Nat), Vals (pickG .non perm vs zs) (pickG .none perm us ws)
  | [] => .nil
  | (true, i) :: p => .cons (vals_getD i r) (vals_pick r rz p)
  | (false, i) :: p => .cons (vals_getD i rz) (vals_pick r rz p)
theorem repAll_pick {K : PySem.W.Frag} {mg : MG} {G : Hp} {n : Nat} {vs zs : List V} {us ws : List D} (r : RepAll K mg G n vs us) (rz : RepAll K mg G n zs ws) : ∀ perm : List (Bool × Nat), RepAll K mg G n (pickG .non perm vs zs) (pickG .non perm us ws)
  | [] => .nil
  | (true, i) :: p => .cons (repAll_getD i r) (repAll_pick r rz p)
  | (false, i) :: p => .cons (repAll_getD i rz) (repAll_pick r rz p)
/-- the def x keeps m, called with np values and the keywords ks -/
structure CanK (P : Program) (w : World) (K : PySem.W.Frag) (mg : MG) (base : Heap) (T : TT0) (CX : CXT) (k : Nat) (x : Str) (np : Nat) (ks : List Str) (perm : List (Bool × Nat)) (m : MT) : Prop where
  ex : ∃ f fd ps, FnOk P w K mg base CX k f fd ps (spD T K mg ps.length m) ∧ mg x = some (.ref f) ∧ PySem.W.keepIn K (.ref f) = true ∧ KBn K fd ps np ks (pickG .none perm) (pickG .non perm) ∧ ∀ ds n Q E, m ds n Q E → ds.length = ps.length
theorem CalD.canK {P : Program} {w : World} {K : PySem.W.Frag} {mg : MG} {base : Heap} {T : TT0} {CX : CXT} {j k : Nat} {x : Str} {st : Stmt} {ps : List Str} {m : MT} {np : Nat} {ks : List Str} {perm : List (Bool × Nat)} (C : CalD P w K mg base T CX j x st ps m) (hk : j ≤ k)
    (hb : ∀ (kV doc pm : Value) (an : Option Addr) (cdv ct : Value) (us ws : List Value), us.length = np → ws.length = ks.length → bindArgs (PySem.W.fnOf x x (defArgs st) (defBody st) (defScope st) .none kV doc pm an cdv ct) ⟨us, ks.zip ws⟩ = pure (ps.zip (pickG .none perm us ws))) :
    CanK P w K mg base T CX k x np ks perm m := by
  obtain ⟨f, fd, F, G, hm⟩ := C.ex
  obtain ⟨oc, od, kV, doc, pm, an, cdv, ct, osl, efd, lk, hcd⟩ := F.ex
  refine ⟨⟨f, fd, ps, G.mono hk, hm, F.kp, ⟨fun s us ws X l1 l2 => ?_, fun r rz => vals_pick r rz perm⟩, C.ar⟩⟩
  rw [efd]
  exact .of_eq (hb kV doc pm an cdv ct us ws l1 l2)
def tCallG (P : Program) (w : World) (K : PySem.W.Frag) (mg : MG) (base : Heap) (CX : CXT) (k : Nat) (ks : List Str) (E : XK) (tf : TE) (t tk : TA) : TE := fun σ H Q => tf σ H fun v H0 => ∃ f fd ps sp np g gV, v = .ref f ∧ FnOk P w K mg base CX k f fd ps sp ∧ PySem.W.keepIn K (.ref f) = true ∧ KBn K fd ps np ks g gV ∧
  t σ H0 fun vs H1 => tk σ H1 fun zs H2 => vs.length = np ∧ zs.length = ks.length ∧ sp (gV vs zs) H2 Q E
section
variable {X : Cx} {CX : CXT} {k : Nat} {ks : List Str} {E : XK} {x : Str} {p pos : Pos} {e : Expr} {es : List Expr} {kws : List Keyword} {tf : TE} {t tk : TA}
/-- x(e, .., k = v, ..) -/
theorem pe_callG (hf : PE X (.Name x p) tf) (hr : Room k X.A) (hx : Passes CX X E) (ha : PA X (e :: es) t) (hkw : PK X kws tk) (hall : (backToKw pos (keywordEach kws X.env)).all (·.1.isSome) = true := by rfl) (hks : (backToKw pos (keywordEach kws X.env)).filterMap (·.1) = ks := by rfl)
    (he : starEach (e :: es) X.env = (false, eval e X.env) :: starEach es X.env := by rfl) (hpl : ((backTo pos (starEach (e :: es) X.env)).any (·.1) || (backToKw pos (keywordEach kws X.env)).any (·.1.isNone)) = false := by rfl) :
    PE X (.Call (.Name x p) (e :: es) kws pos) (tCallG X.prog X.w X.K X.mg X.base CX k ks E tf t tk) := by
  refine ⟨fun pins s σ H Q I h => ?_⟩
  refine wpAny_Call_Name_kw (thn (hf.run pins s σ H _ I h) fun u s0 hh => ?_)
  obtain ⟨v, H0, I0, r0, f, fd, ps, sp, np, g, gV, ev, F, hk, hb, hq⟩ := hh
  subst ev
  obtain rfl : u = Value.ref f := r0
  refine PySem.W.callWith_KW (h₀ := X.base) I0.ok.mod.kin hk hall (thn (ha.run pos pins s0 σ H0 _ I0 hq) fun us s1 ⟨vs, H1, I1, r, q⟩ => ?_) hpl he
  refine thn (hkw.run pos pins s1 σ H1 _ I1 q) fun ws s2 ⟨zs, H2, I2, rz, l1, l2, q2⟩ => ⟨I2.kIn, ?_⟩
  rw [hks]
  exact run_fnN F hr hb hx I2 r rz l1 l2 q2
/-- x(k = v, ..) -/
theorem pe_callG0 (hf : PE X (.Name x p) tf) (hr : Room k X.A) (hx : Passes CX X E) (hkw : PK X kws tk) (hall : (backToKw pos (keywordEach kws X.env)).all (·.1.isSome) = true := by rfl) (hks : (backToKw pos (keywordEach kws X.env)).filterMap (·.1) = ks := by rfl)
    (hpl : ((backTo pos (starEach [] X.env)).any (·.1) || (backToKw pos (keywordEach kws X.env)).any (·.1.isNone)) = false := by rfl) :
    PE X (.Call (.Name x p) [] kws pos) (tCallG X.prog X.w X.K X.mg X.base CX k ks E tf tNil tk) := by
  refine ⟨fun pins s σ H Q I h => ?_⟩
  refine wpAny_Call_Name_kw (thn (hf.run pins s σ H _ I h) fun u s0 hh => ?_)
  obtain ⟨v, H0, I0, r0, f, fd, ps, sp, np, g, gV, ev, F, hk, hb, hq⟩ := hh
  subst ev
  obtain rfl : u = Value.ref f := r0
  refine PySem.W.callWith_KW0 (h₀ := X.base) I0.ok.mod.kin hk hall ?_ hpl
  refine thn (hkw.run pos pins s0 σ H0 _ I0 hq) fun ws s2 ⟨zs, H2, I2, rz, l1, l2, q2⟩ => ⟨I2.kIn, ?_⟩
  rw [hks]
  exact run_fnN (us := []) (vs := []) F hr hb hx I2 .nil rz l1 l2 q2
/-- x(e, ..) -/
theorem pe_callGP (hf : PE X (.Name x p) tf) (hr : Room k X.A) (hx : Passes CX X E) (ha : PA X (e :: es) t)
    (he : starEach (e :: es) X.env = (false, eval e X.env) :: starEach es X.env := by rfl) (hpl : (backTo pos (starEach es X.env)).any (·.1) = false := by rfl) :
    PE X (.Call (.Name x p) (e :: es) [] pos) (tCallG X.prog X.w X.K X.mg X.base CX k [] E tf t tNil) := by
  refine ⟨fun pins s σ H Q I h => ?_⟩
  refine wpAny_Call_Name_kw (thn (hf.run pins s σ H _ I h) fun u s0 hh => ?_)
  obtain ⟨v, H0, I0, r0, f, fd, ps, sp, np, g, gV, ev, F, hk, hb, hq⟩ := hh
  subst ev
  obtain rfl : u = Value.ref f := r0
  refine PySem.W.callWith_K (h₀ := X.base) I0.ok.mod.kin hk (thn (ha.run pos pins s0 σ H0 _ I0 hq) fun us s1 ⟨vs, H1, I1, r, l1, l2, q⟩ => ⟨I1.kIn, ?_⟩) he hpl
  exact run_fnN (ws := []) (zs := []) F hr hb hx I1 r .nil l1 l2 q
end
/-! ### .. as data -/
def PDK (c : Ct) (X : Cx) (kws : List Keyword) (de : DA) : Prop := ∃ t, PK X kws t ∧ SimA c X.K X.mg t de
/-- the names fs that the value may be, each with its promise -/
def dCallG (xs : List Str) (fs : Str → MT) (ED : Exc → Nat → Prop) (np nk : Nat) (perm : List (Bool × Nat)) (df : DE) (das dks : DA) : DE := fun S Q => df S fun x S0 => ∃ y, x = .fn y ∧ y ∈ xs ∧ das S0 fun us S1 => dks S1 fun ws S2 => us.length = np ∧ ws.length = nk ∧
  fs y (pickG .non perm us ws) S2.n (fun d n' => n' ≤ S2.n → Q d { S2 with n := n' }) ED
section
variable {c : Ct} {X : Cx} {CX : CXT}
theorem pda_knil : PDK c X [] dNil := by
  obtain ⟨t, _, h⟩ := pda_nil (c := c) (X := X)
  exact ⟨_, pk_nil, fun σ G H S Qd Q R hQ h => hQ [] H ⟨G, S, [], .refl R, .nil, h⟩⟩
theorem pda_kcons {nm : Option Str} {e : Expr} {kws : List Keyword} {kpos : Pos} {de : DE} {ds : DA} (h : PDE c X e de) (g : PDK c X kws ds) : PDK c X (⟨nm, e, kpos⟩ :: kws) (dCons de ds) := by
  obtain ⟨ta, a1, a2⟩ := h
  obtain ⟨tb, b1, b2⟩ := g
  refine ⟨_, pk_cons a1 b1, fun σ G H S Qd Q R hQ h => ?_⟩
  refine a2 σ G H S _ _ R (fun x H1 ⟨G1, S1, dx, A1, r1, h1⟩ => ?_) h
  refine b2 σ G1 H1 S1 _ _ A1.rp (fun xs H2 ⟨G2, S2, dxs, A2, r2, h2⟩ => ?_) h1
  exact hQ _ H2 ⟨G2, S2, _, A1.trans A2, .cons (A2.rep r1) r2, h2⟩
theorem simCallG {k np : Nat} {ks : List Str} {perm : List (Bool × Nat)} {E : XK} {ED : Exc → Nat → Prop} {tf : TE} {t tk : TA} {xs : List Str} {fs : Str → MT} {df : DE} {das dks : DA} (hC : ∀ y ∈ xs, CanK X.prog X.w X.K X.mg X.base c.T CX k y np ks perm (fs y))
    (hf : SimE c X.K X.mg tf df) (ha : SimA c X.K X.mg t das) (hk : SimA c X.K X.mg tk dks)
    (hE : ∀ σ G H S, Rp c X.K X.mg σ G H S → ∀ x f d k v C dd G' H', k ≤ S.n → Gw c.T k G H G' H' → X.mg x = some (.ref C) → H' dd = some (.xd [(f, v)]) → Rep X.K X.mg G' (S.n - k) v d → ED (x, f, d) (S.n - k) → E (.ref C) (some dd) H') :
    SimE c X.K X.mg (tCallG X.prog X.w X.K X.mg X.base CX k ks E tf t tk) (dCallG xs fs ED np ks.length perm df das dks) := by
  intro σ G H S Qd Q R hQ h
  refine hf σ G H S _ _ R (fun v H0 ⟨G0, S0, d0, A0, r0, q00⟩ => ?_) h
  obtain ⟨y, ey, hy, q0⟩ := q00
  subst ey
  obtain ⟨f, fd, ps, F, hm, hkp, hb, har⟩ := (hC y hy).ex
  have ev : v = .ref f := by
    cases r0 with
    | fn h1 =>
      rw [hm] at h1
      cases h1
      rfl
  refine ⟨f, fd, ps, _, np, _, _, ev, F, hkp, hb, ?_⟩
  refine ha σ G0 H0 S0 _ _ A0.rp (fun vs H1 ⟨G1, S1, us, A1, r1, q1⟩ => ?_) q0
  refine hk σ G1 H1 S1 _ _ A1.rp (fun zs H2 ⟨G2, S2, ws, A2, r2, q02⟩ => ?_) q1
  obtain ⟨l1, l2, q2⟩ := q02
  have A := (A0.trans A1).trans A2
  have rr := repAll_pick (A2.repAll r1) r2 perm
  refine ⟨by rw [r1.length]; exact l1, by rw [r2.length]; exact l2, ?_, G2, _, S2.n, _, ED, A2.rp.sub, A2.rp.tabs, rr, q2, fun v d k' G' H' hk' g r q => ?_, hE σ G2 H2 S2 A2.rp⟩
  · rw [rr.length]
    exact har _ _ _ _ q2
  · exact hQ v H' ⟨G', { S2 with n := S2.n - k' }, d, A.trans (Aft.gw A2.rp g hk'), r, q (Nat.sub_le _ _)⟩
theorem noE {K : PySem.W.Frag} {mg : MG} : ∀ σ G H S, Rp c K mg σ G H S → ∀ x f d k v C dd G' H', k ≤ S.n → Gw c.T k G H G' H' → mg x = some (.ref C) → H' dd = some (.xd [(f, v)]) → Rep K mg G' (S.n - k) v d → ED0 (x, f, d) (S.n - k) → E0 (.ref C) (some dd) H' :=
  fun _ _ _ _ _ _ _ _ _ _ _ _ _ _ _ _ _ _ _ z => z.elim
/-- how what a callee lets out is met -/
structure Lk (c : Ct) (X : Cx) (CX : CXT) (ED : Exc → Nat → Prop) : Prop where
  ex : ∃ E : XK, Passes CX X E ∧ ∀ σ G H S, Rp c X.K X.mg σ G H S → ∀ x f d k v C dd G' H', k ≤ S.n → Gw c.T k G H G' H' → X.mg x = some (.ref C) → H' dd = some (.xd [(f, v)]) → Rep X.K X.mg G' (S.n - k) v d → ED (x, f, d) (S.n - k) → E (.ref C) (some dd) H'
/-- it lets nothing out -/
theorem lk0 : Lk c X CX0 ED0 := ⟨_, pass0, noE⟩
/-- it could, but not here -/
theorem lkN : Lk c X (L2.CX X.prog X.w) ED0 := ⟨E0, fun pins σ H s e s' I h => by
  obtain ⟨_, _, _, _, _, _, _, _, _, _, _, _, z⟩ := h
  exact z.elim, noE⟩
/-- what it lets out leaves -/
theorem lkX (L : Lnk c X.K X.mg) (hx : Passes (L2.CX X.prog X.w) X c.E) : Lk c X (L2.CX X.prog X.w) c.ED := ⟨_, hx, lnk_at L⟩
/-- a call of a def by its name -/
theorem pd_callZ {ED : Exc → Nat → Prop} {k : Nat} {x : Str} {st : Stmt} {ps : List Str} {m : MT} {a : Expr} {es : List Expr} {das : DA} {p pos : Pos} (C : CalD X.prog X.w X.K X.mg X.base c.T CX k x st ps m) (lk : Lk c X CX ED) (hr : Room k X.A) (hg : Gl X x)
    (hb : ∀ (kV doc pm : Value) (an : Option Addr) (cdv ct : Value) (us : List Value), us.length = ps.length → bindArgs (PySem.W.fnOf x x (defArgs st) (defBody st) (defScope st) .none kV doc pm an cdv ct) ⟨us, []⟩ = pure (ps.zip us))
    (ha : PDA c X (a :: es) das) (hdb : (x == ("__debug__" : Str)) = false := by decide) (he : starEach (a :: es) X.env = (false, eval a X.env) :: starEach es X.env := by rfl) (hpl : (backTo pos (starEach es X.env)).any (·.1) = false := by rfl) :
    PDE c X (.Call (.Name x p) (a :: es) [] pos) (dCall ED m das) := by
  obtain ⟨f, fd, F, G, hm⟩ := C.ex
  obtain ⟨ta, a1, a2⟩ := ha
  obtain ⟨E, hx, hE⟩ := lk.ex
  exact ⟨_, pe_call G hr hg hm F.kp (F.binds hb) .nil hx a1 hdb he hpl, simCall a2 C.ar hE⟩
section
variable {ED : Exc → Nat → Prop} {k np : Nat} {ks : List Str} {perm : List (Bool × Nat)} {xs : List Str} {fs : Str → MT} {df : DE} {das dks : DA} {x : Str} {p pos : Pos} {e : Expr} {es : List Expr} {kws : List Keyword}
theorem simNil {K : PySem.W.Frag} {mg : MG} : SimA c K mg tNil dNil := fun σ G H S Qd Q R hQ h => hQ [] H ⟨G, S, [], .refl R, .nil, h⟩
/-- a call of what the name holds -/
theorem pd_callG (xs : List Str) (fs : Str → MT) (hC : ∀ y ∈ xs, CanK X.prog X.w X.K X.mg X.base c.T CX k y np [] perm (fs y)) (lk : Lk c X CX ED) (hr : Room k X.A) (hf : PDE c X (.Name x p) df) (ha : PDA c X (e :: es) das)
    (he : starEach (e :: es) X.env = (false, eval e X.env) :: starEach es X.env := by rfl) (hpl : (backTo pos (starEach es X.env)).any (·.1) = false := by rfl) : PDE c X (.Call (.Name x p) (e :: es) [] pos) (dCallG xs fs ED np 0 perm df das dNil) := by
  obtain ⟨tf, f1, f2⟩ := hf
  obtain ⟨ta, a1, a2⟩ := ha
  obtain ⟨E, hx, hE⟩ := lk.ex
  exact ⟨_, pe_callGP f1 hr hx a1 he hpl, simCallG hC f2 a2 simNil hE⟩
/-- .. with keywords -/
theorem pd_callGK (xs : List Str) (fs : Str → MT) (hC : ∀ y ∈ xs, CanK X.prog X.w X.K X.mg X.base c.T CX k y np ks perm (fs y)) (lk : Lk c X CX ED) (hr : Room k X.A) (hf : PDE c X (.Name x p) df) (ha : PDA c X (e :: es) das) (hkw : PDK c X kws dks)
    (hall : (backToKw pos (keywordEach kws X.env)).all (·.1.isSome) = true := by rfl) (hks : (backToKw pos (keywordEach kws X.env)).filterMap (·.1) = ks := by rfl)
    (he : starEach (e :: es) X.env = (false, eval e X.env) :: starEach es X.env := by rfl) (hpl : ((backTo pos (starEach (e :: es) X.env)).any (·.1) || (backToKw pos (keywordEach kws X.env)).any (·.1.isNone)) = false := by rfl) :
    PDE c X (.Call (.Name x p) (e :: es) kws pos) (dCallG xs fs ED np ks.length perm df das dks) := by
  obtain ⟨tf, f1, f2⟩ := hf
  obtain ⟨ta, a1, a2⟩ := ha
  obtain ⟨tk, k1, k2⟩ := hkw
  obtain ⟨E, hx, hE⟩ := lk.ex
  exact ⟨_, pe_callG f1 hr hx a1 k1 hall hks he hpl, simCallG hC f2 a2 k2 hE⟩
theorem pd_callGK0 (xs : List Str) (fs : Str → MT) (hC : ∀ y ∈ xs, CanK X.prog X.w X.K X.mg X.base c.T CX k y 0 ks perm (fs y)) (lk : Lk c X CX ED) (hr : Room k X.A) (hf : PDE c X (.Name x p) df) (hkw : PDK c X kws dks)
    (hall : (backToKw pos (keywordEach kws X.env)).all (·.1.isSome) = true := by rfl) (hks : (backToKw pos (keywordEach kws X.env)).filterMap (·.1) = ks := by rfl)
    (hpl : ((backTo pos (starEach [] X.env)).any (·.1) || (backToKw pos (keywordEach kws X.env)).any (·.1.isNone)) = false := by rfl) :
    PDE c X (.Call (.Name x p) [] kws pos) (dCallG xs fs ED 0 ks.length perm df dNil dks) := by
  obtain ⟨tf, f1, f2⟩ := hf
  obtain ⟨tk, k1, k2⟩ := hkw
  obtain ⟨E, hx, hE⟩ := lk.ex
  exact ⟨_, pe_callG0 f1 hr hx k1 hall hks hpl, simCallG hC f2 simNil k2 hE⟩
end
end
end DL
set_option maxHeartbeats 2000000
namespace DL
open PySem PySem.Spec PyProof.Rows L2
open LamX (Tabs ExtN CodeO TabB LamS GivesTo tLam lamCx lamEnv)
/-! ### a def that tries what it is given -/
/-- try: a() / except x as n: return n.f -- then return ret -/
def TRef (K : PySem.W.Frag) (C : Addr) (f ret : Str) : (XK → Hp → VK → Prop) → Hp → VK → Prop := fun tl H Q =>
  tl (fun cls d H' => ∃ b, PySem.W.exmOne K cls (.ref C) = some b ∧ (b = true → cls = .ref C ∧ ∃ (dd : Addr) (fs : List (Str × V)) (v : V), d = some dd ∧ H' dd = some (.xd fs) ∧ fs.lookup f = some v ∧ Q v H') ∧ (b = false → False)) H fun _ H' => Q (.str ret) H'
abbrev refBody (a x n f ret : Str) (j : Nat) (p1 p2 p3 p4 p5 p6 p7 p8 p9 p10 p11 : Pos) : List Stmt :=
  [.Try [.Expr (.Call (.Name a p1) [] [] p2) p3] [.ExceptHandler (some (.Name x p4)) (some n) [.Return (some (.Attribute (.Name n p5) f p6)) p7] p8] [] [] p9, .Return (some (.Constant (.str ret) j p10)) p11]
theorem pss_len {X : Cx} {b : List Stmt} {t : TS} (h : PSs X b t) : PSs X b (fun D σ H => σ.length = X.N.length → t D σ H) :=
  ⟨fun pins s σ H D I hq => h.run pins s σ H D I (hq I.len)⟩
theorem ref_gives {X : Cx} {x a e n f ret q : Str} {sg : Scope} {g C : Addr} {cdg : Value} {j : Nat} {p1 p2 p3 p4 p5 p6 p7 p8 p9 p10 p11 : Pos} (hge : sg.names.lookup e = some .globalImplicit) (hme : X.mg e = some (.ref C)) (hde : (e == ("__debug__" : Str)) = false)
    (hna : a ≠ n) (hln : sg.names.lookup n = some .local) (T : XfC X.K C) (hno : PySem.W.findIn X.K (.ref C) f = some none) (hdn : (n == ("__debug__" : Str)) = false) (hcn : (n == ("__classdict__" : Str)) = false)  :
    GivesTo X [a, n] x sg g cdg (refBody a e n f ret j p1 p2 p3 p4 p5 p6 p7 p8 p9 p10 p11) a q (TRef X.K C f ret) := by
  intro fL c' s H Q tl act hc h
  have hgl : Gl (cxOf C8.CX0 X.prog X.w X.K X.mg X.base [a, n] x sg g cdg X.A X.stack s H C8.E0).nox e := hge
  have nd : [a, n].Nodup := by simp [hna]
  refine ⟨_, pss_cons (ps_try_as (X := (cxOf C8.CX0 X.prog X.w X.K X.mg X.base [a, n] x sg g cdg X.A X.stack s H C8.E0).nox) (i := 1) (c := .ref C)
      (tb := fun W D σ H => ∃ Ech : XK, (∀ cls d σ' H', Ech cls d H' → W cls d σ' H') ∧ σ[0]? = some (some (.ref fL)) ∧ H c' = some (CodeO c' q) ∧ tl Ech H fun _ H' => D.nx σ H')
      (ts := fun a0 cls d D σ H => σ.length = 2 → tRet (tXf a0 cls d C f (tVar 1)) D σ H)
      rfl rfl nd rfl hln ⟨hgl, hde, .inl hme⟩ takes0 (fun W pn xe tk _ => ?_) (fun a0 oe cls d pn hz hf => pss_len (pss_one (ps_ret (pe_xf T hno hz hf (pe_var (i := 1) rfl (.inl hln) hdn hcn)))))) (pss_one (ps_ret pe_str)), ?_⟩
  · refine ⟨fun pins s' σ H' D I h' => ?_⟩
    obtain ⟨Ech, hW, h1, h2, h3⟩ := h'
    have hp := act W pn xe Ech p1 p2 tk hW
    exact (pss_one (ps_expr (pos := p3) hp)).run pins s' σ H' D I ⟨h1, h2, h3⟩
  · refine ⟨_, fun cls d σ' H' ⟨b, e1, e2, e3⟩ => ⟨b, e1, fun hb a0 _ => ?_, fun hb => e3 hb⟩, rfl, hc, h⟩
    intro hl
    obtain ⟨k1, dd, fs, v, k2, k3, k4, k5⟩ := e2 hb
    have h2 : 1 < σ'.length := by
      rw [List.length_set] at hl
      omega
    exact ⟨.ref a0, List.getElem?_set_self h2, rfl, k1, dd, fs, v, k2, k3, k4, k5⟩
/-! ### a def whose lambdas are known -/
/-- the code object and the table of the running def -/
structure LamAt (T : TT0) (X : Cx) : Prop where
  ex : ∃ c P, TabB X.base X.mg c P ∧ X.env.code = .ref c ∧ (P, X.env.qual ++ "<lambda>") ∈ T ∧ ∀ p ∈ T, p.1 = P → p.2 = X.env.qual ++ "<lambda>"
structure FunL (K : PySem.W.Frag) (mg : MG) (base : Heap) (T : TT0) (x : Str) (st : Stmt) (f : Addr) : Prop where
  ex : ∃ (oc : Value) (od : Option Addr) (kV doc pm : Value) (an : Option Addr) (ct : Value) (osl : Array (Option Value)) (cda P : Addr),
    K.lookup f = some ⟨oc, od, .func (PySem.W.fnOf x x (defArgs st) (defBody st) (defScope st) .none kV doc pm an (.ref cda) ct), osl⟩ ∧ PySem.W.codeIn K (.ref cda) x = true ∧
    TabB base mg cda P ∧ (P, (x ++ ".<locals>.") ++ "<lambda>") ∈ T ∧ ∀ p ∈ T, p.1 = P → p.2 = (x ++ ".<locals>.") ++ "<lambda>"
  kp : PySem.W.keepIn K (.ref f) = true
section
variable {P : Program} {w : World} {K : PySem.W.Frag} {mg : MG} {base : Heap} {T : TT0}
/-- a def that makes lambdas and lets nothing out -/
theorem okDL {x : Str} {st : Stmt} {f : Addr} {N ps : List Str} {k : Nat} {m : MT} (F : FunL K mg base T x st f) (hm : mg x = some (.ref f)) (S : FnScope N ps (defScope st)) (har : ∀ ds n Q E, m ds n Q E → ds.length = ps.length)
    (hbody : ∀ (cdv : Value) (A : Around) (outer : List Env) (s : Shared) (G H : Hp) (n : Nat) (E : XK) (ED : Exc → Nat → Prop), Room k (A.deeper (envOfC x (defScope st) s.heap.objs.size f cdv)) → LamAt T (cxOf CX0 P w K mg base N x (defScope st) f cdv A outer s H E).nox →
      ∃ dsb, PDSs ⟨T, G, H, n, E, ED⟩ (cxOf CX0 P w K mg base N x (defScope st) f cdv A outer s H E).nox (defBody st) dsb ∧
        ∀ ds Qd, ds.length = ps.length → m ds n Qd ED → dsb { nx := fun S => Qd .non S.n, rt := fun d S => Qd d S.n } (ent N ds n)) : CalD P w K mg base T CX0 (k + 1) x st ps m := by
  obtain ⟨oc, od, kV, doc, pm, an, ct, osl, cda, Pt, lk, hcd, TB, h1, h2⟩ := F.ex
  refine ⟨⟨f, _, fun_mk lk hcd F.kp, fn_of lk hcd S (fun vs H Q E h => h.1) fun A outer s H vs Q E hr h => ?_, hm⟩, har⟩
  obtain ⟨hl, G, ds, n, Qd, ED, q1, q2, q3, q4, q5, q6⟩ := h
  obtain ⟨dsb, ⟨t, b1, b2⟩, b3⟩ := hbody (.ref cda) A outer s G H n E ED hr ⟨cda, Pt, TB, rfl, h1, h2⟩
  exact ⟨t, b1.nox, simDef (ps := ps) (m := m) q1 q2 q3 q5 b2 (b3 ds Qd (q3.length.symm.trans hl) q4)⟩
end
/-! ### x(lambda: body), x tries it -/
/-- the heap behind the making of a lambda -/
theorem gw_lam {T : TT0} {G H H1 : Hp} (s : Sub G H) (t : Tabs T G) (e : ExtN H H1) (t1 : Tabs T H1) : ∃ G1, Gw T 0 G H G1 H1 ∧ Tabs T G1 := by
  classical
  let G1 : Hp := fun b => if H b = none ∨ G b ≠ none then H1 b else none
  have at1 : ∀ {b o}, G b = some o → (∀ ps, o ≠ .tbl ps) → G1 b = some o := fun {b o} h n => by
    show (if H b = none ∨ G b ≠ none then H1 b else none) = some o
    rw [if_pos (.inr (by rw [h]; simp))]
    exact e b o (s b o h) n
  have tabs1 : Tabs T G1 := fun p hp => by
    obtain ⟨ps, a1, a2, a3⟩ := t1 p hp
    obtain ⟨ps0, b1, _, _⟩ := t p hp
    refine ⟨ps, ?_, a2, fun pos cv hc => ?_⟩
    · show (if H p.1 = none ∨ G p.1 ≠ none then H1 p.1 else none) = _
      rw [if_pos (.inr (by rw [b1]; simp))]
      exact a1
    · obtain ⟨c, k1, k2⟩ := a3 pos cv hc
      refine ⟨c, k1, ?_⟩
      show (if H c = none ∨ G c ≠ none then H1 c else none) = _
      by_cases h1 : H c = none
      · rw [if_pos (.inl h1)]
        exact k2
      · by_cases h2 : G c = none
        · exfalso
          obtain ⟨o, ho⟩ := Option.ne_none_iff_exists'.mp h1
          have pl := s.hd c o ho h2
          have z := e c o ho pl.nt
          rw [k2] at z
          exact pl.nc _ _ (Option.some.inj z).symm
        · rw [if_pos (.inr h2)]
          exact k2
  refine ⟨G1, ⟨⟨fun b o h => ?_, fun b o h n => ?_⟩, ⟨fun b o h f => at1 h f.2, fun b B h => ⟨B, by omega, at1 h fun ps z => dice_ne_tbl z⟩, fun _ => tabs1⟩, fun b o h n => e b o h (s.hd b o h n).nt, fun b o h n => ?_⟩, tabs1⟩
  · have h' : (if H b = none ∨ G b ≠ none then H1 b else none) = some o := h
    split at h'
    · exact h'
    · cases h'
  · have n' : (if H b = none ∨ G b ≠ none then H1 b else none) = none := n
    split at n'
    · rw [h] at n'
      cases n'
    · rename_i hn
      have h1 : H b ≠ none := fun z => hn (.inl z)
      have h2 : G b = none := by
        cases q : G b with
        | none => rfl
        | some u => exact absurd (.inr (by rw [q]; simp)) hn
      obtain ⟨o', ho⟩ := Option.ne_none_iff_exists'.mp h1
      have pl := s.hd b o' ho h2
      have z := e b o' ho pl.nt
      rw [h] at z
      cases z
      exact pl
  · have h' : (if H b = none ∨ G b ≠ none then H1 b else none) = some o := h
    split at h'
    · rename_i q
      rcases q with q | q
      · exact q
      · exact absurd n q
    · cases h'
theorem Rp.reE {c : Ct} {K : PySem.W.Frag} {mg : MG} {σ : Sig} {G H : Hp} {S : DS} {E : XK} {ED : Exc → Nat → Prop} (R : Rp c K mg σ G H S) : Rp ⟨c.T, c.G0, c.H0, c.n0, E, ED⟩ K mg σ G H S :=
  ⟨R.sub, R.nle, R.le, R.hid, R.new, R.tabs, R.len, R.slots, R.apart⟩
def dRef (x f ret : Str) (de : (Exc → Nat → Prop) → DE) : DE := fun S Q =>
  de (fun ex n => ∃ d, ex = (x, f, d) ∧ (n ≤ S.n → Q d ⟨S.sl, n⟩)) ⟨noOwn S.sl, S.n⟩ fun _ S2 => S2.sl = noOwn S.sl ∧ Q (.str ret) ⟨S.sl, S2.n⟩
/-- what is known of the def that tries -/
structure RefD (P : Program) (w : World) (K : PySem.W.Frag) (mg : MG) (xg x f ret : Str) : Prop where
  ex : ∃ (g C : Addr) (a n : Str) (j : Nat) (p1 p2 p3 p4 p5 p6 p7 p8 p9 p10 p11 : Pos) (pg : Arguments) (sg : Scope) (oc kV doc pm cdv ct : Value) (an od : Option Addr) (osl : Array (Option Value)),
    mg xg = some (.ref g) ∧ PySem.W.keepIn K (.ref g) = true ∧
    K.lookup g = some ⟨oc, od, .func (PySem.W.fnOf xg xg pg (refBody a x n f ret j p1 p2 p3 p4 p5 p6 p7 p8 p9 p10 p11) sg .none kV doc pm an cdv ct), osl⟩ ∧ PySem.W.codeIn K cdv xg = true ∧
    L2.Binds K (PySem.W.fnOf xg xg pg (refBody a x n f ret j p1 p2 p3 p4 p5 p6 p7 p8 p9 p10 p11) sg .none kV doc pm an cdv ct) [a] [] ∧ FnScope [a, n] [a] sg ∧ Vis sg a ∧
    sg.names.lookup x = some .globalImplicit ∧ mg x = some (.ref C) ∧ (x == ("__debug__" : Str)) = false ∧ a ≠ n ∧ sg.names.lookup n = some .local ∧ XfC K C ∧ PySem.W.findIn K (.ref C) f = some none ∧ (n == ("__debug__" : Str)) = false ∧ (n == ("__classdict__" : Str)) = false ∧
    (a == ("__debug__" : Str)) = false ∧ (a == ("__classdict__" : Str)) = false ∧ PySem.W.exmOne K (.ref C) (.ref C) = some true
section
variable {c : Ct} {X : Cx}
theorem pd_refused {xg x f ret : Str} {k : Nat} {params : Arguments} {body : Expr} {scope : Scope} {p lpos pos : Pos} {de : (Exc → Nat → Prop) → DE} (R : RefD X.prog X.w X.K X.mg xg x f ret) (LA : LamAt c.T X) (hr : Room (k + 2) X.A) (hg : Gl X xg) (L : LamS X.env.scope scope)
    (hde : ∀ (A : Around) (outer : List Env) (s : Shared) (H : Hp) (E : XK) (fL c' : Addr) (G0 H0 : Hp) (n0 : Nat) (ED : Exc → Nat → Prop), Room k (A.deeper (lamEnv X scope s.heap.objs.size fL c')) → Lnk ⟨c.T, G0, H0, n0, E, ED⟩ X.K X.mg → PDE ⟨c.T, G0, H0, n0, E, ED⟩ (lamCx X A outer s H E scope fL c') body (de ED))
    (hdef : defaultsOf params X.env = ([], []) := by rfl) (hbind : ∀ (q : Str) (cl : List (Str × Addr)) (pm cv ctv : Value), bindArgs (PySem.W.kla_fn "<lambda>" q params body scope cl pm cv ctv) ⟨[], []⟩ = pure [] := by intros; rfl) (hdb : (xg == ("__debug__" : Str)) = false := by decide) :
    PDE c X (.Call (.Name xg p) [.Lambda params body scope lpos] [] pos) (dRef x f ret de) := by
  obtain ⟨g, C, a, n, j, p1, p2, p3, p4, p5, p6, p7, p8, p9, p10, p11, pg, sg, oc, kV, doc, pm, cdv, ct, an, od, osl, hm, hk, lk, hcg, hb, Sg, hva, hge, hme, hde', hna, hln, hT, hno, hdn, hcn, hda, hca, hex⟩ := R.ex
  obtain ⟨cda, Pt, TB, hcode, hmT, hu⟩ := LA.ex
  have G1 := ref_gives (X := X) (x := xg) (a := a) (q := X.env.qual ++ "<lambda>") (sg := sg) (g := g) (C := C) (cdg := cdv) (f := f) (ret := ret) (j := j) (p1 := p1) (p2 := p2) (p3 := p3) (p4 := p4) (p5 := p5) (p6 := p6) (p7 := p7) (p8 := p8) (p9 := p9) (p10 := p10) (p11 := p11) hge hme hde' hna hln hT hno hdn hcn
  refine ⟨_, LamX.pe_lamcall (t := fun E σ H Q => ∃ G0 H0 n0 ED, Lnk ⟨c.T, G0, H0, n0, E, ED⟩ X.K X.mg ∧ canE ⟨c.T, G0, H0, n0, E, ED⟩ X.K X.mg (de ED) σ H Q) hg hm hk lk hcg hb Sg rfl hva G1 TB hcode hmT hu hr L hdef hbind (fun A outer s H E fL c' hr2 => ?_) hdb hda hca, ?_⟩
  · refine ⟨fun pins s2 σ H2 Q I hq => ?_⟩
    obtain ⟨G0, H0, n0, ED, hL, hq⟩ := hq
    exact (hde A outer s H E fL c' G0 H0 n0 ED hr2 hL).can.run pins s2 σ H2 Q I hq
  · intro σ G H S Qd Q R hQ h
    refine ⟨R.tabs.ext R.sub, fun H1 eN T1 => ?_⟩
    obtain ⟨G1, gw, tb1⟩ := gw_lam R.sub R.tabs eN T1
    have R1 := R.gw0 gw
    have A1 := Aft.gw0 R gw
    have RL := R1.enter
    refine ⟨G1, H1, S.n, _, ⟨fun x' f' d k' v C' dd G' H' hk' gw' hx hd r q => ?_⟩, G1, ⟨noOwn S.sl, S.n⟩, _, RL.reE, fun v H' hW => ?_, h⟩
    · obtain ⟨d', e1, q⟩ := q
      cases e1
      rw [hme] at hx
      cases hx
      refine ⟨true, hex, fun _ => ⟨rfl, dd, _, v, rfl, hd, by simp [List.lookup], ?_⟩, fun z => nomatch z⟩
      exact hQ v H' ⟨G', ⟨S.sl, S.n - k'⟩, d, A1.trans (Aft.gw R1 gw' hk'), r, q (Nat.sub_le _ _)⟩
    · obtain ⟨G2, S2, d, A2, r2, e2, q2⟩ := hW
      obtain ⟨sl2, n2⟩ := S2
      have e2' : sl2 = noOwn S.sl := e2
      subst e2'
      have A3 := R1.exit (A2.rp.reE (E := c.E) (ED := c.ED))
      exact hQ _ _ ⟨G2, ⟨S.sl, n2⟩, _, A1.trans A3, .str ret, q2⟩
end
end DL
set_option maxHeartbeats 2000000
namespace DL
open PySem PySem.Spec PyProof.Rows L2
/-! ### the dice -/
abbrev D3 (o m c : Int) : List V := [.int o, .int m, .int c]
structure DOk (o m c : Int) (B : Nat) : Prop where
  o0 : 0 ≤ o
  m0 : 0 ≤ m
  m1 : m < 2147480009
  c0 : 0 ≤ c
  cB : c ≤ B
theorem vals3 {o m c : Int} {its : List Value} (r : Vals (D3 o m c) its) : ∃ t1 t2 t3, its = [.int o t1, .int m t2, .int c t3] := by
  cases r with
  | cons a r =>
    cases r with
    | cons b r =>
      cases r with
      | cons d r =>
        cases r
        obtain ⟨t1, rfl⟩ := a
        obtain ⟨t2, rfl⟩ := b
        obtain ⟨t3, rfl⟩ := d
        exact ⟨t1, t2, t3, rfl⟩
section
variable {X : Cx} {pins : List (Addr × Obj)} {σ : Sig} {H : Hp} {s : Shared} {a : Addr} {B : Nat}
theorem inv_toList (I : Inv X pins σ H s) (h : H a = some (DiceO a B)) : ∃ o m c, DOk o m c B ∧ Inv X pins σ (upd H a (.lst (D3 o m c))) s := by
  have x := I.hok a _ h
  obtain ⟨⟨o, m, c, t1, t2, t3, n, e, h1, h2, h3, h4, h5⟩, _, _⟩ := x
  refine ⟨o, m, c, ⟨h1, h2, h3, h4, h5⟩, I.write (x := a) (e := a) (t' := s.toks) (h' := s.heap) (by rw [h]; exact True.intro) (.inl rfl) (fun b v _ q => q) ⟨_, e⟩ ?_⟩
  exact ⟨by show 3 ≤ sizeLine; rw [sizeLine_eq]; omega, [.int o t1, .int m t2, .int c t3], n, .cons ⟨t1, rfl⟩ (.cons ⟨t2, rfl⟩ (.cons ⟨t3, rfl⟩ .nil)), e⟩
theorem inv_toDice {o m c : Int} (I : Inv X pins σ H s) (h : H a = some (.lst (D3 o m c))) (d : DOk o m c B) : Inv X pins σ (upd H a (DiceO a B)) s := by
  have x := I.hok a _ h
  obtain ⟨_, its, n, r, e⟩ := x
  obtain ⟨t1, t2, t3, ei⟩ := vals3 r
  subst ei
  refine I.write (x := a) (e := a) (t' := s.toks) (h' := s.heap) (by rw [h]; exact True.intro) (.inl rfl) (fun b v _ q => q) ⟨_, e⟩ ?_
  refine ⟨⟨o, m, c, t1, t2, t3, n, e, d.o0, d.m0, d.m1, d.c0, d.cB⟩, ⟨_, e⟩, fun h1 h2 hp k => ?_⟩
  obtain ⟨o, m, c, t1, t2, t3, n, e, r⟩ := hp
  exact ⟨o, m, c, t1, t2, t3, n, k _ e, r⟩
theorem upd_upd {H : Hp} {a : Addr} {u v : HO} : upd (upd H a u) a v = upd H a v := by
  funext b
  by_cases h : b = a
  · rw [h, upd_same, upd_same]
  · rw [upd_ne h, upd_ne h, upd_ne h]
end
/-- [a, b, c], as dice from now on -/
def tDice (ta : TA) : TE := fun σ H Q => ta σ H fun xs H1 => ∃ o m c, xs = D3 o m c ∧ DOk o m c 0 ∧ ∀ p, H1 p = none → Q (.ref p) (upd H1 p (DiceO p 0))
theorem pe_dice {X : Cx} {es : List Expr} {ta : TA} {pos : Pos} (ha : PA X es ta) : PE X (.List es pos) (tDice ta) := by
  refine ⟨fun pins s σ H Q I h => ?_⟩
  refine wpAny_List_spliced (thn (ha.run pos pins s σ H _ I h) fun us s1 hh => ?_)
  obtain ⟨xs, H1, I1, r, o, m, c, ex, d, q⟩ := hh
  subst ex
  obtain ⟨t1, t2, t3, eu⟩ := vals3 r
  subst eu
  have hf : H1 s1.heap.objs.size = none := I1.hok.fresh (Nat.le_refl _)
  refine ⟨by show 3 ≤ sizeLine; rw [sizeLine_eq]; omega, .ref s1.heap.objs.size, upd H1 s1.heap.objs.size (DiceO s1.heap.objs.size 0), I1.laid (t' := s1.toks) (fun b u e => Heap.get?_push_of_some _ e) (Nat.le_refl _) ?_, rfl, q _ hf⟩
  have e1 : (s1.heap.push { cls := .type "list", data := .seq #[.int o t1, .int m t2, .int c t3] }).get? s1.heap.objs.size = some { cls := .type "list", data := .seq #[.int o t1, .int m t2, .int c t3] } := Heap.get?_push_size _ rfl
  refine ⟨⟨o, m, c, t1, t2, t3, 0, e1, d.o0, d.m0, d.m1, d.c0, d.cB⟩, ⟨_, e1⟩, fun h1 h2 hp k => ?_⟩
  obtain ⟨o, m, c, t1, t2, t3, n, e, r⟩ := hp
  exact ⟨o, m, c, t1, t2, t3, n, k _ e, r⟩
section
variable {c : Ct} {X : Cx}
/-- return [a, b, c], as dice -/
def dDice (das : DA) : DE := fun S Q => das S fun ds S1 => ∃ o m, ds = [.int o, .int m, .int 0] ∧ 0 ≤ o ∧ 0 ≤ m ∧ m < 2147480009 ∧ S1.n ≤ Big ∧ Q .dice S1
theorem rep3 {K : PySem.W.Frag} {mg : MG} {G : Hp} {n : Nat} {vs : List V} {o m c : Int} (r : RepAll K mg G n vs [.int o, .int m, .int c]) : vs = D3 o m c := by
  cases r with
  | cons a r =>
    cases r with
    | cons b r =>
      cases r with
      | cons d r =>
        cases r
        cases a
        cases b
        cases d
        rfl
theorem pd_dice {es : List Expr} {das : DA} {pos : Pos} (ha : PDA c X es das) : PDE c X (.List es pos) (dDice das) := by
  obtain ⟨ta, a1, a2⟩ := ha
  refine ⟨_, pe_dice a1, fun σ G H S Qd Q R hQ h => ?_⟩
  refine a2 σ G H S _ _ R (fun vs H1 ⟨G1, S1, ds, A, r, q⟩ => ?_) h
  obtain ⟨o, m, e, h1, h2, h3, h4, q⟩ := q
  subst e
  refine ⟨o, m, 0, rep3 r, ⟨h1, h2, h3, by omega, by simp⟩, fun p np => ?_⟩
  have g : Gw c.T 0 G1 H1 _ _ := .alloc (o := DiceO p 0) A.rp.sub np
  exact hQ _ _ ⟨_, S1, _, A.trans (Aft.gw0 A.rp g), .dice upd_same (by omega), q⟩
/-! ### an own list read -/
def dIxOl (i : Nat) (db : DE) : DE := fun S Q => db S fun y S1 => ∃ l j d, olAt S1 i = some l ∧ y = .int j ∧ atI l j = some d ∧ Q d S1
end
/-! ### dice opened -/
theorem hp_at (a : Addr) (o : Obj) (hn : (match o with | ⟨_, _, .freed, _⟩ => true | _ => false) = false) : ∃ h : Heap, h.get? a = some o := by
  refine ⟨({ objs := Array.replicate a default } : Heap).push o, ?_⟩
  have e : ({ objs := Array.replicate a default } : Heap).objs.size = a := by simp
  have z := Heap.get?_push_size ({ objs := Array.replicate a default } : Heap) (o := o)
  rw [e] at z
  exact z (by
    obtain ⟨c, d, dt, sl⟩ := o
    cases dt <;> first | rfl | cases hn)
theorem ext_inj {f g : Heap → Prop} (h : HO.ext f = HO.ext g) : f = g := by cases h; rfl
theorem dice_code {a c : Addr} {B : Nat} {q : Str} (ha : c = a) : DiceO a B ≠ LamX.CodeO c q := fun z => by
  subst ha
  unfold DiceO LamX.CodeO at z
  have e := ext_inj z
  obtain ⟨h, hh⟩ := hp_at c { cls := .type "list", data := .seq #[.int 0 0, .int 0 0, .int 0 0] 0 } rfl
  have y := congrFun e h
  have y2 := y.mp ⟨0, 0, 0, 0, 0, 0, 0, hh, by omega, by omega, by omega, by omega, by omega⟩
  obtain ⟨oc, vs, t, e1, e2, _⟩ := y2
  rw [hh] at e1
  cases e1
  cases e2
theorem dice_B {a : Addr} {B B' : Nat} (h : DiceO a B = DiceO a B') : B ≤ B' := by
  unfold DiceO at h
  have e := ext_inj h
  obtain ⟨hp, hh⟩ := hp_at a { cls := .type "list", data := .seq #[.int 0 0, .int 0 0, .int B 0] 0 } rfl
  obtain ⟨o, m, c, t1, t2, t3, n, e1, _, _, _, _, h5⟩ := (congrFun e hp).mp ⟨0, 0, B, 0, 0, 0, 0, hh, by omega, by omega, by omega, by omega, by omega⟩
  rw [hh] at e1
  cases e1
  omega
/-- the body runs on the opened dice -/
def tOpen (t : TS) : TS := fun D σ H => ∃ a B, H a = some (DiceO a B) ∧ ∀ o m c, DOk o m c B →
  t { nx := fun σ' H' => ∃ o' m' c' B', H' a = some (.lst (D3 o' m' c')) ∧ DOk o' m' c' B' ∧ D.nx σ' (upd H' a (DiceO a B')),
      rt := fun v H' => ∃ o' m' c' B', H' a = some (.lst (D3 o' m' c')) ∧ DOk o' m' c' B' ∧ D.rt v (upd H' a (DiceO a B')) } σ (upd H a (.lst (D3 o m c)))
theorem pss_open {X : Cx} {b : List Stmt} {t : TS} (h : PSs X b t) : PSs X b (tOpen t) := by
  refine ⟨fun pins s σ H D I hq => ?_⟩
  obtain ⟨a, B, ha, hq⟩ := hq
  obtain ⟨o, m, c, d, I1⟩ := inv_toList I ha
  refine thn (h.run pins s σ _ _ I1 (hq o m c d)) fun f s1 q => ?_
  cases f with
  | next =>
    obtain ⟨σ', H', I2, o', m', c', B', e, d', q⟩ := q
    exact ⟨σ', _, inv_toDice I2 e d', q⟩
  | ret v =>
    obtain ⟨x, σ', H', I2, r, o', m', c', B', e, d', q⟩ := q
    exact ⟨x, σ', _, inv_toDice I2 e d', r, q⟩
  | brk =>
    obtain ⟨_, _, _, z⟩ := q
    exact z.elim
  | cont =>
    obtain ⟨_, _, _, z⟩ := q
    exact z.elim
section
variable {P : Program} {w : World} {K : PySem.W.Frag} {mg : MG} {base : Heap} {T : TT0}
/-- a roll: one of 0 .. total - 1 -/
def m_roll : MT := fun ds n Q _ => ∃ t : Int, ds = [.dice, .int t] ∧ 0 < t ∧ t < 1073741824 ∧ 0 < n ∧ ∀ r : Int, 0 ≤ r → r < t → Q (.int r) (n - 1)
/-! ### the roll, read -/
theorem rd_ix {K : PySem.W.Frag} {σ : Sig} {H : Hp} {a : Addr} {xs : List V} {j : Int} {v : V} {Q : VK} (hs : σ[0]? = some (some (V.ref a))) (hH : H a = some (.lst xs)) (hv : atI xs j = some v) (q : Q v H) : tOp (rIxL K) (tVar 0) (tC (.int j)) σ H Q :=
  ⟨.ref a, hs, a, xs, j, v, rfl, rfl, .of hH, hv, q⟩
theorem wr_ix {σ : Sig} {H : Hp} {a : Addr} {xs : List V} {k : Int} {j : Nat} {v : V} {Q : Sig → Hp → Prop} (hs : σ[0]? = some (some (V.ref a))) (hH : H a = some (.lst xs)) (hj : ixN xs.length k = some j) (q : Q σ (upd H a (.lst (xs.set j v)))) : gSub (tVar 0) (tC (.int k)) rSetL v σ H Q :=
  ⟨.ref a, hs, a, xs, k, j, rfl, rfl, hH, hj, q⟩
abbrev tInt1 (t : TE) : TE := tCB (fun xs H Q => (∃ i, xs = [V.int i] ∧ Q (V.int i) H) ∨ ∃ k, xs = [V.bl k] ∧ Q (V.int (if k = true then 1 else 0)) H) (tCons t tNil)
abbrev tIx (K : PySem.W.Frag) (j : Int) : TE := tOp (rIxL K) (tVar 0) (tC (.int j))
abbrev tMod : TE → TE → TE := tOp (rI (fun _ j => 0 < j) fun i j => V.int (i % j))
abbrev tFdv : TE → TE → TE := tOp (rI CDiv fun i j => V.int (i / j))
abbrev tAdd : TE → TE → TE := tOp (rI0 fun i j => V.int (i + j))
abbrev tMlt : TE → TE → TE := tOp (rI CMul fun i j => V.int (i * j))
/-- what the roll's body does -/
abbrev rollT (K : PySem.W.Frag) : TS :=
  tSeq (tIfS (tTest (tOp (rI0 fun i j => V.bl (decide (j < i))) (tIx K 0) (tC (.int 0))))
      (tSeq (tAsg (tMod (tInt1 (tIx K 0)) (tVar 1)) (gName 2)) (tSeq (tAsg (tFdv (tIx K 0) (tVar 1)) (gSub (tVar 0) (tC (.int 0)) rSetL)) (tRet (tVar 2)))) tNext)
    (tSeq (tAsg (tAdd (tIx K 2) (tC (.int 1))) (gSub (tVar 0) (tC (.int 2)) rSetL))
      (tSeq (tAsg (tMod (tInt1 (tAdd (tAdd (tMlt (tIx K 1) (tC (.int 52501))) (tMlt (tMlt (tIx K 2) (tIx K 2)) (tC (.int 1009)))) (tC (.int 77)))) (tC (.int 2147480009))) (gSub (tVar 0) (tC (.int 1)) rSetL))
        (tRet (tMod (tInt1 (tFdv (tIx K 1) (tC (.int 211)))) (tVar 1)))))
theorem roll_reads {K : PySem.W.Frag} {D : Ends} {H : Hp} {a : Addr} {B : Nat} {o m c t : Int} (hH : H a = some (.lst (D3 o m c))) (d : DOk o m c B) (hB : B ≤ Big) (t0 : 0 < t) (t1 : t < 1073741824)
    (q : ∀ (r o' m' c' : Int), 0 ≤ r → r < t → DOk o' m' c' (B + 1) → D.rt (.int r) (upd H a (.lst (D3 o' m' c')))) : rollT K D [some (.ref a), some (.int t), none] H := by
  have d1 := d.o0; have d2 := d.m0; have d3 := d.m1; have d4 := d.c0; have d5 := d.cB
  have hs : ([some (V.ref a), some (.int t), none] : Sig)[0]? = some (some (.ref a)) := rfl
  refine rd_ix hs hH rfl ⟨o, 0, rfl, rfl, ?_⟩
  show ∃ k, V.bl (decide (0 < o)) = .bl k ∧ _
  refine ⟨_, rfl, ?_⟩
  show if decide (0 < o) = true then _ else _
  by_cases ho : 0 < o
  · rw [if_pos (decide_eq_true ho)]
    refine rd_ix hs hH rfl (.inl ⟨o, rfl, .int t, rfl, o, t, rfl, rfl, t0, ?_⟩)
    show tSeq _ _ _ ([some (V.ref a), some (.int t), some (.int (o % t))] : Sig) H
    have hs2 : ([some (V.ref a), some (.int t), some (.int (o % t))] : Sig)[0]? = some (some (.ref a)) := rfl
    refine rd_ix hs2 hH rfl ⟨.int t, rfl, o, t, rfl, rfl, ⟨t0, t1⟩, ?_⟩
    refine wr_ix hs2 hH (j := 0) rfl ⟨.int (o % t), rfl, ?_⟩
    exact q (o % t) (o / t) m c (Int.emod_nonneg _ (by omega)) (Int.emod_lt_of_pos _ t0) ⟨Int.ediv_nonneg d1 (by omega), d2, d3, d4, by omega⟩
  · rw [if_neg (by simpa using ho)]
    refine rd_ix hs hH rfl ⟨c, 1, rfl, rfl, ?_⟩
    refine wr_ix hs hH (j := 2) rfl ?_
    have h2 : upd H a (.lst (D3 o m (c + 1))) a = some (.lst (D3 o m (c + 1))) := upd_same
    refine rd_ix hs h2 rfl ⟨m, 52501, rfl, rfl, .inr (by constructor <;> omega), ?_⟩
    refine rd_ix hs h2 rfl (rd_ix hs h2 rfl ⟨c + 1, c + 1, rfl, rfl, .inr (by unfold Big at hB; constructor <;> omega), ⟨_, 1009, rfl, rfl, .inr (by constructor <;> omega), ⟨_, _, rfl, rfl, ⟨_, 77, rfl, rfl, .inl ⟨_, rfl, ⟨_, 2147480009, rfl, rfl, (show (0 : Int) < 2147480009 by decide), ?_⟩⟩⟩⟩⟩⟩)
    refine wr_ix hs h2 (j := 1) rfl ?_
    rw [upd_upd]
    have hm : ∀ x : Int, 0 ≤ x % 2147480009 ∧ x % 2147480009 < 2147480009 := fun x => ⟨Int.emod_nonneg _ (by decide), Int.emod_lt_of_pos _ (by decide)⟩
    obtain ⟨k1, k2⟩ := hm (m * 52501 + (c + 1) * (c + 1) * 1009 + 77)
    refine rd_ix hs upd_same rfl ⟨_, 211, rfl, rfl, ⟨by decide, by decide⟩, .inl ⟨_, rfl, .int t, rfl, _, t, rfl, rfl, t0, ?_⟩⟩
    exact q _ _ _ _ (Int.emod_nonneg _ (by omega)) (Int.emod_lt_of_pos _ t0) ⟨d1, k1, k2, by omega, by omega⟩
theorem okRoll {x : Str} {st : Stmt} {f : Addr} {fd : FuncData} {a1 a2 a3 : Str} {k : Nat} (F : Fun K x x st f fd) (hm : mg x = some (.ref f)) (S : FnScope [a1, a2, a3] [a1, a2] (defScope st))
    (hbody : ∀ (cdv : Value) (A : Around) (outer : List Env) (s : Shared) (H : Hp) (E : XK), PSs (cxOf CX0 P w K mg base [a1, a2, a3] x (defScope st) f cdv A outer s H E).nox (defBody st) (rollT K)) : CalD P w K mg base T CX0 (k + 1) x st [a1, a2] m_roll := by
  refine ⟨⟨f, fd, F, F.ok S (fun vs H Q E h => h.1) (fun cdv A outer s H vs Q E hr h => ?_), hm⟩, fun ds n Q E ⟨t, e, _⟩ => by rw [e] <;> rfl⟩
  obtain ⟨hl, G, ds, n, Qd, ED, hs, tb, r, h4, h5, h6⟩ := h
  obtain ⟨t, e, t0, t1, n0, hq⟩ := h4
  subst e
  obtain ⟨v, v2, ev, rv, rv2⟩ := rep2 r
  subst ev
  cases rv2
  cases rv with
  | @dice a B ha hB =>
    refine ⟨_, pss_open (hbody cdv A outer s H E), a, B, hs _ _ ha, fun o m c d => ?_⟩
    refine roll_reads upd_same d (by omega) t0 t1 fun r o' m' c' r0 r1 d' => ?_
    refine ⟨o', m', c', B + 1, upd_same, d', ?_⟩
    rw [upd_upd, upd_upd]
    have n1 : n - 1 + 1 = n := by omega
    refine h5 (.int r) (.int r) 1 (upd G a (DiceO a (B + 1))) _ (by omega) ?_ (.int r) (hq r r0 r1)
    have sa := hs a _ ha
    refine ⟨⟨fun b u e => ?_, fun b u e z => ?_⟩, ⟨fun b u e f => ?_, fun b C e => ?_, fun tt => ?_⟩, fun b u h1 h2 => ?_, fun b u h1 h2 => ?_⟩
    · by_cases hb : b = a
      · rw [hb, upd_same] at e ⊢
        exact e
      · rw [upd_ne hb] at e ⊢
        exact hs b u e
    · by_cases hb : b = a
      · rw [hb, upd_same] at z
        cases z
      · rw [upd_ne hb] at e z
        exact hs.hd b u e z
    · have hb : b ≠ a := fun q => by
        rw [q, ha] at e
        exact f.1 a B (Option.some.inj e).symm
      rw [upd_ne hb]
      exact e
    · by_cases hb : b = a
      · subst hb
        rw [ha] at e
        have q := dice_B (Option.some.inj e)
        exact ⟨B + 1, by omega, upd_same⟩
      · exact ⟨C, by omega, by rw [upd_ne hb]; exact e⟩
    · intro p hp
      obtain ⟨ps, k1, k2, k3⟩ := tt p hp
      have n1 : p.1 ≠ a := fun e => by
        rw [e, ha] at k1
        exact dice_ne_tbl (Option.some.inj k1)
      refine ⟨ps, by rw [upd_ne n1]; exact k1, k2, fun pos cv hc => ?_⟩
      obtain ⟨c, e1, e2⟩ := k3 pos cv hc
      have n2 : c ≠ a := fun e => by
        have e3 := e2
        rw [e, ha] at e3
        exact dice_code (a := a) (c := a) rfl (Option.some.inj e3)
      exact ⟨c, e1, by rw [upd_ne n2]; exact e2⟩
    · have hb : b ≠ a := fun q => by
        rw [q, ha] at h2
        cases h2
      rw [upd_ne hb]
      exact h1
    · by_cases hb : b = a
      · rw [hb, ha] at h2
        cases h2
      · rw [upd_ne hb, h2] at h1
        cases h1
end
end DL
set_option maxHeartbeats 1000000
namespace DL
open PySem PySem.Spec PyProof.Rows L2
/-! ### enumerate(tuple) -/
theorem meets_enum1 {v : Value} {o : Obj} {H : Heap → Prop} (B : Begins v o H) :
    Meets (Builtin.«enumerate.__new__» ⟨[.type "enumerate", v], []⟩) (fun _ R s => H s.heap ∧
      R (.ok (.ret (.ref (s.heap.push o).objs.size))) { s with heap := (s.heap.push o).push { cls := .type "enumerate", data := .fields #[.none, .bool false, .ref s.heap.objs.size, rawInt 0, .none, .none] } }) :=
  .of_wp fun prog w A R s h => by
    obtain ⟨hp, g, d, tk, os⟩ := s
    obtain ⟨h1, h⟩ := h
    have hsub := sub_enumerate
    have it : ∀ {A' : Around} {E : Value → Shared → Prop} {Q : Value → Shared → Prop}, Q (.ref hp.objs.size) ⟨hp.push o, g, d, tk, os⟩ → wpAny (model prog w) A' (pyIter v) Q E ⟨hp, g, d, tk, os⟩ :=
      fun q => B.iter prog w _ _ ⟨hp, g, d, tk, os⟩ _ h1 q
    wp_walk using it
    refine wpAny_stack_any fun st => wpAny_pure ?_
    split
    · rename_i c _ _ _ _ _
      cases (c == Value.type "enumerate") <;> (wp_walk using it; exact ⟨_, rfl, h⟩)
    · wp_walk using it
      exact ⟨_, rfl, h⟩
theorem call_enum1 {prog : Program} {w : World} {A : Around} {E : Value → Shared → Prop} {s : Shared} {v : Value} {o : Obj} {H : Heap → Prop} {Q : Value → Shared → Prop} (B : Begins v o H) (h1 : H s.heap)
    (h : ∀ h', IsEnum h' (s.heap.objs.size + 1) s.heap.objs.size 0 .none → h'.get? s.heap.objs.size = some o → (∀ b o, s.heap.get? b = some o → h'.get? b = some o) → Q (.ref (s.heap.objs.size + 1)) { s with heap := h' }) :
    wpAny (model prog w) A (call (.type "enumerate") [v]) Q E s := by
  have hz : (s.heap.push o).objs.size = s.heap.objs.size + 1 := Heap.size_push ..
  have he : ((s.heap.push o).push { cls := .type "enumerate", data := .fields #[.none, .bool false, .ref s.heap.objs.size, rawInt 0, .none, .none] }).get? (s.heap.objs.size + 1) = some { cls := .type "enumerate", data := .fields #[.none, .bool false, .ref s.heap.objs.size, rawInt 0, .none, .none] } := by
    rw [← hz]
    exact Heap.get?_push_size _ rfl
  refine callType_new F.called_enumerate (by decide) (F.typeCall_enumerate_1 _) (F.newCall_enumerate_1 _) (fun obj => F.args_object_init_2 obj _) F.entry_enumerate_new (meets_enum1 B) ⟨h1, ?_⟩
  show _ ∧ _
  rw [hz]
  exact ⟨⟨_, he, rfl⟩, h _ he (Heap.get?_push_of_some _ (Heap.get?_push_size _ B.free)) fun b o x => Heap.get?_push_of_some _ (Heap.get?_push_of_some _ x)⟩
/-- the tuple at a, each item in a new pair -/
def IteT (K : PySem.W.Frag) (a : Addr) : It :=
  ⟨fun i H => ∃ (xs : List V) (x : V), SqT K H a xs ∧ xs[i]? = some x, fun i H v H' => ∃ T x, v = .ref T ∧ H T = none ∧ H' = upd H T (.tup [.int (i : Nat), x]) ∧ ∀ xs, SqT K H a xs → xs[i]? = some x, fun i H => ∃ xs : List V, SqT K H a xs ∧ xs.length = i⟩
theorem turn_enumT {P : Program} {w : World} {K : PySem.W.Frag} {elts : List Expr} {kk : Nat} {tpos : Pos} (a e it : Addr) :
    Turn P w K (.Tuple elts kk tpos) (IteT K a) [e, it] e (fun i h => (∃ old, IsEnum h e it ((i : Nat) : Int) old) ∧ h.IsTupleIter it a i ∧ e ≠ it ∧ a ≠ it ∧ a ≠ e) where
  mem := by simp
  obj := fun i h st b hb => by
    obtain ⟨⟨old, he⟩, ⟨o, ho, hc, hd⟩, _⟩ := st
    rcases (show b = e ∨ b = it by simpa using hb) with z | z
    · rw [z]
      exact ⟨_, he, fun v q => nomatch q⟩
    · rw [z]
      exact ⟨o, ho, fun v q => by rw [hd] at q; cases q⟩
  keep := fun i h h' st k => by
    obtain ⟨⟨old, he⟩, hi, hne⟩ := st
    exact ⟨⟨old, k e (by simp) _ he⟩, hi.at fun o q => k it (by simp) o q, hne⟩
  item := by
    intro X hP hw hK hc i pins s σ H E I hf st hg
    subst hP hw hK
    obtain ⟨⟨old, he⟩, hit, hne, hai, hae⟩ := st
    obtain ⟨xs, x, hq, hx⟩ := hg
    obtain ⟨its, rv, p, hz⟩ := I.tuple hq
    obtain ⟨u, hu, ru⟩ := rv.get hx
    have hel : e < s.heap.objs.size := Heap.lt_size he
    have hil : it < s.heap.objs.size := by obtain ⟨_, q, _⟩ := hit; exact Heap.lt_size q
    have hi : i < its.toArray.size := by
      rw [List.size_toArray]
      exact (List.getElem?_eq_some_iff.mp hu).1
    refine wpAny_pyNext_enum_itemD (Draws.tuple (by first | exact I.ok.hd hc | (show X.A.handled = none; exact I.ok.hd hc)) it a hai its.toArray) he ⟨hit, p⟩ hi hne (by simp [hne, Ne.symm hae]) fun y h' tk hy ho hit' hT hsz hk => ?_
    have ey : u = y := by
      have hy' : its.toArray[i]? = some y := hy
      rw [List.getElem?_toArray, hu] at hy'
      exact Option.some.inj hy'
    subst ey
    refine ⟨_, rfl, wpAny_letOwnedTupleGo_enum (s := { s with heap := h', toks := tk + 1 }) ho fun h'' he' sb => ?_⟩
    have hT2 : h''.get? s.heap.objs.size = some { cls := .type "tuple", data := .seq #[.int i tk, u] } := (sb.2 _ (Nat.ne_of_gt hel)).trans hT
    have new : ObjOk X.prog X.w (upd H s.heap.objs.size (.tup [.int (i : Nat), x])) h'' s.heap.objs.size (.tup [.int (i : Nat), x]) :=
      ⟨by show 2 ≤ sizeLine; decide, [.int i tk, u], .cons ⟨_, rfl⟩ (.cons ru .nil), ⟨_, hT2, rfl, _, rfl⟩⟩
    have I1 : Inv X pins σ (upd H s.heap.objs.size (.tup [.int (i : Nat), x])) { s with heap := h'', toks := tk + 1 } :=
      I.turnedNew (ch := [e, it]) (fun b ob hb q => (sb.2 b (fun z => hb (by simp [z]))).trans (hk b ob (fun z => hb (by simp [z])) (fun z => hb (by simp [z])) q)) hf (Nat.le_refl _) new
    refine ⟨.ref s.heap.objs.size, _, I1, rfl, ⟨_, x, rfl, I.hok.fresh (Nat.le_refl _), rfl, fun ys hy => by rw [I.tuple_inj hy hq]; exact hx⟩, ⟨⟨u, ?_⟩, hit'.1.at fun o q => (sb.2 it (Ne.symm hne)).trans q, hne, hai, hae⟩, fun b hb => ?_⟩
    · rw [show ((i + 1 : Nat) : Int) = (i : Int) + 1 by omega]
      exact he'
    · have hb' : b < s.heap.objs.size := by
        rcases (show b = e ∨ b = it by simpa using hb) with z | z
        · rw [z]; exact hel
        · rw [z]; exact hil
      rw [upd_ne (Nat.ne_of_lt hb')]
      exact (hf b hb).1
  done := by
    intro X hP hw hK hc i pins s σ H E I hf st hg
    subst hP hw hK
    obtain ⟨⟨old, he⟩, hit, hne, hai, hae⟩ := st
    obtain ⟨xs, hq, hx⟩ := hg
    obtain ⟨its, rv, p, hz⟩ := I.tuple hq
    obtain ⟨f0, f1, f2, f3, f4, f5⟩ := hf it (by simp)
    have hl : its.toArray.size = i := by
      rw [List.size_toArray, ← rv.length]
      exact hx
    exact wpAny_pyNext_enum_endD (Draws.tuple (by first | exact I.ok.hd hc | (show X.A.handled = none; exact I.ok.hd hc)) it a hai its.toArray) he (by rw [hl]; exact ⟨hit, p⟩) fun h' eb => ⟨rfl, I.turned (t' := s.toks) (fun b o hb q => eb b o hb q) f0 f1 f3 f4 f5⟩
  self := fun A i s Q E st h => by
    obtain ⟨⟨_, he⟩, _⟩ := st
    exact wpAny_pyIter_enum he h
def iEnumT (K : PySem.W.Frag) (ta : TA) : TI := fun σ H R => ta σ H fun vs H1 => ∃ a xs, vs = [.ref a] ∧ SqT K H1 a xs ∧ R (IteT K a) H1
theorem pi_enumT {X : Cx} {e : Expr} {ta : TA} {p pos tpos : Pos} {elts : List Expr} {kk : Nat} (hg : Gl X "enumerate") (hm : X.mg "enumerate" = none) (ha : PA X [e] ta) (hs : starEach [e] X.env = [(false, eval e X.env)] := by rfl) :
    PI X (.Tuple elts kk tpos) (.Call (.Name "enumerate" p) [e] [] pos) (iEnumT X.K ta) := by
  refine ⟨fun pins s σ H R I h => ?_⟩
  refine Call_ (ld_blt I hg hm boot_enumerate (PyProof.Rows.callWith_type1 (thn (ha.run pos pins s σ H _ I h) fun us s1 ⟨vs, H1, I1, r1, q1⟩ => ?_) hs rfl))
  obtain ⟨a, xs, ex, hq, q⟩ := q1
  subst ex
  cases r1 with
  | cons r rr =>
    cases rr
    cases r
    obtain ⟨its, rv, p', hz⟩ := I1.tuple hq
    have hal : a < s1.heap.objs.size := p'.lt
    refine call_enum1 (begins_tuple a its.toArray) p' fun h' he ho hk => wpAny_pyIter_enum he ?_
    have I2 : Inv X pins σ H1 { s1 with heap := h' } := I1.kept (t' := s1.toks) hk
    refine ⟨s1.heap.objs.size + 1, [s1.heap.objs.size + 1, s1.heap.objs.size], _, _, H1, rfl, I2, turn_enumT a (s1.heap.objs.size + 1) s1.heap.objs.size, ⟨⟨.none, he⟩, ⟨_, ho, rfl, rfl⟩, Nat.succ_ne_self _, Nat.ne_of_lt hal, Nat.ne_of_lt (Nat.lt_succ_of_lt hal)⟩, fun b hb => ?_, q⟩
    have hle : s1.heap.objs.size ≤ b := by
      rcases (show b = s1.heap.objs.size + 1 ∨ b = s1.heap.objs.size by simpa using hb) with z | z
      · rw [z]
        exact Nat.le_add_right _ _
      · rw [z]
        exact Nat.le_refl _
    exact I1.fpOk hle (I1.hok.fresh hle)
theorem yl_enumT {T : TT0} {K : PySem.W.Frag} {mg : MG} {a : Addr} {xs : List V} {ds : List D} {G0 : Hp} {n0 : Nat} (h : SqT K G0 a xs) (r : RepAll K mg G0 n0 xs ds) : Yl T K mg (IteT K a) G0 n0 (enumD ds) where
  stop := fun i G H n s l hn hi => ⟨xs, sqT_sub s (sqT_le l h), by rw [r.length, ← enumD_length]; exact hi⟩
  go := fun i G H n d s l hn hi => by
    rw [enumD_get] at hi
    cases hd : ds[i]? with
    | none =>
      rw [hd] at hi
      cases hi
    | some d0 =>
      rw [hd] at hi
      have e0 : D.tup [.int (i : Nat), d0] = d := Option.some.inj hi
      subst e0
      obtain ⟨v, e, rv⟩ := r.get hd
      have hq : SqT K H a xs := sqT_sub s (sqT_le l h)
      refine ⟨⟨xs, v, hq, e⟩, fun x H' y => ?_⟩
      obtain ⟨P, w, ex, np, eH, y⟩ := y
      have ew : v = w := Option.some.inj (e.symm.trans (y xs hq))
      subst ex eH ew
      have g : Gw T 0 G H _ _ := .alloc (o := .tup [.int (i : Nat), v]) s np
      exact ⟨_, g, .tup (SqT.of upd_same) (.cons (.int _) (.cons ((rv.up l (by omega)).up g.le (Nat.le_refl _)) .nil))⟩
section
variable {c : Ct} {X : Cx}
/-- enumerate of a tuple -/
def dEnumT (da : DA) : DI := fun S Q => da S fun ds S1 => ∃ l, ds = [.tup l] ∧ Q (enumD l) S1
theorem pdi_enumT {e : Expr} {da : DA} {p pos tpos : Pos} {elts : List Expr} {kk : Nat} (hg : Gl X "enumerate") (hm : X.mg "enumerate" = none) (ha : PDA c X [e] da) (hs : starEach [e] X.env = [(false, eval e X.env)] := by rfl) :
    PDI c X (.Tuple elts kk tpos) (.Call (.Name "enumerate" p) [e] [] pos) (dEnumT da) := by
  obtain ⟨ta, a1, a2⟩ := ha
  refine ⟨_, pi_enumT hg hm a1 hs, fun σ G H S Qd R Rr hR h => ?_⟩
  refine a2 σ G H S _ _ Rr (fun vs H1 ⟨G1, S1, ds, A, r, q⟩ => ?_) h
  obtain ⟨l, e, q⟩ := q
  subst e
  obtain ⟨v, ev, rv⟩ := rep1 r
  subst ev
  cases rv with
  | tup h a => exact ⟨_, _, rfl, sqT_sub A.rp.sub h, hR _ _ ⟨G1, S1, _, A, yl_enumT h a, q⟩⟩
/-! ### x[::-1] -/
def dRevL (de : DE) : DE := fun S Q => de S fun x S1 => ∃ l, x = .lst l ∧ Q (.lst l.reverse) S1
theorem pd_revL {e : Expr} {de : DE} {k : Nat} {p1 p2 p3 pos : Pos} (he : PDE c X e de) : PDE c X (.Subscript e (.Slice none none (some (.UnaryOp .USub (.Constant (.int 1) k p1) p2)) p3) pos) (dRevL de) := by
  obtain ⟨te, e1, e2⟩ := he
  refine ⟨_, pe_revL e1, fun σ G H S Qd Q R hQ h => ?_⟩
  refine e2 σ G H S _ _ R (fun v H1 ⟨G1, S1, d, A, r, q⟩ => ?_) h
  obtain ⟨l, e, q⟩ := q
  subst e
  cases r with
  | @lst a xs ds hr ra =>
    refine ⟨a, xs, rfl, sqL_sub A.rp.sub hr, fun p np => ?_⟩
    have g : Gw c.T 0 G1 H1 _ _ := .alloc (o := .lst xs.reverse) A.rp.sub np
    exact hQ _ _ ⟨_, S1, _, A.trans (Aft.gw0 A.rp g), .lst (.inl (.inl upd_same)) (ra.reverse.up g.le (Nat.le_refl _)), q⟩
end
end DL
set_option maxHeartbeats 1000000
namespace DL
open PySem PySem.Spec PyProof.Rows HT
section
variable {prog : Program} {w : World} {A : Around} {E : Value → Shared → Prop} {s : Shared}
theorem fm_some {α : Type} {f : Nat → Option α} {g : Nat → α} : ∀ l : List Nat, (∀ k ∈ l, f k = some (g k)) → l.filterMap f = l.map g
  | [], _ => rfl
  | k :: l, h => by rw [List.filterMap_cons, h k List.mem_cons_self, fm_some l fun j hj => h j (List.mem_cons_of_mem _ hj), List.map_cons]
theorem rev_sel (xs : Array Value) : ((List.range xs.size).filterMap fun (k : Nat) => xs[(((xs.size : Int) - 1) + (k : Int) * (-1)).toNat]?).toArray = xs.toList.reverse.toArray := by
  have e : ((List.range xs.size).filterMap fun (k : Nat) => xs[(((xs.size : Int) - 1) + (k : Int) * (-1)).toNat]?) = xs.toList.reverse := by
    apply List.ext_getElem?
    intro i
    have e1 : ((List.range xs.size).filterMap fun (k : Nat) => xs[(((xs.size : Int) - 1) + (k : Int) * (-1)).toNat]?) = (List.range xs.size).map fun k => xs.getD (xs.size - 1 - k) .none := by
      refine fm_some _ fun k hk => ?_
      have hk' : k < xs.size := List.mem_range.mp hk
      have e2 : (((xs.size : Int) - 1) + (k : Int) * (-1)).toNat = xs.size - 1 - k := by omega
      rw [e2]
      have h3 : xs.size - 1 - k < xs.size := by omega
      simp [Array.getD, h3]
    rw [e1, List.getElem?_map]
    by_cases hi : i < xs.size
    · rw [List.getElem?_eq_getElem (by simpa using hi), List.getElem_range, List.getElem?_reverse (by simpa using hi)]
      have h3 : xs.size - 1 - i < xs.size := by omega
      simp [Array.getD, h3]
    · rw [List.getElem?_eq_none (by simpa using hi), List.getElem?_eq_none (by simpa using hi)]
      rfl
  rw [e]
theorem getItem_tuple_rev {t sl : Addr} {items : Array Value} {vs : Value} {Q : Value → Shared → Prop} (ht : IsTup s.heap t items) (hs : s.heap.IsSliceOf sl .none .none vs) (ps : IsPart vs (some (-1)))
    (h : Q (.ref s.heap.objs.size) { s with heap := s.heap.push { cls := .type "tuple", data := .seq items.toList.reverse.toArray } }) (hsz : items.size ≤ sizeLine) : wpAny (model prog w) A (getItem (.ref t) (.ref sl)) Q E s := by
  obtain ⟨os, hos, hcs, hds⟩ := id hs
  have hTs : s.TypeIs (.ref sl) "slice" := ⟨os, hos, hcs⟩
  have hz : sizeOk (.seq items.toList.reverse.toArray) := by
    show items.toList.reverse.toArray.size ≤ sizeLine
    simpa using hsz
  unfold getItem
  try with_reducible refine wpAny_holding ?_
  first | refine wpAny_bind (wpAny_pure ?_) | skip
  refine wpAny_bind (wpAny_sequenceKey ht.typeIs (by decide) (wpAny_bind (wpAny_callSpecial?_slot (name := Str.ofString "__getitem__") ht.typeIs PyProof.Rows.slot_tuple_getitem
    (wpAny_call_entry PyProof.Rows.slot_tuple_getitem ht.typeIs entry_tuple_getitem ?_ (args_tuple_getitem _ _)))))
  show wpAny _ _ (Builtin.Tuple.tupleItemsOf (.ref t) >>= _) _ _ s
  refine wpAny_bind (tupleItemsOf_ ht (wpAny_bind (wpAny_typeOf hTs ?_)))
  rw [if_pos (by decide)]
  have ap : ∀ {Q : Int × Int × Nat → Shared → Prop} {A : Around} {E : Value → Shared → Prop}, Q ((items.size : Int) - 1, -1, items.size) s → wpAny (model prog w) A (Builtin.Slice.sliceApplied (.ref sl) (pure (items.size : Int))) Q E s := fun {Q A E} q => by
    unfold Builtin.Slice.sliceApplied Builtin.Slice.sliceFields
    refine wpAny_bind (wpAny_bind (wpAny_field hos hds (x := .none) rfl (wpAny_bind (wpAny_field hos hds (x := .none) rfl (wpAny_bind (wpAny_field hos hds (x := vs) rfl (wpAny_pure ?_)))))))
    refine wpAny_bind (slicePart_ ps ?_)
    show wpAny _ _ (if ((-1 : Int) == 0) = true then _ else _) _ _ s
    rw [if_neg (by decide)]
    refine wpAny_bind (slicePart_ .none (wpAny_bind (slicePart_ .none (wpAny_bind (wpAny_pure ?_)))))
    have adj : Builtin.Slice.sliceAdjust none none (-1) (items.size : Int) = ((items.size : Int) - 1, -1) := by
      unfold Builtin.Slice.sliceAdjust
      simp
    have pl : Builtin.Slice.slicePlaces ((items.size : Int) - 1) (-1) (-1) = items.size := by
      unfold Builtin.Slice.slicePlaces
      simp
      try split
      all_goals try omega
    show wpAny _ _ (match Builtin.Slice.sliceAdjust none none (-1) (items.size : Int) with | (lo, hi) => pure (lo, (-1 : Int), Builtin.Slice.slicePlaces lo hi (-1))) _ _ s
    rw [adj]
    show wpAny _ _ (pure ((items.size : Int) - 1, (-1 : Int), Builtin.Slice.slicePlaces ((items.size : Int) - 1) (-1) (-1))) _ _ s
    rw [pl]
    exact wpAny_pure q
  refine wpAny_bind (ap ?_)
  have hno : ¬ ((((items.size : Int) - 1) == 0 && (-1 : Int) == 1 && items.size == items.size) = true) := by simp
  show wpAny _ _ (if ((((items.size : Int) - 1) == 0 && (-1 : Int) == 1 && items.size == items.size)) = true then _ else _) _ _ s
  rw [if_neg hno, rev_sel]
  first
    | exact wpAny_bind (m := Builtin.Tuple.tupleExact _) (wpAny_newObj_type (wpAny_pure ⟨_, rfl, wpAny_pure h⟩) hz)
    | exact wpAny_bind (m := Builtin.Tuple.tupleExact _) (wpAny_newObj_type (wpAny_bind (wpAny_pure (wpAny_pure ⟨_, rfl, wpAny_pure h⟩))) hz)
    | exact wpAny_bind (wpAny_bind (m := Builtin.Tuple.tupleExact _) (wpAny_newObj_type (wpAny_pure (wpAny_pure ⟨_, rfl, wpAny_pure h⟩)) hz))
    | exact wpAny_bind (wpAny_bind (m := Builtin.Tuple.tupleExact _) (wpAny_newObj_type (wpAny_pure ⟨_, rfl, wpAny_pure h⟩) hz))
end
end DL
namespace DL
open PySem PySem.Spec PyProof.Rows L2
/-- t[::-1] -/
def tRevT (K : PySem.W.Frag) (te : TE) : TE := fun σ H Q => te σ H fun x H1 => ∃ a xs, x = .ref a ∧ SqT K H1 a xs ∧ ∀ p, H1 p = none → Q (.ref p) (upd H1 p (.tup xs.reverse))
theorem pe_revT {X : Cx} {e : Expr} {te : TE} {k : Nat} {p1 p2 p3 pos : Pos} (he : PE X e te) : PE X (.Subscript e (.Slice none none (some (.UnaryOp .USub (.Constant (.int 1) k p1) p2)) p3) pos) (tRevT X.K te) := by
  refine ⟨fun pins s σ H Q I h => ?_⟩
  refine Subscript_ (thn (he.run pins s σ H _ I h) fun v s1 ⟨x, H1, I1, r1, a, xs, ex, hx, q⟩ => ?_)
  subst ex
  cases r1
  have hst : PO X (some (.UnaryOp .USub (.Constant (.int 1) k p1) p2)) (tPart (tUn (rU fun i => .int (-i)) (tC (.int 1)))) := po_some (pe_un un_neg pe_int)
  refine wpAny_Slice (thn (po_none.run pins s1 σ H1 (fun o H2 => o = none ∧ H2 = H1) I1 ⟨rfl, rfl⟩) fun vl s2 ⟨l, H2, I2, pl, el, e2⟩ => ?_)
  subst el e2
  refine thn (po_none.run pins s2 σ H2 (fun o H3 => o = none ∧ H3 = H2) I2 ⟨rfl, rfl⟩) fun vu s3 ⟨u, H3, I3, pu, eu, e3⟩ => ?_
  subst eu e3
  refine thn (hst.run pins s3 σ H3 (fun o H4 => o = some (-1) ∧ H4 = H3) I3 ⟨1, rfl, -1, rfl, rfl, rfl⟩) fun vs s4 ⟨o, H4, I4, ps, eo, e4⟩ => ?_
  subst eo e4
  cases pl
  cases pu
  have I5 : Inv X pins σ H4 { s4 with heap := s4.heap.push { cls := .type "slice", data := .fields #[.none, .none, vs] } } := I4.kept (t' := s4.toks) fun b ob q => Heap.get?_push_of_some _ q
  obtain ⟨its, r, ht, hz⟩ := I5.tuple hx
  have hlen := r.length
  show wpAny (model X.prog X.w) X.A (subscriptTail e (.Slice none none (some (.UnaryOp .USub (.Constant (.int 1) k p1) p2)) p3) (.ref a) (.ref s4.heap.objs.size)) (EP X pins σ Q) X.xe { s4 with heap := s4.heap.push { cls := .type "slice", data := .fields #[.none, .none, vs] } }
  refine tail_any (ops := [.ref a, .ref s4.heap.objs.size]) ht.typeIs PyProof.Rows.slot_tuple_getitem.lookup ?_ (by with_unfolding_all rfl)
  refine getItem_tuple_rev ht (Heap.IsSliceOf.new _ .none .none vs) ps ?_ (by rw [List.size_toArray]; omega)
  refine ⟨.ref _, _, I5.laid (t' := s4.toks) (o := .tup xs.reverse) (fun b ob q => Heap.get?_push_of_some _ q) (Nat.le_refl _) ?_, rfl, q _ (I5.hok.fresh (Nat.le_refl _))⟩
  exact ⟨by rw [List.length_reverse]; exact hz, _, r.reverse, IsTup.new _ _⟩
section
variable {c : Ct} {X : Cx}
def dRevT (de : DE) : DE := fun S Q => de S fun x S1 => ∃ l, x = .tup l ∧ Q (.tup l.reverse) S1
theorem pd_revT {e : Expr} {de : DE} {k : Nat} {p1 p2 p3 pos : Pos} (he : PDE c X e de) : PDE c X (.Subscript e (.Slice none none (some (.UnaryOp .USub (.Constant (.int 1) k p1) p2)) p3) pos) (dRevT de) := by
  obtain ⟨te, e1, e2⟩ := he
  refine ⟨_, pe_revT e1, fun σ G H S Qd Q R hQ h => ?_⟩
  refine e2 σ G H S _ _ R (fun v H1 ⟨G1, S1, d, A, r, q⟩ => ?_) h
  obtain ⟨l, e, q⟩ := q
  subst e
  cases r with
  | @tup a xs ds hr ra =>
    refine ⟨a, xs, rfl, sqT_sub A.rp.sub hr, fun p np => ?_⟩
    have g : Gw c.T 0 G1 H1 _ _ := .alloc (o := .tup xs.reverse) A.rp.sub np
    exact hQ _ _ ⟨_, S1, _, A.trans (Aft.gw0 A.rp g), .tup (SqT.of upd_same) (ra.reverse.up g.le (Nat.le_refl _)), q⟩
end
end DL
set_option maxHeartbeats 1000000
namespace DL
open PySem PySem.Spec PyProof.Rows L2
/-! ### places by number: d.setdefault(x, []).append(i) over enumerate -/
def gsAdd : List (Int × List Int) → Int → Int → List (Int × List Int)
  | [], i, x => [(x, [i])]
  | (k, ps) :: r, i, x => if k = x then (k, ps ++ [i]) :: r else (k, ps) :: gsAdd r i x
def gsStep (gs : List (Int × List Int)) (i x : Int) : List (Int × List Int) := if 0 < x then gsAdd gs i x else gs
/-- from the place i on -/
def gsAll : List (Int × List Int) → Nat → List Int → List (Int × List Int)
  | gs, _, [] => gs
  | gs, i, x :: ds => gsAll (gsStep gs (i : Nat) x) (i + 1) ds
def gsD (gs : List (Int × List Int)) : List (Key × D) := gs.map fun g => (.inl g.1, .lst (g.2.map .int))
abbrev kvOf (gs : List (Int × List Int)) (bs : List Addr) : List (Key × V) := List.zipWith (fun g b => ((Sum.inl g.1 : Key), V.ref b)) gs bs
theorem kv_find : ∀ (gs : List (Int × List Int)) (bs : List Addr) (x : Int), bs.length = gs.length →
    (∃ j ps b, gs[j]? = some (x, ps) ∧ bs[j]? = some b ∧ valV (kvOf gs bs) (.inl x) = some (.ref b) ∧ ∀ i, gsAdd gs i x = gs.set j (x, ps ++ [i])) ∨
    (valV (kvOf gs bs) (.inl x) = none ∧ ∀ i, gsAdd gs i x = gs ++ [(x, [i])])
  | [], bs, x, _ => .inr ⟨by cases bs <;> rfl, fun i => rfl⟩
  | (k, ps) :: gs, [], x, h => by simp at h
  | (k, ps) :: gs, b :: bs, x, h => by
    have h' : bs.length = gs.length := by simpa using h
    by_cases e : k = x
    · subst e
      exact .inl ⟨0, ps, b, rfl, rfl, valV_pos rfl, fun i => by simp [gsAdd]⟩
    · have e2 : ¬ ((Sum.inl k : Key) = .inl x) := fun z => e (Sum.inl.inj z)
      have ev : valV (kvOf ((k, ps) :: gs) (b :: bs)) (.inl x) = valV (kvOf gs bs) (.inl x) := valV_neg (p := ((Sum.inl k : Key), V.ref b)) e2
      rcases kv_find gs bs x h' with ⟨j, ps', b', h1, h2, h3, h4⟩ | ⟨h1, h2⟩
      · exact .inl ⟨j + 1, ps', b', h1, h2, by rw [ev]; exact h3, fun i => by simp [gsAdd, e, h4 i]⟩
      · exact .inr ⟨by rw [ev]; exact h1, fun i => by simp [gsAdd, e, h2 i]⟩
theorem gsAdd_len : ∀ (gs : List (Int × List Int)) (i x : Int), (gsAdd gs i x).length ≤ gs.length + 1
  | [], i, x => by simp [gsAdd]
  | (k, ps) :: r, i, x => by
    unfold gsAdd
    split
    · simp
    · have := gsAdd_len r i x
      simp
      omega
theorem gsAdd_all : ∀ (gs : List (Int × List Int)) (i x : Int) (m : Nat), (∀ g ∈ gs, g.2.length ≤ m) → ∀ g ∈ gsAdd gs i x, g.2.length ≤ m + 1
  | [], i, x, m, h, g, hg => by
    have e : g = (x, [i]) := by simpa [gsAdd] using hg
    rw [e]
    simp
  | (k, ps) :: r, i, x, m, h, g, hg => by
    unfold gsAdd at hg
    split at hg
    · rcases List.mem_cons.mp hg with e | e
      · have := h (k, ps) List.mem_cons_self
        rw [e]
        simp
        exact this
      · have := h g (List.mem_cons_of_mem _ e)
        omega
    · rcases List.mem_cons.mp hg with e | e
      · have := h (k, ps) List.mem_cons_self
        rw [e]
        exact Nat.le_succ_of_le this
      · exact gsAdd_all r i x m (fun g' h' => h g' (List.mem_cons_of_mem _ h')) g e
theorem nodup_at : ∀ {bs : List Addr} {j m : Nat} {b : Addr}, bs.Nodup → bs[j]? = some b → bs[m]? = some b → j = m
  | [], j, m, b, _, h, _ => by simp at h
  | x :: bs, 0, 0, b, _, _, _ => rfl
  | x :: bs, 0, m + 1, b, nd, h1, h2 => by
    have e : x = b := Option.some.inj h1
    have h2' : bs[m]? = some b := h2
    exact absurd (List.mem_of_getElem? h2') (by rw [← e]; exact (List.nodup_cons.mp nd).1)
  | x :: bs, j + 1, 0, b, nd, h1, h2 => by
    have e : x = b := Option.some.inj h2
    have h1' : bs[j]? = some b := h1
    exact absurd (List.mem_of_getElem? h1') (by rw [← e]; exact (List.nodup_cons.mp nd).1)
  | x :: bs, j + 1, m + 1, b, nd, h1, h2 => by
    have h1' : bs[j]? = some b := h1
    have h2' : bs[m]? = some b := h2
    rw [nodup_at (List.nodup_cons.mp nd).2 h1' h2']
structure SpI (c : Ct) (K : PySem.W.Frag) (mg : MG) (σ : Sig) (G H : Hp) (S : DS) (ip : Nat) (a : Addr) (gs : List (Int × List Int)) (bs : List Addr) : Prop where
  rp : Rp c K mg σ G H S
  pa : σ[ip]? = some (some (.ref a))
  ha : H a = some (.dK (kvOf gs bs))
  ga : G a = none
  za : c.G0 a = none → c.H0 a = none
  la : Loose σ S a
  len : bs.length = gs.length
  nd : bs.Nodup
  na : a ∉ bs
  hb : ∀ (j : Nat) b g, bs[j]? = some b → gs[j]? = some g → H b = some (.lst (g.2.map V.int))
  gb : ∀ b ∈ bs, G b = none ∧ (c.G0 b = none → c.H0 b = none) ∧ Loose σ S b
abbrev spBody (K : PySem.W.Frag) (ip ia ix : Nat) : TS :=
  tIfS (tTest (tOp (rI0 fun i j => V.bl (decide (j < i))) (tVar ix) (tC (.int 0)))) (tDrop (tBM K "list" rAppend (tDSetd (tVar ip) (tVar ix) (tLst tNil)) (tCons (tVar ia) tNil))) tNext
section
variable {c : Ct} {K : PySem.W.Frag} {mg : MG} {σ : Sig} {G H : Hp} {S : DS} {ip ia ix : Nat} {a : Addr} {gs : List (Int × List Int)} {bs : List Addr}
theorem kv_len (h : bs.length = gs.length) : (kvOf gs bs).length = gs.length := by
  unfold kvOf
  rw [List.length_zipWith, h, Nat.min_self]
theorem sp_step (I : SpI c K mg σ G H S ip a gs bs) {x i : Int} (hx : σ[ix]? = some (some (.int x))) (hi : σ[ia]? = some (some (.int i))) (hz : gs.length < 16777216) (hz2 : ∀ g ∈ gs, g.2.length < 16777216) {Dn : Ends}
    (q : ∀ H' bs', SpI c K mg σ G H' S ip a (gsStep gs i x) bs' → Dn.nx σ H') : spBody K ip ia ix Dn σ H := by
  refine ⟨.int x, hx, x, 0, rfl, rfl, _, rfl, ?_⟩
  show if decide (0 < x) = true then _ else _
  by_cases h0 : 0 < x
  · rw [if_pos (decide_eq_true h0)]
    have es : gsStep gs i x = gsAdd gs i x := by unfold gsStep; rw [if_pos h0]
    rw [es] at q
    refine ⟨.ref a, I.pa, a, rfl, .inl ⟨_, .inl I.ha⟩, .int x, hx, by show 0 ≤ sizeLine; exact Nat.zero_le _, fun p np => ?_⟩
    have npa : a ≠ p := ne_of_none I.ha np
    have npb : ∀ b ∈ bs, b ≠ p := fun b hb => by
      obtain ⟨j, hj⟩ := List.getElem?_of_mem hb
      have hl : j < gs.length := by
        rw [← I.len]
        exact (List.getElem?_eq_some_iff.mp hj).1
      exact ne_of_none (I.hb j b gs[j] hj (List.getElem?_eq_getElem hl)) np
    have h1a : upd H p (.lst []) a = some (.dK (kvOf gs bs)) := by rw [upd_ne npa]; exact I.ha
    have R1 : Rp c K mg σ G (upd H p (.lst [])) S := I.rp.hide np pl_lst
    have Gp : G p = none := I.rp.gnone np
    refine ⟨kvOf gs bs, .inl x, h1a, rfl, by rw [kv_len I.len, sizeLine_eq]; exact hz, fun v hv => ?_, fun hn => ?_⟩
    · rcases kv_find gs bs x I.len with ⟨j, ps, b, k1, k2, k3, k4⟩ | ⟨k1, _⟩
      · rw [k3] at hv
        cases hv
        have hbm : b ∈ bs := List.mem_of_getElem? k2
        have hH : upd H p (.lst []) b = some (.lst (ps.map V.int)) := by
          rw [upd_ne (npb b hbm)]
          exact I.hb j b _ k2 k1
        obtain ⟨g1, g2, g3⟩ := I.gb b hbm
        have hps := hz2 (x, ps) (List.mem_of_getElem? k1)
        refine ⟨.inl ⟨rfl, _, SqL.of hH⟩, .int i, hi, b, _, .int i, rfl, rfl, hH, by rw [List.length_map, sizeLine_eq]; exact hps, ?_⟩
        refine q _ bs ?_
        rw [k4 i]
        have hab : a ≠ b := fun z => I.na (by rw [z]; exact hbm)
        have hjl : j < gs.length := (List.getElem?_eq_some_iff.mp k1).1
        have ekv : kvOf (gs.set j (x, ps ++ [i])) bs = kvOf gs bs := by
          apply List.ext_getElem?
          intro m
          unfold kvOf
          rw [List.getElem?_zipWith, List.getElem?_zipWith]
          by_cases hm : j = m
          · subst hm
            rw [List.getElem?_set_self hjl, k1, k2]
          · rw [List.getElem?_set_ne hm]
        refine ⟨R1.poke g1 g2 pl_lst g3, I.pa, by rw [upd_ne hab, h1a, ekv], I.ga, I.za, I.la, by rw [List.length_set]; exact I.len, I.nd, I.na, fun m b' g' e1 e2 => ?_, I.gb⟩
        by_cases hm : j = m
        · subst hm
          rw [k2] at e1
          cases e1
          rw [List.getElem?_set_self hjl] at e2
          cases e2
          rw [upd_same, List.map_append]
          rfl
        · rw [List.getElem?_set_ne hm] at e2
          have hb' : b' ∈ bs := List.mem_of_getElem? e1
          have ne : b' ≠ b := fun z => by
            subst z
            exact hm (nodup_at I.nd k2 e1)
          rw [upd_ne ne, upd_ne (npb b' hb')]
          exact I.hb m b' g' e1 e2
      · rw [k1] at hv
        cases hv
    · rcases kv_find gs bs x I.len with ⟨j, ps, b, k1, k2, k3, k4⟩ | ⟨_, k2⟩
      · rw [k3] at hn
        cases hn
      · have h2p : upd (upd H p (.lst [])) a (.dK (putK (kvOf gs bs) (.inl x) (.ref p))) p = some (.lst []) := by
          rw [upd_ne (Ne.symm npa), upd_same]
        refine ⟨.inl ⟨rfl, _, SqL.of h2p⟩, .int i, hi, p, _, .int i, rfl, rfl, h2p, by show 0 < sizeLine; rw [sizeLine_eq]; omega, ?_⟩
        refine q _ (bs ++ [p]) ?_
        rw [k2 i]
        have R2 := R1.poke (p := a) (o := .dK (putK (kvOf gs bs) (.inl x) (.ref p))) I.ga I.za pl_dK I.la
        have R3 := R2.poke (p := p) (o := .lst ([] ++ [V.int i])) Gp (I.rp.old np) pl_lst (I.rp.fresh_loose np)
        have ekv : putK (kvOf gs bs) (.inl x) (.ref p) = kvOf (gs ++ [(x, [i])]) (bs ++ [p]) := by
          rw [putK_new _ hn]
          unfold kvOf
          rw [List.zipWith_append (by rw [I.len])]
          rfl
        refine ⟨R3, I.pa, by rw [upd_ne npa, upd_same, ekv], I.ga, I.za, I.la, by simp [I.len], ?_, ?_, fun m b' g' e1 e2 => ?_, fun b hb => ?_⟩
        · rw [List.nodup_append]
          exact ⟨I.nd, by simp, fun b hb b' hb' => by
            have e : b' = p := by simpa using hb'
            rw [e]
            exact npb b hb⟩
        · intro z
          rcases List.mem_append.mp z with z | z
          · exact I.na z
          · exact npa (by simpa using z)
        · by_cases hm : m < bs.length
          · rw [List.getElem?_append_left hm] at e1
            rw [List.getElem?_append_left (by rw [← I.len]; exact hm)] at e2
            have hb' : b' ∈ bs := List.mem_of_getElem? e1
            rw [upd_ne (npb b' hb'), upd_ne (fun z => I.na (by rw [← z]; exact hb')), upd_ne (npb b' hb')]
            exact I.hb m b' g' e1 e2
          · rw [List.getElem?_append_right (by omega)] at e1
            rw [List.getElem?_append_right (by rw [← I.len]; omega)] at e2
            have hm2 : m - bs.length = 0 := by
              cases q : m - bs.length with
              | zero => rfl
              | succ r =>
                rw [q] at e1
                cases e1
            rw [hm2] at e1
            rw [← I.len, hm2] at e2
            cases e1
            cases e2
            exact upd_same
        · rcases List.mem_append.mp hb with hb | hb
          · exact I.gb b hb
          · have e : b = p := by simpa using hb
            rw [e]
            exact ⟨Gp, I.rp.old np, I.rp.fresh_loose np⟩
  · rw [if_neg (by simpa using h0)]
    have es : gsStep gs i x = gs := by unfold gsStep; rw [if_neg h0]
    rw [es] at q
    exact q H bs I
/-- the lists come into the open -/
theorem adopt_all : ∀ (bs : List Addr) {G : Hp} {os : List HO}, Rp c K mg σ G H S → bs.Nodup → bs.length = os.length → (∀ (j : Nat) b o, bs[j]? = some b → os[j]? = some o → H b = some o) → (∀ b ∈ bs, G b = none ∧ (c.G0 b = none → c.H0 b = none) ∧ Loose σ S b) →
    ∃ G', Rp c K mg σ G' H S ∧ Le c.T 0 G G' ∧ (∀ (j : Nat) b o, bs[j]? = some b → os[j]? = some o → G' b = some o) ∧ ∀ b, b ∉ bs → G' b = G b
  | [], G, os, R, _, _, _, _ => ⟨G, R, .refl _ _, fun j b o h => by simp at h, fun _ _ => rfl⟩
  | b :: bs, G, [], R, _, h, _, _ => by simp at h
  | b :: bs, G, o :: os, R, nd, hl, hH, hg => by
    obtain ⟨g1, g2, g3⟩ := hg b List.mem_cons_self
    have R1 := R.adopt g1 g2 g3 (hH 0 b o rfl rfl)
    have nb := (List.nodup_cons.mp nd).1
    have sm : Same G (upd G b o) := fun x w e => by
      rw [upd_ne (ne_of_none e g1)]
      exact e
    obtain ⟨G', R2, l2, k1, k2⟩ := adopt_all bs (os := os) R1 (List.nodup_cons.mp nd).2 (by simpa using hl) (fun j b' o' h1 h2 => hH (j + 1) b' o' h1 h2) (fun b' hb' => by
      obtain ⟨q1, q2, q3⟩ := hg b' (List.mem_cons_of_mem _ hb')
      exact ⟨by rw [upd_ne (fun z => nb (by rw [← z]; exact hb'))]; exact q1, q2, q3⟩)
    refine ⟨G', R2, ?_, fun j b' o' h1 h2 => ?_, fun x hx => ?_⟩
    · exact (Le.same (T := c.T) sm).trans l2
    · cases j with
      | zero =>
        have e1 : b = b' := Option.some.inj h1
        have e2 : o = o' := Option.some.inj h2
        subst e1 e2
        rw [k2 b nb, upd_same]
      | succ j => exact k1 j b' o' h1 h2
    · rw [k2 x (fun z => hx (List.mem_cons_of_mem _ z)), upd_ne (fun z => hx (by rw [z]; exact List.mem_cons_self))]
theorem sp_repK {G' : Hp} {n : Nat} : ∀ (gs : List (Int × List Int)) (bs : List Addr), bs.length = gs.length → (∀ (j : Nat) b g, bs[j]? = some b → gs[j]? = some g → G' b = some (.lst (g.2.map V.int))) → RepK K mg G' n (kvOf gs bs) (gsD gs)
  | [], [], _, _ => .nil
  | [], b :: bs, h, _ => by simp at h
  | g :: gs, [], h, _ => by simp at h
  | g :: gs, b :: bs, h, q => .cons (.lst (.inl (.inl (q 0 b g rfl rfl))) (RepAll.ints g.2)) (sp_repK gs bs (by simpa using h) fun j b' g' h1 h2 => q (j + 1) b' g' h1 h2)
theorem sp_end (I : SpI c K mg σ G H S ip a gs bs) : ∃ G', Rp c K mg (σ.set ip (some (.ref a))) G' H { S with sl := S.sl.set ip (some (.od (gsD gs))) } ∧ Le c.T 0 G G' := by
  have hos : ∀ (j : Nat) b o, bs[j]? = some b → (gs.map fun g => HO.lst (g.2.map V.int))[j]? = some o → H b = some o := fun j b o h1 h2 => by
    rw [List.getElem?_map] at h2
    cases e : gs[j]? with
    | none =>
      rw [e] at h2
      cases h2
    | some g =>
      rw [e] at h2
      have e2 : HO.lst (g.2.map V.int) = o := Option.some.inj h2
      rw [← e2]
      exact I.hb j b g h1 e
  obtain ⟨G', R', l', k1, k2⟩ := adopt_all bs (os := gs.map fun g => HO.lst (g.2.map V.int)) I.rp I.nd (by rw [List.length_map]; exact I.len) hos I.gb
  have Ga : G' a = none := by rw [k2 a I.na]; exact I.ga
  refine ⟨G', R'.take I.la ?_ nOd, l'⟩
  exact ⟨Ga, I.za, _, I.ha, sp_repK gs bs I.len fun j b g h1 h2 => k1 j b _ h1 (by rw [List.getElem?_map, h2] <;> rfl)⟩
end
section
variable {c : Ct} {X : Cx}
def dSpread (ip ia ix : Nat) (di : DI) : DSt := fun B S => di S fun items S1 => ∃ ds : List Int, items = enumD (ds.map .int) ∧ ds.length < 16777216 ∧ odAt S1 ip = some [] ∧ ia < S1.sl.length ∧ ix < S1.sl.length ∧
  B.nx { S1 with sl := ((((S1.sl.set ip none).set ia none).set ix none).set ip (some (.od (gsD (gsAll [] 0 ds))))) }
theorem gsAll_snoc : ∀ (l : List Int) (gs : List (Int × List Int)) (k : Nat) (x : Int), gsAll gs k (l ++ [x]) = gsStep (gsAll gs k l) ((k + l.length : Nat) : Int) x
  | [], gs, k, x => by simp [gsAll]
  | y :: l, gs, k, x => by
    show gsAll (gsStep gs (k : Nat) y) (k + 1) (l ++ [x]) = gsStep (gsAll (gsStep gs (k : Nat) y) (k + 1) l) _ x
    rw [gsAll_snoc l _ (k + 1) x]
    congr 2
    simp
    omega
theorem gsStep_len (gs : List (Int × List Int)) (i x : Int) : (gsStep gs i x).length ≤ gs.length + 1 := by
  unfold gsStep
  split
  · exact gsAdd_len gs i x
  · omega
theorem gsStep_all (gs : List (Int × List Int)) (i x : Int) (m : Nat) (h : ∀ g ∈ gs, g.2.length ≤ m) : ∀ g ∈ gsStep gs i x, g.2.length ≤ m + 1 := by
  unfold gsStep
  split
  · exact gsAdd_all gs i x m h
  · exact fun g hg => Nat.le_succ_of_le (h g hg)
theorem gsAll_small : ∀ (l : List Int) (gs : List (Int × List Int)) (k m : Nat), gs.length ≤ m → (∀ g ∈ gs, g.2.length ≤ m) → (gsAll gs k l).length ≤ m + l.length ∧ ∀ g ∈ gsAll gs k l, g.2.length ≤ m + l.length
  | [], gs, k, m, h1, h2 => ⟨h1, h2⟩
  | x :: l, gs, k, m, h1, h2 => by
    have h3 := gsStep_len gs (k : Nat) x
    obtain ⟨a, b⟩ := gsAll_small l (gsStep gs (k : Nat) x) (k + 1) (m + 1) (by omega) (gsStep_all gs (k : Nat) x m h2)
    have e : m + 1 + l.length = m + (x :: l).length := by simp; omega
    rw [e] at a b
    exact ⟨a, b⟩
theorem set_back {α : Type} {l : List (Option α)} {i j : Nat} {a b : Option α} (hi : l[i]? = some none ∨ l[i]? = none) (hj : l[j]? = some none ∨ l[j]? = none) : (((l.set i a).set j b).set i none).set j none = l := by
  apply List.ext_getElem?
  intro m
  by_cases h2 : j = m
  · subst h2
    by_cases hl : j < l.length
    · rw [List.getElem?_set_self (by simpa using hl)]
      rcases hj with h | h
      · exact h.symm
      · rw [List.getElem?_eq_getElem hl] at h
        cases h
    · rw [List.getElem?_eq_none (by simpa using hl), List.getElem?_eq_none (by simpa using hl)]
  · rw [List.getElem?_set_ne h2]
    by_cases h1 : i = m
    · subst h1
      by_cases hl : i < l.length
      · rw [List.getElem?_set_self (by simpa using hl)]
        rcases hi with h | h
        · exact h.symm
        · rw [List.getElem?_eq_getElem hl] at h
          cases h
      · rw [List.getElem?_eq_none (by simpa using hl), List.getElem?_eq_none (by simpa using hl)]
    · rw [List.getElem?_set_ne h1, List.getElem?_set_ne h2, List.getElem?_set_ne h1]
theorem SpI.gw {K : PySem.W.Frag} {mg : MG} {σ : Sig} {G H G2 H2 : Hp} {S : DS} {ip : Nat} {a : Addr} {gs : List (Int × List Int)} {bs : List Addr} (I : SpI c K mg σ G H S ip a gs bs) (g : Gw c.T 0 G H G2 H2) : SpI c K mg σ G2 H2 S ip a gs bs where
  rp := I.rp.gw0 g
  pa := I.pa
  ha := g.hid _ _ I.ha I.ga
  ga := g.apart I.ha I.ga
  za := I.za
  la := I.la
  len := I.len
  nd := I.nd
  na := I.na
  hb := fun j b q h1 h2 => g.hid _ _ (I.hb j b q h1 h2) (I.gb b (List.mem_of_getElem? h1)).1
  gb := fun b hb => by
    obtain ⟨q1, q2, q3⟩ := I.gb b hb
    obtain ⟨j, hj⟩ := List.getElem?_of_mem hb
    have hl : j < gs.length := by
      rw [← I.len]
      exact (List.getElem?_eq_some_iff.mp hj).1
    exact ⟨g.apart (I.hb j b gs[j] hj (List.getElem?_eq_getElem hl)) q1, q2, q3⟩
theorem SpI.re {K : PySem.W.Frag} {mg : MG} {σ σ2 : Sig} {G H : Hp} {S S2 : DS} {ip : Nat} {a : Addr} {gs : List (Int × List Int)} {bs : List Addr} (I : SpI c K mg σ G H S ip a gs bs) (R : Rp c K mg σ2 G H S2) (hp : σ2[ip]? = σ[ip]?) (k : ∀ b, Loose σ S b → Loose σ2 S2 b) : SpI c K mg σ2 G H S2 ip a gs bs :=
  ⟨R, by rw [hp]; exact I.pa, I.ha, I.ga, I.za, k _ I.la, I.len, I.nd, I.na, I.hb, fun b hb => by
    obtain ⟨q1, q2, q3⟩ := I.gb b hb
    exact ⟨q1, q2, k _ q3⟩⟩
theorem pds_spread {ip ia ix : Nat} {tg iter : Expr} {body : List Stmt} {di : DI} {pos : Pos} (hp : PassesOwn (model X.prog X.w) X.A X.env X.xe) (hc : X.calm = true) (n1 : ip ≠ ia) (n2 : ip ≠ ix) (n3 : ia ≠ ix) (hi : PDI c X tg iter di) (hg : PG X tg (gTup X.K 2 (gCons (gName ia) (gCons (gName ix) gNil)))) (hb : PSs X body (spBody X.K ip ia ix))
    (hs : ∀ x, foldedSetIterable iter X.env x = pure x := by intro _; rfl) : PDS c X (.For tg iter body [] pos) (dSpread ip ia ix di) := by
  obtain ⟨wi, i1, i2⟩ := hi
  refine ⟨_, ps_for hp hc i1 hg hb hs, fun σ G H S B E R h1 h2 h3 h4 h => ?_⟩
  refine i2 σ G H S _ _ R (fun J H1 ⟨G1, S1, items, A, Y, q⟩ => ?_) h
  obtain ⟨ds, ei, hz, ho, hla, hlx, q⟩ := q
  subst ei
  obtain ⟨a, kvs, q1, q2, q3, q4, q5, q6⟩ := od_get A.rp ho
  cases q6
  have hip : ip < S1.sl.length := (List.getElem?_eq_some_iff.mp q1).1
  have len_e : (enumD (ds.map D.int)).length = ds.length := by rw [enumD_length, List.length_map]
  let sl' : List (Option SV) := ((S1.sl.set ip none).set ia none).set ix none
  have sl_ia : sl'[ia]? = some none := by
    show (((S1.sl.set ip none).set ia none).set ix none)[ia]? = _
    rw [List.getElem?_set_ne (Ne.symm n3), List.getElem?_set_self (by simpa using hla)]
  have sl_ix : sl'[ix]? = some none := by
    show (((S1.sl.set ip none).set ia none).set ix none)[ix]? = _
    rw [List.getElem?_set_self (by simpa using hlx)]
  have sl_ip : sl'[ip]? = some none := by
    show (((S1.sl.set ip none).set ia none).set ix none)[ip]? = _
    rw [List.getElem?_set_ne (Ne.symm n2), List.getElem?_set_ne (Ne.symm n1), List.getElem?_set_self hip]
  have self_set : ∀ {l : Sig} {i : Nat}, l.set i (l[i]?.getD none) = l := fun {l i} => by
    apply List.ext_getElem?
    intro j
    by_cases hj : i = j
    · subst hj
      by_cases hl : i < l.length
      · rw [List.getElem?_set_self hl, List.getElem?_eq_getElem hl]
        rfl
      · rw [List.getElem?_eq_none (by simpa using hl), List.getElem?_eq_none (by simpa using hl)]
    · rw [List.getElem?_set_ne hj]
  have drop' : ∀ {σ0 : Sig} {G0 H0 : Hp} {S0 : DS} (i : Nat), Rp c X.K X.mg σ0 G0 H0 S0 → Rp c X.K X.mg σ0 G0 H0 { S0 with sl := S0.sl.set i none } := fun {σ0 G0 H0 S0} i R0 => by
    have z := R0.drop i (σ0[i]?.getD none)
    rw [self_set] at z
    exact z
  have loose_none : ∀ {σ0 : Sig} {S0 : DS} {b : Addr} (i : Nat), Loose σ0 S0 b → Loose σ0 { S0 with sl := S0.sl.set i none } b := fun {σ0 S0 b} i hL => loose_sub hL fun j o => by
    have o' : isOwn (S0.sl.set i none)[j]? := o
    by_cases hj : i = j
    · subst hj
      by_cases hl : i < S0.sl.length
      · rw [List.getElem?_set_self hl] at o'
        exact o'.elim
      · rw [List.getElem?_eq_none (by simpa using hl)] at o'
        exact o'.elim
    · rw [List.getElem?_set_ne hj] at o'
      exact ⟨o', rfl⟩
  have R0 : Rp c X.K X.mg σ G1 H1 ⟨sl', S1.n⟩ := drop' ix (drop' ia (drop' ip A.rp))
  have La : Loose σ ⟨sl', S1.n⟩ a := fun j o e => by
    have o' : isOwn sl'[j]? := o
    by_cases h1 : ip = j
    · subst h1
      rw [sl_ip] at o'
      exact o'
    · by_cases h2 : ia = j
      · subst h2
        rw [sl_ia] at o'
        exact o'
      · by_cases h3 : ix = j
        · subst h3
          rw [sl_ix] at o'
          exact o'
        · have o2 : isOwn S1.sl[j]? := by
            have z : sl'[j]? = S1.sl[j]? := by
              show (((S1.sl.set ip none).set ia none).set ix none)[j]? = _
              rw [List.getElem?_set_ne h3, List.getElem?_set_ne h2, List.getElem?_set_ne h1]
            rw [z] at o'
            exact o'
          exact A.rp.apart ip j a h1 (by rw [q1]; exact True.intro) o2 q2 e
  have I0 : SpI c X.K X.mg σ G1 H1 ⟨sl', S1.n⟩ ip a [] [] := ⟨R0, q2, q5, q3, q4, La, rfl, List.nodup_nil, List.not_mem_nil, fun j b g e => by simp at e, fun b hb => absurd hb List.not_mem_nil⟩
  refine ⟨fun i m σ' H' => m = ds.length - i ∧ i ≤ ds.length ∧ ∃ G' bs, SpI c X.K X.mg σ' G' H' ⟨sl', S1.n⟩ ip a (gsAll [] 0 (ds.take i)) bs ∧ Le c.T 0 G1 G',
    ⟨ds.length, by omega, Nat.zero_le _, G1, [], I0, .refl _ _⟩, fun i m σ' H' hW => ?_⟩
  obtain ⟨em, hi, G', bs, I', l'⟩ := hW
  have l0 : Le c.T (S1.n - S1.n) G1 G' := by
    rw [Nat.sub_self]
    exact l'
  by_cases hlt : i < ds.length
  · have hd : (enumD (ds.map D.int))[i]? = some (.tup [.int (i : Nat), .int ds[i]]) := by
      rw [enumD_get, List.getElem?_map, List.getElem?_eq_getElem hlt]
      rfl
    obtain ⟨go, y⟩ := Y.go i G' H' S1.n _ I'.rp.sub l0 (Nat.le_refl _) hd
    refine .inr ⟨go, fun σ2 H2 => ∃ G' bs, SpI c X.K X.mg σ2 G' H2 ⟨sl', S1.n⟩ ip a (gsAll [] 0 (ds.take (i + 1))) bs ∧ Le c.T 0 G1 G', fun σ2 H2 hN => ⟨ds.length - (i + 1), by omega, rfl, hlt, hN⟩, fun x H2 hy => ?_⟩
    obtain ⟨G2, gw, rx⟩ := y x H2 hy
    have I2 := I'.gw gw
    cases rx with
    | @tup p xs _ hsq ra =>
      obtain ⟨v1, v2, ex, r1, r2⟩ := rep2 ra
      subst ex
      cases r1
      cases r2
      have R3 := (I2.rp.set (i := ia) (d := .int (i : Nat)) (.int (i : Nat))).set (i := ix) (v := .int ds[i]) (d := .int ds[i]) (.int _)
      have hla' : ia < σ'.length := by
        rw [I'.rp.len]
        show ia < sl'.length
        simpa [sl'] using hla
      have hlx' : ix < σ'.length := by
        rw [I'.rp.len]
        show ix < sl'.length
        simpa [sl'] using hlx
      have I3 := I2.re R3 (by rw [List.getElem?_set_ne (Ne.symm n2), List.getElem?_set_ne (Ne.symm n1)]) fun b hL => loose_setP (loose_setP hL I2.rp.len) (by
        show (σ'.set ia (some (V.int (i : Nat)))).length = _
        simp [I2.rp.len])
      obtain ⟨sm1, sm2⟩ := gsAll_small (ds.take i) [] 0 0 (Nat.le_refl _) (fun g hg => absurd hg List.not_mem_nil)
      have htl : (ds.take i).length ≤ ds.length := by
        rw [List.length_take]
        omega
      refine ⟨_, _, rfl, sqT_sub gw.sub hsq, rfl, _, _, rfl, _, _, rfl, rfl, ?_⟩
      refine sp_step I3 (x := ds[i]) (i := (i : Nat)) (List.getElem?_set_self (by simpa using hlx')) ?_ (by omega) (fun g hg => by have := sm2 g hg; omega) (fun H4 bs' I4 => ?_)
      · rw [List.getElem?_set_ne (Ne.symm n3), List.getElem?_set_self hla']
      · have R5 : Rp c X.K X.mg ((σ'.set ia (some (V.int (i : Nat)))).set ix (some (V.int ds[i]))) G2 H4 ⟨sl', S1.n⟩ := by
          have z := drop' ix (drop' ia I4.rp)
          have e : ((((sl'.set ia (some (SV.p (.int (i : Nat))))).set ix (some (SV.p (.int ds[i])))).set ia none).set ix none) = sl' := set_back (.inl sl_ia) (.inl sl_ix)
          have z' : Rp c X.K X.mg ((σ'.set ia (some (V.int (i : Nat)))).set ix (some (V.int ds[i]))) G2 H4 ⟨((((sl'.set ia (some (SV.p (.int (i : Nat))))).set ix (some (SV.p (.int ds[i])))).set ia none).set ix none), S1.n⟩ := z
          rw [e] at z'
          exact z'
        have I5 := I4.re R5 rfl fun b hL => by
          have z := loose_none ix (loose_none ia hL)
          have e : ((((sl'.set ia (some (SV.p (.int (i : Nat))))).set ix (some (SV.p (.int ds[i])))).set ia none).set ix none) = sl' := set_back (.inl sl_ia) (.inl sl_ix)
          have z' : Loose ((σ'.set ia (some (V.int (i : Nat)))).set ix (some (V.int ds[i]))) ⟨((((sl'.set ia (some (SV.p (.int (i : Nat))))).set ix (some (SV.p (.int ds[i])))).set ia none).set ix none), S1.n⟩ b := z
          rw [e] at z'
          exact z'
        refine ⟨G2, bs', ?_, l'.trans gw.le⟩
        have et : ds.take (i + 1) = ds.take i ++ [ds[i]] := by rw [List.take_append_getElem hlt]
        rw [et, gsAll_snoc]
        have ei : ((0 + (ds.take i).length : Nat) : Int) = ((i : Nat) : Int) := by
          rw [List.length_take]
          omega
        rw [ei]
        exact I5
  · have e : i = ds.length := by omega
    subst e
    refine .inl ⟨Y.stop _ G' H' S1.n I'.rp.sub l0 (Nat.le_refl _) len_e, ?_⟩
    rw [List.take_length] at I'
    obtain ⟨G2, R2, l2⟩ := sp_end I'
    have es : σ'.set ip (some (.ref a)) = σ' := by
      apply List.ext_getElem?
      intro j
      by_cases hj : ip = j
      · subst hj
        rw [I'.pa, List.getElem?_set_self (List.getElem?_eq_some_iff.mp I'.pa).1]
      · rw [List.getElem?_set_ne hj]
    rw [es] at R2
    exact h1 σ' H' ⟨G2, _, R2, le_trans' A.le A.nle (n2 := S1.n) (by rw [Nat.sub_self]; exact l'.trans l2) (Nat.le_refl _), A.nle, q⟩
end
end DL
set_option maxHeartbeats 4000000
namespace DL
open PySem PySem.Spec PyProof.Rows L2
/-! ### tuple * 1 -/
theorem tuple_mul1 (l : Addr) (items : Array Value) (n : Nat) (dd : Option Addr) (sl : Array (Option Value)) (u : Tok) :
    Meets (Builtin.«tuple.__mul__» ⟨[.ref l, .int 1 u], []⟩) (fun _ R s => s.heap.get? l = some { cls := .type "tuple", dict := dd, data := .seq items n, slots := sl } ∧ R (.ok (.ret (Value.ref l))) s) :=
  .of_wp fun prog w A R s h => by
    obtain ⟨hp, g, d, tk, os⟩ := s
    obtain ⟨hl, h⟩ := h
    have f1 := AutoSeq1.idx_int
    wp_walk using AutoSeq1.wpAny_loadPart' hl
    all_goals first
      | exact ⟨_, rfl, h⟩
      | (simp; done)
      | skip
def rRep1 (K : PySem.W.Frag) : R2 := fun x y H Q => ∃ l xs, x = .ref l ∧ y = .int 1 ∧ SqT K H l xs ∧ Q (.ref l) H
theorem op_rep1 {X : Cx} : OpR X (binaryOp .Mult) (rRep1 X.K) := by
  intro pins s σ H x y v u Q I rx ry h
  obtain ⟨l, xs, rfl, rfl, hT, q⟩ := h
  cases rx
  obtain ⟨t, rfl⟩ := ry
  obtain ⟨its, r, ⟨⟨cls, dd, data, sl⟩, ho, hc, n, hd⟩, hs⟩ := I.tuple hT
  simp only at hc hd
  subst hc hd
  refine wpAny_binaryOp_repeat_ref (T := "tuple") (U := "int") (by decide) ⟨_, ho, rfl⟩ (fun s' => typeIs_int s' 1 t) noFill_tuple_mul F.fills_int_mul F.slot_int_rmul repeat_tuple F.slot_int_index.lookup
    (call_meets F.slot_int_rmul (typeIs_int s 1 t) F.entry_int_rmul (F.args_int_rmul_2 _ _) (int_rmul_tuple 1 t l its.toArray n dd sl)
      ⟨ho, rfl, ⟨_, ho, rfl⟩, call_meets F.slot_tuple_mul ⟨_, ho, rfl⟩ F.entry_tuple_mul (F.args_tuple_mul_2 _ _) (tuple_mul1 l its.toArray n dd sl t) ⟨ho, ?_⟩⟩)
  exact ⟨.ref l, H, I, rfl, q⟩
def gMulT1 : D → D → Option D
  | .tup a, .int k => if k = 1 then some (.tup a) else none
  | _, _ => none
section
variable {c : Ct} {X : Cx}
theorem od_mulT1 : OpD c X (binaryOp .Mult) gMulT1 := ⟨_, op_rep1, fun G H n x y dx dy z Q s rx ry q hq => by
  unfold gMulT1 at q
  split at q
  · split at q
    · rename_i hk
      subst hk
      cases q
      cases rx with
      | @tup p1 xs ds1 t1 a1 =>
        cases ry
        exact ⟨p1, xs, rfl, rfl, sqT_sub s t1, hq _ G H (.refl s) (.tup t1 a1)⟩
    · cases q
  · cases q⟩
def gMulT2 : D → D → Option D := fun x y => (gMulT x y).or (gMulT1 x y)
theorem od_mulT2 : OpD c X (binaryOp .Mult) gMulT2 := OpD.or od_mulT od_mulT1 fun x y z h => by
  unfold gMulT2 at h
  cases e : gMulT x y with
  | none => rw [e] at h; exact .inr h
  | some w => rw [e] at h; exact .inl h
theorem gMulT2_eq {a : List D} {k : Int} (ha : a ≠ []) (h1 : 1 ≤ k) (h2 : k ≤ 1000) (h3 : a.length ≤ 1000) : gMulT2 (.tup a) (.int k) = some (.tup (List.replicate k.toNat a).flatten) := by
  unfold gMulT2 gMulT gMulT1
  by_cases e : k = 1
  · subst e
    simp
  · have e2 : a ≠ [] ∧ 2 ≤ k ∧ k ≤ 1000 ∧ a.length ≤ 1000 := ⟨ha, by omega, h2, h3⟩
    simp [e2]
end
end DL
set_option maxHeartbeats 1000000
namespace DL
open PySem PySem.Spec PyProof.Rows L2
/-! ### words on data, unfolded -/
theorem w_ite {α : Type} {p : Prop} [Decidable p] {x : α} {Q : α → Prop} : (∃ z, (if p then some x else none) = some z ∧ Q z) ↔ p ∧ Q x := by
  constructor
  · rintro ⟨z, h, q⟩
    split at h
    · cases h
      exact ⟨by assumption, q⟩
    · cases h
  · rintro ⟨h, q⟩
    exact ⟨x, if_pos h, q⟩
theorem w_iteA {α : Type} {p : Prop} [Decidable p] {x : α} {Q : α → Prop} : (∃ z, (if p then some x else none) = some z ∧ Q z) = (p ∧ Q x) := propext w_ite
theorem w_some {α : Type} {x : α} {Q : α → Prop} : (∃ z, some x = some z ∧ Q z) = Q x := by
  apply propext
  constructor
  · rintro ⟨z, h, q⟩
    cases h
    exact q
  · intro q
    exact ⟨x, rfl, q⟩
theorem w_none {α : Type} {Q : α → Prop} : (∃ z, (none : Option α) = some z ∧ Q z) = False := by
  apply propext
  constructor
  · rintro ⟨z, h, q⟩
    cases h
  · exact False.elim
theorem w_bl {b : Bool} {Q : Bool → Prop} : (∃ k, D.bl b = .bl k ∧ Q k) = Q b := by
  apply propext
  constructor
  · rintro ⟨z, h, q⟩
    cases h
    exact q
  · intro q
    exact ⟨b, rfl, q⟩
theorem w_bl2 {b : Bool} {Q : Bool → Prop} : (∃ k, some (D.bl b) = some (.bl k) ∧ Q k) = Q b := by
  apply propext
  constructor
  · rintro ⟨z, h, q⟩
    cases h
    exact q
  · intro q
    exact ⟨b, rfl, q⟩
theorem w_int {i : Int} {Q : Int → Prop} : (∃ k, D.int i = .int k ∧ Q k) = Q i := by
  apply propext
  constructor
  · rintro ⟨z, h, q⟩
    cases h
    exact q
  · intro q
    exact ⟨i, rfl, q⟩
theorem w_lst {l : List D} {Q : List D → Prop} : (∃ k, D.lst l = .lst k ∧ Q k) = Q l := by
  apply propext
  constructor
  · rintro ⟨z, h, q⟩
    cases h
    exact q
  · intro q
    exact ⟨l, rfl, q⟩
theorem w_tup {l : List D} {Q : List D → Prop} : (∃ k, D.tup l = .tup k ∧ Q k) = Q l := by
  apply propext
  constructor
  · rintro ⟨z, h, q⟩
    cases h
    exact q
  · intro q
    exact ⟨l, rfl, q⟩
theorem w_eq {α : Type} {x : α} {Q : α → Prop} : (∃ k, x = k ∧ Q k) = Q x := by
  apply propext
  constructor
  · rintro ⟨z, h, q⟩
    cases h
    exact q
  · intro q
    exact ⟨x, rfl, q⟩
theorem w_g2I {p : Int → Int → Bool} {f : Int → Int → D} {i j : Int} : g2I p f (.int i) (.int j) = if p i j = true then some (f i j) else none := rfl
theorem w_g2T {f : Int → Int → D} {i j : Int} : g2I bTrue f (.int i) (.int j) = some (f i j) := rfl
theorem w_addI {i j : Int} : gAdd (.int i) (.int j) = some (.int (i + j)) := rfl
theorem w_addL {a b : List D} : gAdd (.lst a) (.lst b) = if a.length + b.length ≤ 16777216 then some (.lst (a ++ b)) else none := rfl
theorem w_addT {a b : List D} : gAdd (.tup a) (.tup b) = if a.length + b.length ≤ 16777216 then some (.tup (a ++ b)) else none := rfl
theorem w_addS {a b : Str} : gAdd (.str a) (.str b) = if a.length + b.length ≤ 16777216 then some (.str (a ++ b)) else none := rfl
theorem w_mul {i j : Int} : gMul (.int i) (.int j) = if bMul i j = true then some (.int (i * j)) else none := rfl
theorem w_mulL {i j : Int} (h : -(2 ^ 64) < i ∧ i < 2 ^ 64) : gMul (.int i) (.int j) = some (.int (i * j)) := by
  rw [w_mul, if_pos]
  unfold bMul
  simp only [Bool.or_eq_true, Bool.and_eq_true, decide_eq_true_eq]
  exact .inl h
theorem w_mulR {i j : Int} (h : -(2 ^ 64) < j ∧ j < 2 ^ 64) : gMul (.int i) (.int j) = some (.int (i * j)) := by
  rw [w_mul, if_pos]
  unfold bMul
  simp only [Bool.or_eq_true, Bool.and_eq_true, decide_eq_true_eq]
  exact .inr h
theorem w_mod {f : Int → Int → D} {i j : Int} (h : 0 < j) : g2I (fun _ j => decide (0 < j)) f (.int i) (.int j) = some (f i j) := by
  rw [w_g2I, if_pos (decide_eq_true h)]
theorem w_div {f : Int → Int → D} {i j : Int} (h : 0 < j) (h2 : j < 1073741824) : g2I bDiv f (.int i) (.int j) = some (f i j) := by
  rw [w_g2I, if_pos (by unfold bDiv; rw [decide_eq_true h, decide_eq_true h2]; rfl)]
theorem w_lenT {l : List D} : gLen [.tup l] = some (.int l.length) := rfl
theorem w_lenL {l : List D} : gLen [.lst l] = some (.int l.length) := rfl
theorem w_intI {i : Int} : gInt [.int i] = some (.int i) := rfl
theorem w_intB {b : Bool} : gInt [.bl b] = some (.int (if b then 1 else 0)) := rfl
theorem w_all {l : List Bool} : gAll [.lst (l.map .bl)] = some (.bl (l.all id)) := by
  show (blsOf (l.map .bl)).map (fun bs => D.bl (bs.all id)) = _
  rw [blsOf_map]
  rfl
/-- of a known type -/
def D.isv : D → Bool
  | .fn _ => false
  | .ty _ => false
  | .dice => false
  | _ => true
def D.isInt : D → Bool
  | .int _ => true
  | .bl _ => true
  | _ => false
def D.isBl : D → Bool
  | .bl _ => true
  | _ => false
def D.isTup : D → Bool
  | .tup _ => true
  | _ => false
def D.isStr : D → Bool
  | .str _ => true
  | _ => false
theorem w_isInt {d : D} (h : d.isv = true) : gIsi [d, .ty "int"] = some (.bl d.isInt) := by
  cases d <;> first | (cases h; done) | simp [gIsi, D.isTy, D.isInt]
theorem w_isBl {d : D} (h : d.isv = true) : gIsi [d, .ty "bool"] = some (.bl d.isBl) := by
  cases d <;> first | (cases h; done) | simp [gIsi, D.isTy, D.isBl]
theorem w_isTup {d : D} (h : d.isv = true) : gIsi [d, .ty "tuple"] = some (.bl d.isTup) := by
  cases d <;> first | (cases h; done) | simp [gIsi, D.isTy, D.isTup]
theorem w_isStr {d : D} (h : d.isv = true) : gIsi [d, .ty "str"] = some (.bl d.isStr) := by
  cases d <;> first | (cases h; done) | simp [gIsi, D.isTy, D.isStr]
theorem w_inI {neg : Bool} {i : Int} {ns : List Int} : gInI neg (.int i) (.tup (ns.map .int)) = some (.bl (if neg then !decide (i ∈ ns) else decide (i ∈ ns))) := by
  show (match (some (ns.map D.int)).bind intsOf with | some ns => some (D.bl (if neg then !decide (i ∈ ns) else decide (i ∈ ns))) | none => none) = _
  rw [Option.bind_some, intsOf_map]
theorem w_inL {neg : Bool} {i : Int} {ns : List Int} : gInI neg (.int i) (.lst (ns.map .int)) = some (.bl (if neg then !decide (i ∈ ns) else decide (i ∈ ns))) := by
  show (match (some (ns.map D.int)).bind intsOf with | some ns => some (D.bl (if neg then !decide (i ∈ ns) else decide (i ∈ ns))) | none => none) = _
  rw [Option.bind_some, intsOf_map]
theorem w_all1 {i : Nat} {p : Nat → Prop} : (∀ v ∈ [i], p v) = p i := by
  apply propext
  exact ⟨fun h => h i (by simp), fun h v hv => by rw [List.mem_singleton.mp hv]; exact h⟩
theorem w_all2 {i j : Nat} {p : Nat → Prop} : (∀ v ∈ [i, j], p v) = (p i ∧ p j) := by
  apply propext
  exact ⟨fun h => ⟨h i (by simp), h j (by simp)⟩, fun h v hv => by
    rcases (show v = i ∨ v = j by simpa using hv) with e | e
    · rw [e]; exact h.1
    · rw [e]; exact h.2⟩
theorem w_own0 : (ownB (some none) = false) = True := propext ⟨fun _ => trivial, fun _ => rfl⟩
theorem w_ownP {d : D} : (ownB (some (some (.p d))) = false) = True := propext ⟨fun _ => trivial, fun _ => rfl⟩
/-! ### comprehensions of what is looked at one by one -/
theorem comp_spec {gd : D → Option (List (Nat × D))} {dt : DT} {de : DE} {sl0 : List (Option SV)} {Q : List D → Nat → Prop} (f : D → Option D) {n : Nat} : ∀ (items acc : List D),
    (∀ d ∈ items, ∃ l, gd d = some l ∧ ∀ K : Option D → Nat → Prop, K (f d) n → dt ⟨setsD sl0 l, n⟩ fun b S2 => S2.sl = setsD sl0 l ∧ if b = true then de S2 fun y S3 => S3.sl = setsD sl0 l ∧ K (some y) S3.n else K none S2.n) →
    acc.length + items.length ≤ 16777216 → Q (acc ++ items.filterMap f) n → dComp gd dt de sl0 items acc n Q
  | [], acc, _, _, q => by
    show Q acc n
    simpa using q
  | d :: items, acc, h, hz, q => by
    obtain ⟨l, e, hl⟩ := h d List.mem_cons_self
    have hz' : acc.length + (items.length + 1) ≤ 16777216 := hz
    refine ⟨by omega, l, e, hl (fun o n' => match o with | some y => dComp gd dt de sl0 items (acc ++ [y]) n' Q | none => dComp gd dt de sl0 items acc n' Q) ?_⟩
    have hr : ∀ d ∈ items, ∃ l, gd d = some l ∧ ∀ K : Option D → Nat → Prop, K (f d) n → dt ⟨setsD sl0 l, n⟩ fun b S2 => S2.sl = setsD sl0 l ∧ if b = true then de S2 fun y S3 => S3.sl = setsD sl0 l ∧ K (some y) S3.n else K none S2.n := fun d' hd => h d' (List.mem_cons_of_mem _ hd)
    cases ef : f d with
    | none =>
      rw [List.filterMap_cons, ef] at q
      exact comp_spec f items acc hr (by omega) q
    | some y =>
      rw [List.filterMap_cons, ef] at q
      exact comp_spec f items (acc ++ [y]) hr (by rw [List.length_append]; simp; omega) (by rw [List.append_assoc]; exact q)
/-- ints from lo on -/
theorem rgD_len (lo : Int) (n : Nat) : (rgD lo n).length = n := by simp [rgD]
theorem rgD_mem {lo : Int} {n : Nat} {d : D} (h : d ∈ rgD lo n) : ∃ k : Nat, k < n ∧ d = .int (lo + k) := by
  unfold rgD at h
  obtain ⟨k, hk, e⟩ := List.mem_map.mp h
  exact ⟨k, List.mem_range.mp hk, e.symm⟩
theorem rgD_map {α : Type} (f : D → α) (lo : Int) (n : Nat) : (rgD lo n).map f = (List.range n).map fun k => f (.int (lo + (k : Nat))) := by
  unfold rgD
  rw [List.map_map]
  rfl
theorem rgD_fm {α : Type} (f : D → Option α) (lo : Int) (n : Nat) : (rgD lo n).filterMap f = (List.range n).filterMap fun k => f (.int (lo + (k : Nat))) := by
  unfold rgD
  rw [List.filterMap_map]
  rfl
theorem fm_map {α β : Type} (f : α → β) (l : List α) : l.filterMap (fun x => some (f x)) = l.map f := by
  rw [← List.filterMap_eq_map]
  rfl
/-! ### calls of one of several -/
def fsL : List (Str × MT) → Str → MT
  | [], _ => fun _ _ _ _ => False
  | (x, m) :: r, y => if y = x then m else fsL r y
theorem can_nil {P : Program} {w : World} {K : PySem.W.Frag} {mg : MG} {base : Heap} {T : TT0} {CX : CXT} {k np : Nat} {ks : List Str} {perm : List (Bool × Nat)} : ∀ y ∈ ([] : List Str), CanK P w K mg base T CX k y np ks perm (fsL [] y) := fun y h => absurd h List.not_mem_nil
theorem can_cons {P : Program} {w : World} {K : PySem.W.Frag} {mg : MG} {base : Heap} {T : TT0} {CX : CXT} {k np : Nat} {ks : List Str} {perm : List (Bool × Nat)} {x : Str} {m : MT} {r : List (Str × MT)} {xs : List Str} (h : CanK P w K mg base T CX k x np ks perm m)
    (hr : ∀ y ∈ xs, CanK P w K mg base T CX k y np ks perm (fsL r y)) : ∀ y ∈ x :: xs, CanK P w K mg base T CX k y np ks perm (fsL ((x, m) :: r) y) := fun y hy => by
  unfold fsL
  by_cases e : y = x
  · rw [if_pos e, e]
    exact h
  · rw [if_neg e]
    exact hr y ((List.mem_cons.mp hy).resolve_left e)
end DL
set_option maxHeartbeats 1000000
namespace DL
open PySem PySem.Spec PyProof.Rows L2
/-! ### data that may be compared -/
structure Ok (k : Nat) (d : D) : Prop where
  plain : d.plain = true
  lay : d.py.canLay0 = true
  dep : d.py.depth ≤ k
theorem Ok.ok {k : Nat} {d : D} (h : Ok k d) (hk : k ≤ 64) : d.ok = true := by
  unfold D.ok SeqAt.shaped
  have h2 : d.py.depth ≤ 64 := Nat.le_trans h.dep hk
  rw [h.plain, h.lay, decide_eq_true h2]
  rfl
theorem Ok.mono {j k : Nat} {d : D} (h : Ok j d) (hk : j ≤ k) : Ok k d := ⟨h.plain, h.lay, Nat.le_trans h.dep hk⟩
theorem Ok.non {k : Nat} : Ok k .non := ⟨rfl, by simp [D.py, PyData.canLay0], by simp [D.py, PyData.depth]⟩
theorem Ok.bl {k : Nat} (b : Bool) : Ok k (.bl b) := ⟨rfl, by simp [D.py, PyData.canLay0], by simp [D.py, PyData.depth]⟩
theorem Ok.int {k : Nat} (i : Int) : Ok k (.int i) := ⟨rfl, by simp [D.py, PyData.canLay0], by simp [D.py, PyData.depth]⟩
theorem ok_all {k : Nat} : ∀ {l : List D}, (∀ d ∈ l, Ok k d) → D.plains l = true ∧ PyData.canLayAll0 (D.pys l) = true ∧ PyData.depthAll (D.pys l) ≤ k
  | [], _ => ⟨rfl, by simp [D.pys, PyData.canLayAll0], by simp [D.pys, PyData.depthAll]⟩
  | d :: l, h => by
    obtain ⟨a, b, c⟩ := ok_all (l := l) fun x hx => h x (List.mem_cons_of_mem _ hx)
    have hd := h d List.mem_cons_self
    refine ⟨?_, ?_, ?_⟩
    · rw [D.plains, hd.plain, a]
      rfl
    · rw [D.pys, PyData.canLayAll0, hd.lay, b]
      rfl
    · rw [D.pys, PyData.depthAll]
      have := hd.dep
      omega
theorem Ok.tup {k : Nat} {l : List D} (h : ∀ d ∈ l, Ok k d) : Ok (k + 1) (.tup l) := by
  obtain ⟨a, b, c⟩ := ok_all h
  refine ⟨by rw [D.plain]; exact a, by rw [D.py, PyData.canLay0]; exact b, ?_⟩
  rw [D.py, PyData.depth]
  omega
theorem Ok.lst {k : Nat} {l : List D} (h : ∀ d ∈ l, Ok k d) : Ok (k + 1) (.lst l) := by
  obtain ⟨a, b, c⟩ := ok_all h
  refine ⟨by rw [D.plain]; exact a, by rw [D.py, PyData.canLay0]; exact b, ?_⟩
  rw [D.py, PyData.depth]
  omega
theorem Ok.ints {k : Nat} (l : List Int) : ∀ d ∈ l.map D.int, Ok k d := fun d hd => by
  obtain ⟨i, _, e⟩ := List.mem_map.mp hd
  rw [← e]
  exact .int i
theorem Ok.tupI (l : List Int) : Ok 1 (.tup (l.map .int)) := .tup (Ok.ints l)
theorem Ok.lstI (l : List Int) : Ok 1 (.lst (l.map .int)) := .lst (Ok.ints l)
theorem deq_refl {k : Nat} {d : D} (h : Ok k d) : deq d d = true := SeqAt.eqv_refl d.py h.lay
theorem deq_int {i j : Int} : deq (.int i) (.int j) = decide (i = j) := by
  unfold deq D.py PyData.eqv
  rw [Bool.eq_iff_iff]
  simp
theorem deq_bl {i j : Bool} : deq (.bl i) (.bl j) = decide (i = j) := by
  unfold deq D.py PyData.eqv
  rw [Bool.eq_iff_iff]
  simp
theorem eqv_ints : ∀ a b : List Int, PyData.eqvAll (D.pys (a.map .int)) (D.pys (b.map .int)) = decide (a = b)
  | [], [] => by simp [D.pys, PyData.eqvAll]
  | [], y :: b => by simp [D.pys, PyData.eqvAll]
  | x :: a, [] => by simp [D.pys, PyData.eqvAll]
  | x :: a, y :: b => by
    rw [List.map_cons, List.map_cons, D.pys, D.pys, PyData.eqvAll, eqv_ints a b, D.py, D.py, PyData.eqv]
    rw [Bool.eq_iff_iff]
    simp
theorem deq_tupI {a b : List Int} : deq (.tup (a.map .int)) (.tup (b.map .int)) = decide (a = b) := by
  unfold deq
  rw [D.py, D.py, PyData.eqv]
  exact eqv_ints a b
theorem deq_lstI {a b : List Int} : deq (.lst (a.map .int)) (.lst (b.map .int)) = decide (a = b) := by
  unfold deq
  rw [D.py, D.py, PyData.eqv]
  exact eqv_ints a b
theorem deq_lstN {a : List D} : deq (.lst a) (.lst []) = decide (a = []) := by
  unfold deq
  rw [D.py, D.py, PyData.eqv]
  cases a with
  | nil => simp [D.pys, PyData.eqvAll]
  | cons x a => simp [D.pys, PyData.eqvAll]
theorem w_eqI {i j : Int} : gEq (.int i) (.int j) = some (.bl (decide (i = j))) := by
  show (if D.ok (.int i) = true ∧ D.ok (.int j) = true then some (D.bl (deq (.int i) (.int j))) else none) = _
  rw [if_pos ⟨(Ok.int (k := 0) i).ok (by omega), (Ok.int (k := 0) j).ok (by omega)⟩, deq_int]
theorem w_neI {i j : Int} : gNe (.int i) (.int j) = some (.bl (!decide (i = j))) := by
  show (if D.ok (.int i) = true ∧ D.ok (.int j) = true then some (D.bl (!deq (.int i) (.int j))) else none) = _
  rw [if_pos ⟨(Ok.int (k := 0) i).ok (by omega), (Ok.int (k := 0) j).ok (by omega)⟩, deq_int]
theorem w_eqB {i j : Bool} : gEq (.bl i) (.bl j) = some (.bl (decide (i = j))) := by
  show (if D.ok (.bl i) = true ∧ D.ok (.bl j) = true then some (D.bl (deq (.bl i) (.bl j))) else none) = _
  rw [if_pos ⟨(Ok.bl (k := 0) i).ok (by omega), (Ok.bl (k := 0) j).ok (by omega)⟩, deq_bl]
theorem w_neB {i j : Bool} : gNe (.bl i) (.bl j) = some (.bl (!decide (i = j))) := by
  show (if D.ok (.bl i) = true ∧ D.ok (.bl j) = true then some (D.bl (!deq (.bl i) (.bl j))) else none) = _
  rw [if_pos ⟨(Ok.bl (k := 0) i).ok (by omega), (Ok.bl (k := 0) j).ok (by omega)⟩, deq_bl]
theorem w_eqL {k : Nat} {a : List D} (h : ∀ d ∈ a, Ok k d) (hk : k ≤ 63) : gEq (.lst a) (.lst []) = some (.bl (decide (a = []))) := by
  show (if D.ok (.lst a) = true ∧ D.ok (.lst []) = true then some (D.bl (deq (.lst a) (.lst []))) else none) = _
  rw [if_pos ⟨(Ok.lst h).ok (by omega), (Ok.lst (k := 0) (l := []) fun d hd => absurd hd List.not_mem_nil).ok (by omega)⟩, deq_lstN]
theorem w_neL {k : Nat} {a : List D} (h : ∀ d ∈ a, Ok k d) (hk : k ≤ 63) : gNe (.lst a) (.lst []) = some (.bl (!decide (a = []))) := by
  show (if D.ok (.lst a) = true ∧ D.ok (.lst []) = true then some (D.bl (!deq (.lst a) (.lst []))) else none) = _
  rw [if_pos ⟨(Ok.lst h).ok (by omega), (Ok.lst (k := 0) (l := []) fun d hd => absurd hd List.not_mem_nil).ok (by omega)⟩, deq_lstN]
/-- == of what is no text -/
theorem w_eqO {j k : Nat} {a b : D} (ha : Ok j a) (hb : Ok k b) (hj : j ≤ 64) (hk : k ≤ 64) (hs : a.isStr = false) : gEq a b = some (.bl (deq a b)) := by
  unfold gEq
  split
  · cases hs
  · rw [if_pos ⟨ha.ok hj, hb.ok hk⟩]
theorem w_neO {j k : Nat} {a b : D} (ha : Ok j a) (hb : Ok k b) (hj : j ≤ 64) (hk : k ≤ 64) (hs : a.isStr = false) : gNe a b = some (.bl (!deq a b)) := by
  unfold gNe
  split
  · cases hs
  · rw [if_pos ⟨ha.ok hj, hb.ok hk⟩]
/-! ### subscripts -/
theorem w_ixT {l : List D} {i : Int} : gIx (.tup l) (.int i) = atI l i := rfl
theorem w_ixL {l : List D} {i : Int} : gIx (.lst l) (.int i) = atI l i := rfl
theorem atI_nat {α : Type} {l : List α} {k : Nat} (h : k < l.length) : atI l (k : Int) = some l[k] := by
  unfold atI ixN
  rw [if_pos (by omega), if_pos (by omega)]
  simp [h]
theorem atI_at {α : Type} {l : List α} {i : Int} (h0 : 0 ≤ i) (h : i < l.length) : atI l i = l[i.toNat]? := by
  unfold atI ixN
  rw [if_pos h0, if_pos h]
  rfl
theorem atI_neg {α : Type} {l : List α} {i : Int} (h0 : i < 0) (h : -(l.length : Int) ≤ i) : atI l i = l[(i + l.length).toNat]? := by
  unfold atI ixN
  rw [if_neg (by omega), if_pos h]
  rfl
theorem ixN_at {n : Nat} {i : Int} (h0 : 0 ≤ i) (h : i < n) : ixN n i = some i.toNat := by
  unfold ixN
  rw [if_pos h0, if_pos h]
theorem cutD_map {α β : Type} (f : α → β) (l : List α) (lo hi : Option Int) : cutD (l.map f) lo hi = (cutD l lo hi).map f := by
  unfold cutD
  rw [List.length_map, List.map_take, List.map_drop]
theorem cutD_len {α : Type} (l : List α) (lo hi : Option Int) : (cutD l lo hi).length ≤ l.length := by
  unfold cutD
  rw [List.length_take, List.length_drop]
  omega
theorem w_slL {l : List D} {lo hi : Option Int} : gSl (.lst l) lo hi = some (.lst (cutD l lo hi)) := rfl
theorem w_slT {l : List D} {lo hi : Option Int} : gSl (.tup l) lo hi = some (.tup (cutD l lo hi)) := rfl
theorem ite_own {c : Prop} [Decidable c] {q P : D → Prop} {e : Int} (h1 : c → ∃ x : Int, q (.int x)) (key : ∀ own : Int, P (.int own)) : if c then (∃ z, q z ∧ P z) else P (.int e) := by
  by_cases h : c
  · rw [if_pos h]
    obtain ⟨x, hx⟩ := h1 h
    exact ⟨_, hx, key x⟩
  · rw [if_neg h]
    exact key e
theorem w_keyI {i : Int} : keyOf (.int i) = some (.inl i) := rfl
theorem w_keyS {x : Str} : keyOf (.str x) = some (.inr x) := rfl
theorem w_ex {α : Type} {x : α} : (∃ l, some x = some l) = True := propext ⟨fun _ => trivial, fun _ => ⟨x, rfl⟩⟩
theorem w_two {α β : Type} {a : α} {b : β} {p : α → β → Prop} : (∃ l ky, some a = some l ∧ some b = some ky ∧ p l ky) = p a b := by
  apply propext
  constructor
  · rintro ⟨l, ky, h1, h2, q⟩
    cases h1
    cases h2
    exact q
  · exact fun q => ⟨a, b, rfl, rfl, q⟩
theorem w_three {α β γ : Type} {a : α} {b : β} {p : α → β → γ → Prop} : (∃ l ky d, some a = some l ∧ some b = some ky ∧ p l ky d) = ∃ d, p a b d := by
  apply propext
  constructor
  · rintro ⟨l, ky, d, h1, h2, q⟩
    cases h1
    cases h2
    exact ⟨d, q⟩
  · rintro ⟨d, q⟩
    exact ⟨a, b, d, rfl, rfl, q⟩
/-! ### dicts of ints by ints -/
def sD (s : List (Int × Int)) : List (Key × D) := s.map fun p => (.inl p.1, .int p.2)
def sSet (s : List (Int × Int)) (x p : Int) : List (Int × Int) := s.map fun q => if q.1 = x then (q.1, p) else q
def sGet (s : List (Int × Int)) (x : Int) : Option Int := (s.find? fun q => decide (q.1 = x)).map (·.2)
theorem sGet_cons (q : Int × Int) (s : List (Int × Int)) (x : Int) : sGet (q :: s) x = if q.1 = x then some q.2 else sGet s x := by
  unfold sGet
  rw [List.find?_cons]
  by_cases h : q.1 = x
  · rw [if_pos h, decide_eq_true h]
    rfl
  · rw [if_neg h, decide_eq_false h]
theorem inl_inj {a b : Int} : ((Sum.inl a : Key) = .inl b) ↔ a = b := ⟨fun h => Sum.inl.inj h, fun h => by rw [h]⟩
theorem sD_look : ∀ (s : List (Int × Int)) (x : Int), lookD (sD s) (.inl x) = (sGet s x).map .int
  | [], x => rfl
  | q :: s, x => by
    rw [sGet_cons]
    have e : lookD (sD (q :: s)) (.inl x) = if q.1 = x then some (.int q.2) else lookD (sD s) (.inl x) := by
      unfold lookD sD
      rw [List.map_cons, List.find?_cons]
      by_cases h : q.1 = x
      · rw [if_pos h]
        simp [h]
      · rw [if_neg h]
        have h2 : ¬ ((Sum.inl q.1 : Key) = .inl x) := fun z => h (Sum.inl.inj z)
        simp [h2]
    rw [e, sD_look s x]
    split <;> rfl
theorem sD_any (s : List (Int × Int)) (x : Int) : ((sD s).any fun p => decide (p.1 = (Sum.inl x : Key))) = (sGet s x).isSome := by
  induction s with
  | nil => rfl
  | cons q s ih =>
    rw [sGet_cons]
    unfold sD at ih ⊢
    rw [List.map_cons, List.any_cons, ih]
    by_cases h : q.1 = x
    · rw [if_pos h]
      simp [h]
    · rw [if_neg h]
      have h2 : ¬ ((Sum.inl q.1 : Key) = .inl x) := fun z => h (Sum.inl.inj z)
      simp [h2]
theorem sD_put_old {s : List (Int × Int)} {x p y : Int} (h : sGet s x = some y) : putD (sD s) (.inl x) (.int p) = sD (sSet s x p) := by
  unfold putD
  rw [sD_any, h, if_pos (by rfl)]
  unfold sD sSet
  rw [List.map_map, List.map_map]
  apply List.map_congr_left
  intro q _
  by_cases e : q.1 = x
  · simp [e]
  · have h2 : ¬ ((Sum.inl q.1 : Key) = .inl x) := fun z => e (Sum.inl.inj z)
    simp [e, h2]
theorem sD_put_new {s : List (Int × Int)} {x p : Int} (h : sGet s x = none) : putD (sD s) (.inl x) (.int p) = sD (s ++ [(x, p)]) := by
  unfold putD
  rw [sD_any, h, if_neg (by simp)]
  unfold sD
  rw [List.map_append]
  rfl
theorem fsL_hd {x : Str} {m : MT} {r : List (Str × MT)} : fsL ((x, m) :: r) x = m := by
  unfold fsL
  rw [if_pos rfl]
theorem fsL_tl {x y : Str} {m : MT} {r : List (Str × MT)} (h : y ≠ x) : fsL ((x, m) :: r) y = fsL r y := by
  rw [fsL, if_neg h]
theorem w_fn {x : Str} {p : Str → Prop} : (∃ y, D.fn x = .fn y ∧ p y) = p x := by
  apply propext
  constructor
  · rintro ⟨y, h, q⟩
    cases h
    exact q
  · exact fun q => ⟨x, rfl, q⟩
theorem pick1 {a : D} {ws : List D} : pickG .non [(true, 0)] [a] ws = [a] := rfl
theorem pick2 {a b : D} {ws : List D} : pickG .non [(true, 0), (true, 1)] [a, b] ws = [a, b] := rfl
theorem pickK {a : D} {us : List D} : pickG .non [(false, 0)] us [a] = [a] := rfl
theorem pick1K {a b : D} : pickG .non [(true, 0), (false, 0)] [a] [b] = [a, b] := rfl
/-! ### ranges -/
def rgI (lo : Int) (n : Nat) : List Int := (List.range n).map fun k => lo + (k : Nat)
theorem rgD_eq (lo : Int) (n : Nat) : rgD lo n = (rgI lo n).map .int := by
  unfold rgD rgI
  rw [List.map_map]
  rfl
theorem rgI_mem {lo : Int} {n : Nat} {t : Int} : t ∈ rgI lo n ↔ lo ≤ t ∧ t < lo + n := by
  unfold rgI
  simp only [List.mem_map, List.mem_range]
  constructor
  · rintro ⟨k, hk, rfl⟩
    omega
  · rintro ⟨h1, h2⟩
    exact ⟨(t - lo).toNat, by omega, by omega⟩
theorem rgI_len (lo : Int) (n : Nat) : (rgI lo n).length = n := by simp [rgI]
/-! ### comprehensions over the images of plain things -/
theorem comp_on {α : Type} (c : α → D) (g : α → Option D) {gd : D → Option (List (Nat × D))} {dt : DT} {de : DE} {sl0 : List (Option SV)} {Q : List D → Nat → Prop} {n : Nat} : ∀ (xs : List α) (acc : List D),
    (∀ x ∈ xs, ∃ l, gd (c x) = some l ∧ ∀ K : Option D → Nat → Prop, K (g x) n → dt ⟨setsD sl0 l, n⟩ fun b S2 => S2.sl = setsD sl0 l ∧ if b = true then de S2 fun y S3 => S3.sl = setsD sl0 l ∧ K (some y) S3.n else K none S2.n) →
    acc.length + xs.length ≤ 16777216 → Q (acc ++ xs.filterMap g) n → dComp gd dt de sl0 (xs.map c) acc n Q
  | [], acc, _, _, q => by
    show Q acc n
    simpa using q
  | x :: xs, acc, h, hz, q => by
    obtain ⟨l, e, hl⟩ := h x List.mem_cons_self
    have hz' : acc.length + (xs.length + 1) ≤ 16777216 := hz
    refine ⟨by omega, l, e, hl (fun o n' => match o with | some y => dComp gd dt de sl0 (xs.map c) (acc ++ [y]) n' Q | none => dComp gd dt de sl0 (xs.map c) acc n' Q) ?_⟩
    have hr : ∀ x ∈ xs, ∃ l, gd (c x) = some l ∧ ∀ K : Option D → Nat → Prop, K (g x) n → dt ⟨setsD sl0 l, n⟩ fun b S2 => S2.sl = setsD sl0 l ∧ if b = true then de S2 fun y S3 => S3.sl = setsD sl0 l ∧ K (some y) S3.n else K none S2.n := fun x' hx => h x' (List.mem_cons_of_mem _ hx)
    cases ef : g x with
    | none =>
      rw [List.filterMap_cons, ef] at q
      exact comp_on c g xs acc hr (by omega) q
    | some y =>
      rw [List.filterMap_cons, ef] at q
      exact comp_on c g xs (acc ++ [y]) hr (by rw [List.length_append]; simp; omega) (by rw [List.append_assoc]; exact q)
theorem fm_filter {α β : Type} (p : α → Bool) (f : α → β) : ∀ l : List α, l.filterMap (fun x => if p x = true then some (f x) else none) = (l.filter p).map f
  | [] => rfl
  | x :: l => by
    rw [List.filterMap_cons, List.filter_cons]
    by_cases h : p x = true
    · rw [if_pos h, if_pos h, List.map_cons, fm_filter p f l]
    · rw [if_neg h, if_neg h, fm_filter p f l]
theorem w_in2 {neg : Bool} {i a b : Int} : gInI neg (.int i) (.tup [.int a, .int b]) = some (.bl (if neg then !decide (i ∈ [a, b]) else decide (i ∈ [a, b]))) := w_inI (ns := [a, b])
/-- [e for t in range(lo, hi)] -/
theorem comp_rg {lo hi : Int} (g : Int → D) {gd : D → Option (List (Nat × D))} {dt : DT} {de : DE} {sl0 : List (Option SV)} {Q : List D → Nat → Prop} {n : Nat}
    (h : ∀ t, lo ≤ t → t < hi → ∃ l, gd (.int t) = some l ∧ ∀ K : Option D → Nat → Prop, K (some (g t)) n → dt ⟨setsD sl0 l, n⟩ fun b S2 => S2.sl = setsD sl0 l ∧ if b = true then de S2 fun y S3 => S3.sl = setsD sl0 l ∧ K (some y) S3.n else K none S2.n)
    (hz : (hi - lo).toNat ≤ 16777216) (q : Q ((rgI lo (hi - lo).toNat).map g) n) : dComp gd dt de sl0 (rgD lo (hi - lo).toNat) [] n Q := by
  rw [rgD_eq]
  refine comp_on D.int (fun t => some (g t)) _ [] (fun t ht => h t (rgI_mem.mp ht).1 (by have h1 := (rgI_mem.mp ht).1; have h2 := (rgI_mem.mp ht).2; omega)) (by rw [rgI_len]; simpa using hz) ?_
  rw [fm_map]
  exact q
/-- [e for t in range(lo, hi) if p] -/
theorem comp_rgf {lo hi : Int} (p : Int → Bool) (g : Int → D) {gd : D → Option (List (Nat × D))} {dt : DT} {de : DE} {sl0 : List (Option SV)} {Q : List D → Nat → Prop} {n : Nat}
    (h : ∀ t, lo ≤ t → t < hi → ∃ l, gd (.int t) = some l ∧ ∀ K : Option D → Nat → Prop, K (if p t = true then some (g t) else none) n → dt ⟨setsD sl0 l, n⟩ fun b S2 => S2.sl = setsD sl0 l ∧ if b = true then de S2 fun y S3 => S3.sl = setsD sl0 l ∧ K (some y) S3.n else K none S2.n)
    (hz : (hi - lo).toNat ≤ 16777216) (q : Q (((rgI lo (hi - lo).toNat).filter p).map g) n) : dComp gd dt de sl0 (rgD lo (hi - lo).toNat) [] n Q := by
  rw [rgD_eq]
  refine comp_on D.int (fun t => if p t = true then some (g t) else none) _ [] (fun t ht => h t (rgI_mem.mp ht).1 (by have h1 := (rgI_mem.mp ht).1; have h2 := (rgI_mem.mp ht).2; omega)) (by rw [rgI_len]; simpa using hz) ?_
  rw [fm_filter]
  exact q
theorem w_cons {a : D} {l : List D} {p : D → List D → Prop} : (∃ d r, a :: l = d :: r ∧ p d r) = p a l := by
  apply propext
  constructor
  · rintro ⟨d, r, h, q⟩
    cases h
    exact q
  · exact fun q => ⟨a, l, rfl, q⟩
theorem w_set {x : List D} {a : Int} {p : List D → Int → Nat → Prop} : (∃ (l : List D) (ix : Int) (j : Nat), some x = some l ∧ D.int a = D.int ix ∧ p l ix j) = ∃ j, p x a j := by
  apply propext
  constructor
  · rintro ⟨l, ix, j, h1, h2, q⟩
    cases h1
    cases h2
    exact ⟨j, q⟩
  · rintro ⟨j, q⟩
    exact ⟨x, a, j, rfl, rfl, q⟩
theorem w_lrange {lo hi : Int} {p : Int → Int → Prop} : (∃ i j, [D.int lo, D.int hi] = [D.int i, D.int j] ∧ p i j) = p lo hi := by
  apply propext
  constructor
  · rintro ⟨i, j, h, q⟩
    cases h
    exact q
  · exact fun q => ⟨lo, hi, rfl, q⟩
theorem w_lrange1 {hi : Int} {p : Int → Prop} : (∃ j, [D.int hi] = [D.int j] ∧ p j) = p hi := by
  apply propext
  constructor
  · rintro ⟨j, h, q⟩
    cases h
    exact q
  · exact fun q => ⟨hi, rfl, q⟩
theorem w_ltup {x : List D} {p : List D → Prop} : (∃ l, [D.tup x] = [D.tup l] ∧ p l) = p x := by
  apply propext
  constructor
  · rintro ⟨j, h, q⟩
    cases h
    exact q
  · exact fun q => ⟨x, rfl, q⟩
theorem w_llst {x : List D} {p : List D → Prop} : (∃ l, [D.lst x] = [D.lst l] ∧ p l) = p x := by
  apply propext
  constructor
  · rintro ⟨j, h, q⟩
    cases h
    exact q
  · exact fun q => ⟨x, rfl, q⟩
theorem w_par {a b : D} {p : D → D → Prop} : (∃ x y, [a, b] = [x, y] ∧ p x y) = p a b := by
  apply propext
  constructor
  · rintro ⟨x, y, h, q⟩
    cases h
    exact q
  · exact fun q => ⟨a, b, rfl, q⟩
theorem w_par3 {a b d : D} {p : D → D → D → Prop} : (∃ x y z, [a, b, d] = [x, y, z] ∧ p x y z) = p a b d := by
  apply propext
  constructor
  · rintro ⟨x, y, z, h, q⟩
    cases h
    exact q
  · exact fun q => ⟨a, b, d, rfl, q⟩
theorem w_tupL {l : List D} : gTupleF [.lst l] = some (.tup l) := rfl
theorem w_tupT {l : List D} : gTupleF [.tup l] = some (.tup l) := rfl
theorem w_listL {l : List D} : gListF [.lst l] = some (.lst l) := rfl
theorem w_listT {l : List D} : gListF [.tup l] = some (.lst l) := rfl
/-! ### loops -/
theorem loop_inv {α : Type} (c : α → D) {g : DG} {tb : DSt} {B : DEnds} (I : List α → DS → Prop)
    (step : ∀ x xs S, I (x :: xs) S → ∀ K : DS → Prop, (∀ S2, I xs S2 → K S2) → g (c x) S fun S1 => tb { nx := K, rt := B.rt, bk := B.nx, ct := K } S1) (fin : ∀ S, I [] S → B.nx S) :
    ∀ (xs : List α) (S : DS), I xs S → dLoop g tb (xs.map c) B S
  | [], S, h => fin S h
  | x :: xs, S, h => step x xs S h (fun S2 => dLoop g tb (xs.map c) B S2) fun S2 h2 => loop_inv c I step fin xs S2 h2
end DL
set_option maxHeartbeats 1000000
namespace DL
open PySem PySem.Spec PyProof.Rows L2
/-- a comprehension that keeps nothing, its test eats fuel -/
theorem comp_none {α : Type} (c : α → D) (I : List α → Nat → Prop) {gd : D → Option (List (Nat × D))} {dt : DT} {de : DE} {sl0 : List (Option SV)} {Q : List D → Nat → Prop} {acc : List D} (ha : acc.length < 16777216)
    (step : ∀ x xs n, I (x :: xs) n → ∃ l, gd (c x) = some l ∧ ∀ (K : Nat → Prop) (K2 : DS → Prop), (∀ n', I xs n' → K n') → dt ⟨setsD sl0 l, n⟩ fun b S2 => S2.sl = setsD sl0 l ∧ if b = true then K2 S2 else K S2.n)
    (fin : ∀ n, I [] n → Q acc n) : ∀ (xs : List α) (n : Nat), I xs n → dComp gd dt de sl0 (xs.map c) acc n Q
  | [], n, h => fin n h
  | x :: xs, n, h => by
    obtain ⟨l, e, hl⟩ := step x xs n h
    exact ⟨ha, l, e, hl (fun n' => dComp gd dt de sl0 (xs.map c) acc n' Q) _ fun n' h' => comp_none c I ha step fin xs n' h'⟩
end DL
set_option maxHeartbeats 1000000
namespace DL
open PySem PySem.Spec PyProof.Rows L2
/-! ### extend -/
open PySem.AutoSeq1 in
theorem ext_any (l : Addr) (us : Array Value) (n : Nat) (b : Addr) (o : Obj) (ws : Array Value) (m : Nat) (o1 : o.cls = .type "list" ∨ o.cls = .type "tuple") (o2 : o.dict = none) (o3 : o.data = .seq ws m)
    (k0 : ¬(!us.isEmpty && Builtin.List.listTooLong (us.size + ws.size)) = true) (k1 : us.size ≤ sizeLine) (k2 : us.size + ws.size ≤ sizeLine + 1) :
    Meets (Builtin.«list.extend» ⟨[.ref l, .ref b], []⟩) (fun _ R s => s.heap.get? l = some { cls := .type "list", dict := none, data := .seq us n, slots := #[] } ∧ s.heap.get? b = some o ∧
      R (.ok (.ret Value.none)) { s with heap := s.heap.update l (Obj.mapSeq fun x => x ++ ws), toks := s.toks }) :=
  .of_wp fun prog w A R s h => by
    obtain ⟨hp, g, d, tk, os⟩ := s
    obtain ⟨hl, hb, h⟩ := h
    obtain ⟨oc, od, oda, osl⟩ := o
    simp only at o1 o2 o3
    subst o2 o3
    have f1 := idx_int
    have f2 := AutoSeq1.sub_tuple_tuple
    have f3 := AutoSeq1.sub_list_list
    have f4 := AutoSeq1.sub_tuple_list
    have f5 := AutoSeq1.sub_list_tuple
    have hz' : (us ++ ws).size ≤ sizeLine + 1 := by
      rw [Array.size_append]
      exact k2
    rcases o1 with o1 | o1
    · subst o1
      wp_walk using (wpAny_updateSeq hl rfl (hz := k1) (_hz' := hz')), wpAny_loadPart' hl, wpAny_loadPart' hb
      exact ⟨_, rfl, h⟩
    · subst o1
      wp_walk using (wpAny_updateSeq hl rfl (hz := k1) (_hz' := hz')), wpAny_loadPart' hl, wpAny_loadPart' hb
      exact ⟨_, rfl, h⟩
def rExtQ (K : PySem.W.Frag) : V → List V → Hp → VK → Prop := fun x vs H Q => ∃ (l b : Addr) (xs zs : List V), x = .ref l ∧ vs = [.ref b] ∧ H l = some (.lst xs) ∧ SqL K H b zs ∧ xs.length + zs.length ≤ 16777216 ∧ Q .non (upd H l (.lst (xs ++ zs)))
section
variable {X : Cx}
theorem mt_extQ : MtM X "list.extend" (rExtQ X.K) := by
  intro pins s σ H x vs v us Q I rx rv h
  obtain ⟨l, b, xs, zs, e1, e2, hH, hB, hz, q⟩ := h
  subst e1 e2
  cases rx
  obtain ⟨u, e3, ru⟩ := rv.one
  subst e3
  cases ru
  obtain ⟨z, its, n, r, hl, e⟩ := I.lstM hH
  obtain ⟨its2, r2, ⟨o, m, e2, c1, c2, c3⟩, _⟩ := I.list hB
  have hl2 : zs.length = its2.length := r2.length
  have hsz : its.toArray.size + its2.toArray.size ≤ sizeLine := by
    rw [List.size_toArray, List.size_toArray, sizeLine_eq]
    omega
  have hlong : ¬ (!its.toArray.isEmpty && Builtin.List.listTooLong (its.toArray.size + its2.toArray.size)) = true := by
    intro hh
    rw [notLongL hsz, Bool.and_false] at hh
    cases hh
  refine call_meets PySem.F.slot_list_extend ⟨_, e, rfl⟩ PySem.F.entry_list_extend (PySem.F.args_list_extend_2 _ _) (ext_any l its.toArray n b o its2.toArray m (.inl c1) c2 c3 hlong (by omega) (by omega)) ⟨e, e2, ?_⟩
  refine ⟨.non, _, I.lset (its' := its ++ its2) hH e (by simp) (r.append r2) (by rw [List.length_append, sizeLine_eq]; omega), rfl, q⟩
end
section
variable {c : Ct} {X : Cx} {e : Expr} {de : DE} {i : Nat} {x : Str} {p apos cpos : Pos}
theorem pd_extend (hN : X.N[i]? = some x) (hv : Vis X.env.scope x) (he : PDE c X e de)
    (hbase : attributeBase (.Name x p) "extend" X.env (eval (.Name x p) X.env) = eval (.Name x p) X.env := by rfl)
    (hfew : ((backTo cpos (starEach (e :: []) X.env)).all (fun x => !x.1) && (backToKw cpos (keywordEach [] X.env)).all (fun x => x.1.isSome)
      && decide ((e :: []).length + ([] : List Keyword).length + (if ([] : List Keyword).isEmpty then 0 else 1) < 30)) = true := by rfl)
    (hline : (apos.endLine == cpos.line) = true := by rfl) (hs : starEach (e :: []) X.env = (false, eval e X.env) :: starEach [] X.env := by rfl)
    (hd : (x == ("__debug__" : Str)) = false := by decide) (hcd : (x == ("__classdict__" : Str)) = false := by decide) :
    PDE c X (.Call (.Attribute (.Name x p) "extend" apos) [e] [] cpos) (dExtend i de) := by
  obtain ⟨te, e1, e2⟩ := he
  refine ⟨_, pe_bm PySem.F.plainAttrs_list PySem.F.slot_list_extend PySem.F.type_list_extend mt_extQ (pe_var hN hv hd hcd) (pa_cons e1 pa_nil hs) hbase hfew hline hs rfl, fun σ G H S Qd Q R hQ h => ?_⟩
  obtain ⟨l0, h0, h⟩ := h
  obtain ⟨a, xs0, q1, q2, q3, q4, q5, q6⟩ := ol_get R h0
  refine ⟨.ref a, q2, .inl ⟨rfl, _, SqL.of q5⟩, ?_⟩
  refine e2 σ G H S _ _ R (fun v H1 ⟨G1, S1, d, A, r, h1⟩ => ?_) h
  obtain ⟨l, rl, hl, ed, hz, h1⟩ := h1
  subst ed
  obtain ⟨a', xs, p1, p2, p3, p4, p5, p6⟩ := ol_get A.rp hl
  rw [q2] at p2
  cases p2
  cases r with
  | @lst b zs _ hsq ra =>
    refine ⟨a, b, xs, zs, rfl, rfl, p5, sqL_sub A.rp.sub hsq, by rw [p6.length, ra.length]; exact hz, ?_⟩
    have B := Aft.put A.rp p1 q2 p3 p4 (p6.append ra)
    exact hQ _ _ ⟨G1, _, .non, A.trans B, .non, h1⟩
end
/-! ### sorted, max of ints, list(range) -/
section
variable {c : Ct} {X : Cx} {a b e : Expr} {es : List Expr} {da db : DE} {ds : DA} {p p2 pos : Pos}
def dSortI (t : DA) : DE := fun S Q => t S fun xs S1 => ∃ ns : List Int, xs = [.lst (ns.map .int)] ∧ ∀ ns' : List Int, ns'.Perm ns → ns'.Pairwise (· ≤ ·) → Q (.lst (ns'.map .int)) S1
theorem pd_sorted {x : Str} (hg : Gl X x) (hm : X.mg x = none) (hv : bootBuiltins x = some (.builtin "sorted")) (ha : PDA c X (a :: es) ds) (hn : x ≠ "__name__" := by decide) (hdb : (x == ("__debug__" : Str)) = false := by decide)
    (he : starEach (a :: es) X.env = (false, eval a X.env) :: starEach es X.env := by rfl) (hpl : (backTo pos (starEach es X.env)).any (·.1) = false := by rfl) : PDE c X (.Call (.Name x p) (a :: es) [] pos) (dSortI ds) := by
  obtain ⟨ta, a1, a2⟩ := ha
  refine ⟨_, pe_callB cr_sortedI hg hm hv a1 hn hdb he hpl, fun σ G H S Qd Q R hQ h => ?_⟩
  refine a2 σ G H S _ _ R (fun vs H1 ⟨G1, S1, dx, A1, r1, h1⟩ => ?_) h
  obtain ⟨ns, e1, h1⟩ := h1
  subst e1
  obtain ⟨v, ev, rv⟩ := rep1 r1
  subst ev
  cases rv with
  | @lst a zs _ hs ra =>
    have ez := RepAll.ints_inv ra
    subst ez
    refine ⟨a, ns, rfl, sqL_sub A1.rp.sub hs, fun ns' q hp hw np => ?_⟩
    have A2 := Aft.gw0 A1.rp (.alloc (o := .lst (ns'.map V.int)) A1.rp.sub np)
    exact hQ _ _ ⟨_, S1, _, A1.trans A2, .lst (.inl (.inl upd_same)) (RepAll.ints ns'), h1 ns' hp hw⟩
def dMaxI (t : DA) : DE := fun S Q => t S fun xs S1 => ∃ ns : List Int, xs = [.lst (ns.map .int)] ∧ 0 < ns.length ∧ ∀ m, m ∈ ns → (∀ y, y ∈ ns → y ≤ m) → Q (.int m) S1
theorem pd_maxL {x : Str} (hc : X.calm = true) (hg : Gl X x) (hm : X.mg x = none) (hv : bootBuiltins x = some (.builtin "max")) (ha : PDA c X (a :: es) ds) (hn : x ≠ "__name__" := by decide) (hdb : (x == ("__debug__" : Str)) = false := by decide)
    (he : starEach (a :: es) X.env = (false, eval a X.env) :: starEach es X.env := by rfl) (hpl : (backTo pos (starEach es X.env)).any (·.1) = false := by rfl) : PDE c X (.Call (.Name x p) (a :: es) [] pos) (dMaxI ds) := by
  obtain ⟨ta, a1, a2⟩ := ha
  refine ⟨_, pe_callB (cr_max hc) hg hm hv a1 hn hdb he hpl, fun σ G H S Qd Q R hQ h => ?_⟩
  refine a2 σ G H S _ _ R (fun vs H1 ⟨G1, S1, dx, A1, r1, h1⟩ => ?_) h
  obtain ⟨ns, e1, hl, h1⟩ := h1
  subst e1
  obtain ⟨v, ev, rv⟩ := rep1 r1
  subst ev
  cases rv with
  | @lst a zs _ hs ra =>
    have ez := RepAll.ints_inv ra
    subst ez
    refine ⟨a, ns, rfl, sqL_sub A1.rp.sub hs, hl, fun m h2 h3 => ?_⟩
    exact hQ _ _ ⟨_, S1, _, A1, .int m, h1 m h2 h3⟩
def dLstRg (da db : DE) : DE := fun S Q => da S fun x S1 => db S1 fun y S2 => ∃ i j, x = .int i ∧ y = .int j ∧ bSm i ∧ bSm j ∧ (j - i).toNat ≤ 16777216 ∧ Q (.lst (rgD i (j - i).toNat)) S2
theorem rgV_rep {K : PySem.W.Frag} {mg : MG} {G : Hp} {n : Nat} (i j : Int) : RepAll K mg G n (rgV i j) (rgD i (j - i).toNat) := by
  have e1 : rgV i j = ((List.range (j - i).toNat).map fun k : Nat => i + (k : Int)).map V.int := by
    unfold rgV
    rw [List.map_map]
    rfl
  have e2 : rgD i (j - i).toNat = ((List.range (j - i).toNat).map fun k : Nat => i + (k : Int)).map D.int := by
    unfold rgD
    rw [List.map_map]
    rfl
  rw [e1, e2]
  exact RepAll.ints _
theorem pd_listRg2 (hc : X.calm = true) (hg : Gl X "list") (hm : X.mg "list" = none) (hg2 : Gl X "range") (hm2 : X.mg "range" = none) {q2 : Pos} (ha : PDE c X a da) (hb : PDE c X b db)
    (na : starEach [a, b] X.env = (false, eval a X.env) :: starEach [b] X.env := by rfl) (nb : starEach [b] X.env = (false, eval b X.env) :: starEach [] X.env := by rfl) (hp : (backTo q2 (starEach [b] X.env)).any (·.1) = false := by rfl)
    (nl : starEach [.Call (.Name "range" p2) [a, b] [] q2] X.env = (false, eval (.Call (.Name "range" p2) [a, b] [] q2) X.env) :: starEach [] X.env := by rfl) :
    PDE c X (.Call (.Name "list" p) [.Call (.Name "range" p2) [a, b] [] q2] [] pos) (dLstRg da db) := by
  obtain ⟨ta, a1, a2⟩ := ha
  obtain ⟨tb, b1, b2⟩ := hb
  refine ⟨_, pe_listRg hc hg hm (prg_2 hg2 hm2 a1 b1 na nb hp) nl, fun σ G H S Qd Q R hQ h => ?_⟩
  refine a2 σ G H S _ _ R (fun v H1 ⟨G1, S1, dx, A1, r1, h1⟩ => ?_) h
  refine b2 σ G1 H1 S1 _ _ A1.rp (fun u H2 ⟨G2, S2, dy, A2, r2, h2⟩ => ?_) h1
  obtain ⟨i, j, e1, e2, k1, k2, k3, h2⟩ := h2
  subst e1 e2
  cases r1
  cases r2
  refine ⟨i, j, rfl, rfl, ⟨k1.1, k1.2, k2.1, k2.2, k3⟩, fun q nq => ?_⟩
  have A3 := Aft.gw0 A2.rp (.alloc (o := .lst (rgV i j)) A2.rp.sub nq)
  exact hQ _ _ ⟨_, S2, _, (A1.trans A2).trans A3, .lst (.inl (.inl upd_same)) (rgV_rep i j), h2⟩
end
/-! ### a dict whose keys are tuples -/
def lookT (l : List (List Key × D)) (k : List Key) : Option D := (l.find? fun p => decide (p.1 = k)).map (·.2)
def putT (l : List (List Key × D)) (k : List Key) (d : D) : List (List Key × D) := if (l.any fun p => decide (p.1 = k)) = true then l.map (fun p => if p.1 = k then (p.1, d) else p) else l ++ [(k, d)]
def keysOf : List D → Option (List Key)
  | [] => some []
  | d :: r => match keyOf d, keysOf r with
    | some k, some ks => some (k :: ks)
    | _, _ => none
def otAt (S : DS) (i : Nat) : Option (List (List Key × D)) := match S.sl[i]? with
  | some (some (.ot l)) => some l
  | _ => none
section
variable {K : PySem.W.Frag} {mg : MG} {G : Hp} {n : Nat}
theorem rep_keys : ∀ {vs : List V} {ds : List D} {ks : List Key}, RepAll K mg G n vs ds → keysOf ds = some ks → vs = ks.map kV
  | _, _, ks, .nil, h => by
    cases h
    rfl
  | _, _, ks, .cons (d := d) (ds := ds) a b, h => by
    unfold keysOf at h
    cases e1 : keyOf d with
    | none =>
      rw [e1] at h
      cases h
    | some k =>
      cases e2 : keysOf ds with
      | none =>
        rw [e1, e2] at h
        cases h
      | some ks2 =>
        rw [e1, e2] at h
        cases h
        rw [rep_key a e1, rep_keys b e2]
        rfl
theorem repT_look {k : List Key} : ∀ {xs : List (List Key × V)} {l : List (List Key × D)}, RepT K mg G n xs l → (lookT l k = none ∧ valV xs k = none) ∨ ∃ d v, lookT l k = some d ∧ valV xs k = some v ∧ Rep K mg G n v d
  | _, _, .nil => .inl ⟨rfl, rfl⟩
  | _, _, .cons (k := k') (v := v) (d := d) a b => by
    by_cases e : k' = k
    · refine .inr ⟨d, v, ?_, valV_pos e, a⟩
      simp [lookT, List.find?_cons, e]
    · have h1 : ∀ r : List (List Key × D), lookT ((k', d) :: r) k = lookT r k := fun r => by simp [lookT, List.find?_cons, e]
      rw [h1, valV_neg (p := (k', v)) e]
      exact repT_look b
theorem repT_len : ∀ {xs : List (List Key × V)} {l : List (List Key × D)}, RepT K mg G n xs l → xs.length = l.length
  | _, _, .nil => rfl
  | _, _, .cons a b => by rw [List.length_cons, List.length_cons, repT_len b]
theorem repT_any {k : List Key} : ∀ {xs : List (List Key × V)} {l : List (List Key × D)}, RepT K mg G n xs l → (xs.any fun p => decide (p.1 = k)) = l.any fun p => decide (p.1 = k)
  | _, _, .nil => rfl
  | _, _, .cons a b => by rw [List.any_cons, List.any_cons, repT_any b]
theorem repT_app : ∀ {xs ys : List (List Key × V)} {l m : List (List Key × D)}, RepT K mg G n xs l → RepT K mg G n ys m → RepT K mg G n (xs ++ ys) (l ++ m)
  | _, _, _, _, .nil, h => h
  | _, _, _, _, .cons a b, h => .cons a (repT_app b h)
theorem repT_map {k : List Key} {v : V} {d : D} (r : Rep K mg G n v d) : ∀ {xs : List (List Key × V)} {l : List (List Key × D)}, RepT K mg G n xs l → RepT K mg G n (xs.map fun p => if p.1 = k then (p.1, v) else p) (l.map fun p => if p.1 = k then (p.1, d) else p)
  | _, _, .nil => .nil
  | _, _, .cons (k := k') (v := v') (d := d') a b => by
    rw [List.map_cons, List.map_cons]
    by_cases e : k' = k
    · rw [if_pos e, if_pos e]
      exact .cons r (repT_map r b)
    · rw [if_neg e, if_neg e]
      exact .cons a (repT_map r b)
theorem repT_put {k : List Key} {v : V} {d : D} (r : Rep K mg G n v d) {xs : List (List Key × V)} {l : List (List Key × D)} (h : RepT K mg G n xs l) : RepT K mg G n (putK xs k v) (putT l k d) := by
  unfold putK putT
  rw [repT_any h]
  by_cases e : (l.any fun p => decide (p.1 = k)) = true
  · rw [if_pos e, if_pos e]
    exact repT_map r h
  · rw [if_neg e, if_neg e]
    exact repT_app h (.cons r .nil)
end
section
variable {c : Ct} {K : PySem.W.Frag} {mg : MG} {σ : Sig} {G H : Hp} {S : DS} {i : Nat}
theorem ot_get (R : Rp c K mg σ G H S) {l : List (List Key × D)} (h : otAt S i = some l) : ∃ a xs, S.sl[i]? = some (some (.ot l)) ∧ σ[i]? = some (some (.ref a)) ∧ G a = none ∧ (c.G0 a = none → c.H0 a = none) ∧ H a = some (.dT xs) ∧ RepT K mg G S.n xs l := by
  unfold otAt at h
  split at h
  · rename_i e
    cases h
    have z := R.slots i
    rw [e] at z
    obtain ⟨a, e', h1, h2, xs, h3, h4⟩ := z
    exact ⟨a, xs, e, e', h1, h2, h3, h4⟩
  · cases h
theorem Aft.putT (R : Rp c K mg σ G H S) {a : Addr} {l l' : List (List Key × D)} {xs : List (List Key × V)} (hs : S.sl[i]? = some (some (.ot l))) (hσ : σ[i]? = some (some (.ref a))) (g : G a = none) (h0 : c.G0 a = none → c.H0 a = none) (r : RepT K mg G S.n xs l') :
    Aft c K mg σ G H S (upd H a (.dT xs)) G { S with sl := S.sl.set i (some (.ot l')) } := by
  refine ⟨by show Le c.T (S.n - S.n) G G; rw [Nat.sub_self]; exact .refl _ _, Nat.le_refl _, R.put hs (fun _ z => nomatch z) (fun _ z => nomatch z) hσ fun H' e => ⟨g, h0, xs, e, r⟩, fun b o h1 h2 h3 => ?_⟩
  have ne : b ≠ a := fun z => by
    subst z
    exact h3 i (by rw [hs]; exact True.intro) hσ
  refine ⟨by rw [upd_ne ne]; exact h1, h2, fun j o e => ?_⟩
  have o' : isOwn (S.sl.set i (some (SV.ot l')))[j]? := o
  by_cases hj : i = j
  · subst hj
    rw [hσ] at e
    cases e
    exact ne rfl
  · rw [List.getElem?_set_ne hj] at o'
    exact h3 j o' e
end
section
variable {c : Ct} {X : Cx} {i : Nat} {x : Str} {p apos cpos pos kpos : Pos} {ks : List Expr} {dks : DA} {kk : Nat}
theorem nOt {l : List (List Key × D)} : ∀ d, SV.ot l ≠ .p d := fun _ z => nomatch z
def dfDictT : DF := fun S Q => Q (.ot []) S
theorem pdf_dictT : PDF c X (.Dict [] [] pos) dfDictT :=
  ⟨_, pe_dnewT, fun σ G H S Qd Q R hQ h p np => hQ _ _ ⟨p, H, _, .ot [], G, S, rfl, np, rfl, .refl R, fun H2 e => ⟨R.gnone np, R.old np, [], e, .nil⟩, nOt, h⟩⟩
/-- x.get((..), v) -/
def dDGetT (i : Nat) (dks : DA) (dv : DE) : DE := fun S Q => (∃ l0, otAt S i = some l0) ∧ dks S fun ds S1 => ds.length ≤ 16777216 ∧ dv S1 fun v S2 => ∃ l ky, otAt S2 i = some l ∧ keysOf ds = some ky ∧ Q ((lookT l ky).getD v) S2
theorem pd_dgetT {f : Expr} {dv : DE} (hu : X.A.units + 1 < cLine) (hN : X.N[i]? = some x) (hv : Vis X.env.scope x) (hk : PDA c X ks dks) (hf : PDE c X f dv) (m : M2 X (.Name x p) "get" apos (.Tuple ks kk kpos) f cpos) (hd : (x == ("__debug__" : Str)) = false := by decide) (hcd : (x == ("__classdict__" : Str)) = false := by decide) :
    PDE c X (.Call (.Attribute (.Name x p) "get" apos) [.Tuple ks kk kpos, f] [] cpos) (dDGetT i dks dv) := by
  obtain ⟨tk, k1, k2⟩ := hk
  obtain ⟨tf, f1, f2⟩ := hf
  refine ⟨_, pe_dget2 hu (pe_var hN hv hd hcd) (pe_tup k1) f1 m, fun σ G H S Qd Q R hQ h => ?_⟩
  obtain ⟨⟨l0, h0⟩, h⟩ := h
  obtain ⟨a, xs0, _, q2, _, _, q5, _⟩ := ot_get R h0
  refine ⟨.ref a, q2, a, rfl, .inr ⟨xs0, .inl q5⟩, ?_⟩
  refine k2 σ G H S _ _ R (fun vs H1 ⟨G1, S1, ds, A, r, h1⟩ => ?_) h
  obtain ⟨hz, h1⟩ := h1
  refine ⟨by rw [r.length, sizeLine_eq]; exact hz, fun q nq => ?_⟩
  have A2 := Aft.gw0 A.rp (.alloc (o := .tup vs) A.rp.sub nq)
  refine f2 σ _ _ S1 _ _ A2.rp (fun u H2 ⟨G2, S2, dv, A3, r3, h2⟩ => ?_) h1
  obtain ⟨l, ky, hl, ek, h2⟩ := h2
  obtain ⟨a', xs, _, p2, _, _, p5, p6⟩ := ot_get A3.rp hl
  rw [q2] at p2
  cases p2
  have hq : H2 q = some (.tup (ky.map kV)) := by
    rw [← rep_keys r ek]
    exact A3.rp.sub _ _ (A3.le.keep q _ upd_same firm_tup)
  refine ⟨valV xs ky, .inr ⟨xs, ky, q, .inl p5, rfl, hq, rfl⟩, ?_⟩
  refine hQ _ _ ⟨G2, S2, _, (A.trans A2).trans A3, ?_, h2⟩
  rcases repT_look (k := ky) p6 with ⟨z1, z2⟩ | ⟨d', v, z1, z2, z3⟩
  · rw [z1, z2]
    exact r3
  · rw [z1, z2]
    exact z3
/-- x[..] = v -/
def dDPutT (i : Nat) (dks : DA) (dv : DE) : DSt := fun B S => dv S fun d S1 => (∃ l0, otAt S1 i = some l0) ∧ dks S1 fun ds S2 => ds.length ≤ 16777216 ∧ ∃ l ky, otAt S2 i = some l ∧ keysOf ds = some ky ∧ l.length < 16777216 ∧ B.nx { S2 with sl := S2.sl.set i (some (.ot (putT l ky d))) }
theorem pds_dputT {v : Expr} {dv : DE} (hu : X.A.units + 1 < cLine) (hN : X.N[i]? = some x) (hv : Vis X.env.scope x) (hk : PDA c X ks dks) (hval : PDE c X v dv) (hs : swapsWith v (some (.Subscript (.Name x p) (.Tuple ks kk kpos) apos)) pos.line X.env = pure false := by rfl) (hd : (x == ("__debug__" : Str)) = false := by decide) (hcd : (x == ("__classdict__" : Str)) = false := by decide) :
    PDS c X (.Assign [.Subscript (.Name x p) (.Tuple ks kk kpos) apos] v pos) (dDPutT i dks dv) := by
  obtain ⟨tk, k1, k2⟩ := hk
  obtain ⟨tv, v1, v2⟩ := hval
  refine ⟨_, ps_dput hu (pe_var hN hv hd hcd) (pe_tup k1) v1 hs, fun σ G H S B E R h1 h2 h3 h4 h => ?_⟩
  refine v2 σ G H S _ _ R (fun w H1 ⟨G1, S1, d, A, r, q⟩ => ?_) h
  obtain ⟨⟨l0, e0⟩, q⟩ := q
  obtain ⟨a, xs0, _, q2, _, _, q5, _⟩ := ot_get A.rp e0
  refine ⟨.ref a, q2, ?_⟩
  refine k2 σ G1 H1 S1 _ _ A.rp (fun vs H2 ⟨G2, S2, ds, A2, r2, q'⟩ => ?_) q
  obtain ⟨hz, l, ky, el, ek, hz2, q'⟩ := q'
  refine ⟨by rw [r2.length, sizeLine_eq]; exact hz, fun t nt => ?_⟩
  have A3 := Aft.gw0 A2.rp (.alloc (o := .tup vs) A2.rp.sub nt)
  obtain ⟨a', xs, p1, p2, p3, p4, p5, p6⟩ := ot_get A3.rp el
  rw [q2] at p2
  cases p2
  have ht : upd H2 t (.tup vs) t = some (.tup (ky.map kV)) := by
    rw [upd_same, rep_keys r2 ek]
  have B2 := Aft.putT A3.rp p1 q2 p3 p4 (repT_put (k := ky) (A3.rep (A2.rep r)) p6)
  refine ⟨a, _, rfl, .inr ⟨xs, ky, t, p5, rfl, ht, by rw [repT_len p6, sizeLine_eq]; exact hz2, rfl⟩, ?_⟩
  exact h1 _ _ ⟨_, _, B2.rp, (((A.trans A2).trans A3).trans B2).le, (((A.trans A2).trans A3).trans B2).nle, q'⟩
end
/-! ### y = [elt for x in d ifs] -/
section
variable {c : Ct} {X : Cx}
theorem ps_orLock {st : Stmt} {wi : TI} {t : TG} {tt : TT} {te : TE} {vs : List Nat} {k : Nat} (h : PS X st (tAsg (tLc wi t tt te vs) (gName k))) : PS X st (tAsg (tLcW wi t tt te vs) (gName k)) := by
  refine ⟨fun pins s σ H D I hq => ?_⟩
  rcases hq with hq | hq
  · exact (ps_lock h).run pins s σ H D I hq
  · exact h.run pins s σ H D I hq
theorem pds_setLcK {i j k : Nat} {x y z : Str} {elt : Expr} {ifs : List Expr} {scope : Scope} {pos p pz py spos : Pos} {dt : DT} {de : DE} (hc : X.calm = true) (hN : X.N.Nodup) (hy : X.N[j]? = some y) (hyl : X.env.scope.names.lookup y = some .local)
    (hsw : swapsWith (.ListComp elt [⟨.Name x p, .Name z pz, ifs, 0⟩] scope pos) (some (.Name y py)) spos.line X.env = pure true) (hz : X.N[k]? = some z) (hv : Vis X.env.scope z)
    (ok : BlkOk X.N X.env.scope scope [(x, i)])
    (hg : ∀ s H C cl fp, PG (Blk X scope s H C cl fp) (.Name x p) (gName i)) (ht : ∀ s H C cl fp, PDTsA c (Blk X scope s H C cl fp) ifs dt) (he : ∀ G0 H0 n0, ∀ s H C cl fp, PDE (ctW c G0 H0 n0) (Blk X scope s H C cl fp) elt de)
    (hd : (z == ("__debug__" : Str)) = false := by decide) (hcd : (z == ("__classdict__" : Str)) = false := by decide)
    (hs : ∀ w, foldedSetIterable (.Name z pz) X.env w = pure w := by intro _; rfl) :
    PDS c X (.Assign [.Name y py] (.ListComp elt [⟨.Name x p, .Name z pz, ifs, 0⟩] scope pos) spos) (dAsg j (dLcD k (fun p => keyD p.1) (fun d => some [(i, d)]) dt de [i])) :=
  ⟨_, ps_orLock (ps_setLc (tt := anyT c.T X.K X.mg c.E c.ED dt) hc hN hy hyl hsw (pi_keys (pe_var hz hv hd hcd)) ok hg (fun s H C cl fp => ht s H C cl fp) (fun s H C cl fp => anyE_of fun G0 H0 n0 => he G0 H0 n0 s H C cl fp) hs), simAsg j (simLcD (hi_keys) (simGc_name i) fun _ h => h)⟩
end
end DL
set_option maxHeartbeats 1000000
namespace DL
open PySem PySem.Spec PyProof.Rows L2
/-! ### extend by a tuple -/
open PySem.AutoSeq1 in
theorem ext_tup (l : Addr) (us : Array Value) (n : Nat) (b : Addr) (o : Obj) (ws : Array Value) (m : Nat) (o1 : o.cls = .type "tuple") (o3 : o.data = .seq ws m)
    (k0 : ¬(!us.isEmpty && Builtin.List.listTooLong (us.size + ws.size)) = true) (k1 : us.size ≤ sizeLine) (k2 : us.size + ws.size ≤ sizeLine + 1) :
    Meets (Builtin.«list.extend» ⟨[.ref l, .ref b], []⟩) (fun _ R s => s.heap.get? l = some { cls := .type "list", dict := none, data := .seq us n, slots := #[] } ∧ s.heap.get? b = some o ∧
      R (.ok (.ret Value.none)) { s with heap := s.heap.update l (Obj.mapSeq fun x => x ++ ws), toks := s.toks }) :=
  .of_wp fun prog w A R s h => by
    obtain ⟨hp, g, d, tk, os⟩ := s
    obtain ⟨hl, hb, h⟩ := h
    obtain ⟨oc, od, oda, osl⟩ := o
    simp only at o1 o3
    subst o1 o3
    have f1 := idx_int
    have f2 := AutoSeq1.sub_tuple_tuple
    have f3 := AutoSeq1.sub_list_list
    have f4 := AutoSeq1.sub_tuple_list
    have f5 := AutoSeq1.sub_list_tuple
    have hz' : (us ++ ws).size ≤ sizeLine + 1 := by
      rw [Array.size_append]
      exact k2
    wp_walk using (wpAny_updateSeq hl rfl (hz := k1) (_hz' := hz')), wpAny_loadPart' hl, wpAny_loadPart' hb
    exact ⟨_, rfl, h⟩
def rExtU (K : PySem.W.Frag) : V → List V → Hp → VK → Prop := fun x vs H Q => ∃ (l b : Addr) (xs zs : List V), x = .ref l ∧ vs = [.ref b] ∧ H l = some (.lst xs) ∧ SqT K H b zs ∧ xs.length + zs.length ≤ 16777216 ∧ Q .non (upd H l (.lst (xs ++ zs)))
section
variable {X : Cx}
theorem mt_extU : MtM X "list.extend" (rExtU X.K) := by
  intro pins s σ H x vs v us Q I rx rv h
  obtain ⟨l, b, xs, zs, e1, e2, hH, hB, hz, q⟩ := h
  subst e1 e2
  cases rx
  obtain ⟨u, e3, ru⟩ := rv.one
  subst e3
  cases ru
  obtain ⟨z, its, n, r, hl, e⟩ := I.lstM hH
  obtain ⟨its2, r2, tp, _⟩ := I.tuple hB
  obtain ⟨o, e2, c1, m, c3⟩ := tp
  have hl2 : zs.length = its2.length := r2.length
  have hsz : its.toArray.size + its2.toArray.size ≤ sizeLine := by
    rw [List.size_toArray, List.size_toArray, sizeLine_eq]
    omega
  have hlong : ¬ (!its.toArray.isEmpty && Builtin.List.listTooLong (its.toArray.size + its2.toArray.size)) = true := by
    intro hh
    rw [notLongL hsz, Bool.and_false] at hh
    cases hh
  refine call_meets PySem.F.slot_list_extend ⟨_, e, rfl⟩ PySem.F.entry_list_extend (PySem.F.args_list_extend_2 _ _) (ext_tup l its.toArray n b o its2.toArray m c1 c3 hlong (by omega) (by omega)) ⟨e, e2, ?_⟩
  refine ⟨.non, _, I.lset (its' := its ++ its2) hH e (by simp) (r.append r2) (by rw [List.length_append, sizeLine_eq]; omega), rfl, q⟩
end
section
variable {c : Ct} {X : Cx} {e : Expr} {de : DE} {i : Nat} {x : Str} {p apos cpos : Pos}
def dExtT (i : Nat) (de : DE) : DE := fun S Q => ∃ l0, olAt S i = some l0 ∧ de S fun d S1 => ∃ l r, olAt S1 i = some l ∧ d = .tup r ∧ l.length + r.length ≤ 16777216 ∧ Q .non { S1 with sl := S1.sl.set i (some (.ol (l ++ r))) }
theorem pd_extendT (hN : X.N[i]? = some x) (hv : Vis X.env.scope x) (he : PDE c X e de)
    (hbase : attributeBase (.Name x p) "extend" X.env (eval (.Name x p) X.env) = eval (.Name x p) X.env := by rfl)
    (hfew : ((backTo cpos (starEach (e :: []) X.env)).all (fun x => !x.1) && (backToKw cpos (keywordEach [] X.env)).all (fun x => x.1.isSome)
      && decide ((e :: []).length + ([] : List Keyword).length + (if ([] : List Keyword).isEmpty then 0 else 1) < 30)) = true := by rfl)
    (hline : (apos.endLine == cpos.line) = true := by rfl) (hs : starEach (e :: []) X.env = (false, eval e X.env) :: starEach [] X.env := by rfl)
    (hd : (x == ("__debug__" : Str)) = false := by decide) (hcd : (x == ("__classdict__" : Str)) = false := by decide) :
    PDE c X (.Call (.Attribute (.Name x p) "extend" apos) [e] [] cpos) (dExtT i de) := by
  obtain ⟨te, e1, e2⟩ := he
  refine ⟨_, pe_bm PySem.F.plainAttrs_list PySem.F.slot_list_extend PySem.F.type_list_extend mt_extU (pe_var hN hv hd hcd) (pa_cons e1 pa_nil hs) hbase hfew hline hs rfl, fun σ G H S Qd Q R hQ h => ?_⟩
  obtain ⟨l0, h0, h⟩ := h
  obtain ⟨a, xs0, q1, q2, q3, q4, q5, q6⟩ := ol_get R h0
  refine ⟨.ref a, q2, .inl ⟨rfl, _, SqL.of q5⟩, ?_⟩
  refine e2 σ G H S _ _ R (fun v H1 ⟨G1, S1, d, A, r, h1⟩ => ?_) h
  obtain ⟨l, rl, hl, ed, hz, h1⟩ := h1
  subst ed
  obtain ⟨a', xs, p1, p2, p3, p4, p5, p6⟩ := ol_get A.rp hl
  rw [q2] at p2
  cases p2
  cases r with
  | @tup b zs _ hsq ra =>
    refine ⟨a, b, xs, zs, rfl, rfl, p5, sqT_sub A.rp.sub hsq, by rw [p6.length, ra.length]; exact hz, ?_⟩
    have B := Aft.put A.rp p1 q2 p3 p4 (p6.append ra)
    exact hQ _ _ ⟨G1, _, .non, A.trans B, .non, h1⟩
end
/-! ### how many there are, each once -/
def dst (ns : List Int) : Nat := (PyProof.Rows.firstMet (fun i => ns.getD i 0) ns.length).length
theorem ints_of : ∀ {ns : List Int} {us : List Value}, Vals (ns.map V.int) us → PyProof.Rows.IntsAre us ns
  | [], _, .nil => .nil
  | m :: _, _, .cons ⟨k, e⟩ t => by
    subst e
    exact .cons m k (ints_of t)
def tDst (K : PySem.W.Frag) (ta : TE) : TE := fun σ H Q => ta σ H fun x H1 => ∃ (l : Addr) (ns : List Int), x = .ref l ∧ SqL K H1 l (ns.map V.int) ∧ ns.length ≤ 4000 ∧ Q (.int (dst ns : Nat)) H1
theorem pe_dst {X : Cx} {a : Expr} {ta : TE} {p p2 q pos : Pos} (g1 : Gl X "len") (m1 : X.mg "len" = none) (g2 : Gl X "set") (m2 : X.mg "set" = none) (ha : PE X a ta) (hc : X.calm = true := by rfl)
    (na : starEach [a] X.env = (false, eval a X.env) :: starEach [] X.env := by rfl) : PE X (.Call (.Name "len" p) [.Call (.Name "set" p2) [a] [] q] [] pos) (tDst X.K ta) := ⟨fun pins s σ H Q I h => by
  refine Call_ (ld_blt I g1 m1 boot_len (PyProof.Rows.callWith_builtin1 (PyProof.Rows.args_cons (Call_ (ld_blt I g2 m2 boot_set ?_)) rfl) rfl rfl))
  refine PyProof.Rows.callWith_type1 (PyProof.Rows.args_cons (thn (ha.run pins s σ H _ I h) fun v s1 ⟨x, H1, J, rx, w⟩ => PyProof.Rows.args_nil ?_) na) na rfl
  obtain ⟨l, ns, ex, hq, hz, w⟩ := w
  subst ex
  cases rx
  obtain ⟨its, r, pl, _⟩ := J.list hq
  have en : its.toArray.size = ns.length := by
    rw [List.size_toArray, ← r.length]
    simp
  refine call_set_list (J.ok.hd hc) pl.isList (by simpa using ints_of r) (by rw [en]; unfold scanBound; omega) fun h' tk hS hk => PyProof.Rows.args_nil ?_
  rw [en] at hS
  obtain ⟨o, es, ep, t, ho, hex, hd, _, _, _, hf, hn⟩ := hS
  have J2 : Inv X pins σ H1 { s1 with heap := h', toks := tk } := J.kept fun b o e => hk b o (Heap.lt_size e) e
  have hle : dst ns ≤ ns.length := PyProof.Rows.firstMet_length_le _ _
  have hn2 : es.size = dst ns := hn
  exact call_len_set ho hex hd hf (by rw [hn2]; omega) ⟨.int (dst ns : Nat), H1, J2.tok _, ⟨_, by rw [hn2]⟩, w⟩⟩
def dDst (da : DE) : DE := fun S Q => da S fun x S1 => ∃ ns : List Int, x = .lst (ns.map .int) ∧ ns.length ≤ 4000 ∧ Q (.int (dst ns : Nat)) S1
theorem pd_lenSet {c : Ct} {X : Cx} {a : Expr} {da : DE} {p p2 q pos : Pos} (g1 : Gl X "len") (m1 : X.mg "len" = none) (g2 : Gl X "set") (m2 : X.mg "set" = none) (ha : PDE c X a da) (hc : X.calm = true := by rfl)
    (na : starEach [a] X.env = (false, eval a X.env) :: starEach [] X.env := by rfl) : PDE c X (.Call (.Name "len" p) [.Call (.Name "set" p2) [a] [] q] [] pos) (dDst da) := by
  obtain ⟨ta, a1, a2⟩ := ha
  refine ⟨_, pe_dst g1 m1 g2 m2 a1 hc na, fun σ G H S Qd Q R hQ h => ?_⟩
  refine a2 σ G H S _ _ R (fun v H1 ⟨G1, S1, d, A, r, h1⟩ => ?_) h
  obtain ⟨ns, ed, hz, h1⟩ := h1
  subst ed
  cases r with
  | @lst b zs _ hsq ra =>
    have ez := RepAll.ints_inv ra
    subst ez
    exact ⟨b, ns, rfl, sqL_sub A.rp.sub hsq, hz, hQ _ _ ⟨G1, S1, _, A, .int _, h1⟩⟩
/-! ### x, y = fresh, e where y is a cell: over a tuple that nobody keeps -/
theorem pl_tup {xs : List V} : Pl (.tup xs) := ⟨(fun _ z => by cases z), (fun _ _ z => by unfold LamX.CodeO at z; cases z)⟩
section
variable {c : Ct} {X : Cx} {a b : Expr} {da : DF} {eb : DE} {i j : Nat} {tg : Expr} {pos pt2 : Pos} {k2 : Nat}
theorem pds_parG (hg : PG X tg (gTup X.K 2 (gCons (gName i) (gCons (gName j) gNil)))) (ha : PDF c X a da) (hb : PDE c X b eb)
    (hs : swapsWithSole [tg] (.Tuple [a, b] k2 pt2) pos.line X.env = pure false := by rfl) (hw : swappedStores [tg] (.Tuple [a, b] k2 pt2) X.env = pure none := by rfl) (h1 : (assignEach [tg] X.env).map (·.2) = [assign tg X.env] := by rfl)
    (hs1 : starEach [a, b] X.env = (false, eval a X.env) :: starEach [b] X.env := by rfl) (hs2 : starEach [b] X.env = (false, eval b X.env) :: starEach [] X.env := by rfl) :
    PDS c X (.Assign [tg] (.Tuple [a, b] k2 pt2) pos) (dParFP i j da eb) := by
  obtain ⟨ta, a1, a2⟩ := ha
  obtain ⟨tb, b1, b2⟩ := hb
  refine ⟨_, ps_asg (pe_tup (pa_cons a1 (pa_cons b1 pa_nil hs2) hs1)) hg hs hw h1, fun σ G H S B E R h1 h2 h3 h4 h => ?_⟩
  refine a2 σ G H S _ _ R (fun v H' ⟨q, H1, o, u, G1, S1, ev, nq, eH, A, ho, hu, hq⟩ => ?_) h
  subst ev eH
  have R1 : Rp c X.K X.mg σ G1 (upd H1 q o) S1 := A.rp.hide nq (Owns.pl ho hu)
  refine b2 σ G1 _ S1 _ _ R1 (fun w H2 ⟨G2, S2, d, A2, r2, hq2⟩ => ?_) hq
  obtain ⟨k1, k2, k3⟩ := A2.hid q o upd_same (A.rp.gnone nq) (A.rp.fresh_loose nq)
  refine ⟨by rw [sizeLine_eq]; simp, fun t nt => ?_⟩
  have qt : q ≠ t := ne_of_none k1 nt
  have R5 := A2.rp.hide (p := t) (o := .tup [V.ref q, w]) nt pl_tup
  have o1 := Owns.aft A2 ho k2 (upd H2 t (.tup [V.ref q, w])) (by rw [upd_ne qt]; exact k1)
  have R6 := R5.take (i := i) k3 o1 hu
  have R7 := R6.set (i := j) (v := w) (d := d) r2
  exact ⟨t, _, rfl, .inl (.inl upd_same), rfl, .ref q, [w], rfl, w, [], rfl, rfl, h1 _ _ ⟨G2, _, R7, le_trans' A.le A.nle A2.le A2.nle, Nat.le_trans A2.nle A.nle, hq2⟩⟩
end
end DL
set_option maxHeartbeats 2000000
/-! DLk: texts -/
namespace DL
open PySem PySem.Spec PyProof.Rows L2
section
variable {K : PySem.W.Frag} {mg : MG} {G : Hp} {n : Nat}
theorem RepAll.strs : ∀ (l : List Str), RepAll K mg G n (l.map V.str) (l.map D.str)
  | [] => .nil
  | x :: l => .cons (.str x) (RepAll.strs l)
theorem RepAll.strs_inv : ∀ {vs : List V} {l : List Str}, RepAll K mg G n vs (l.map D.str) → vs = l.map V.str
  | _, [], .nil => rfl
  | _, x :: l, .cons a b => by
    cases a
    rw [RepAll.strs_inv b]
    rfl
end
section
variable {c : Ct} {X : Cx} {a e : Expr} {da db : DE} {pos apos : Pos}
/-! ### split, join -/
def dSplit (da db : DE) : DE := fun S Q => da S fun x S1 => ∃ a, x = .str a ∧ db S1 fun y S2 => ∃ b, y = .str b ∧ (b.length == 0) = false ∧ a.length + 2 ≤ 16777216 ∧ Q (.lst ((Txt.split a b).map .str)) S2
theorem pd_split (ha : PDE c X a da) (hb : PDE c X e db) (hs : starEach [e] X.env = [(false, eval e X.env)] := by rfl) (hbase : attributeBase a "split" X.env (eval a X.env) = eval a X.env := by rfl) (hline : (apos.endLine == pos.line) = true := by rfl) :
    PDE c X (.Call (.Attribute a "split" apos) [e] [] pos) (dSplit da db) := by
  obtain ⟨ta, a1, a2⟩ := ha
  obtain ⟨tb, b1, b2⟩ := hb
  refine ⟨_, pe_split a1 b1 hs hbase hline, fun σ G H S Qd Q R hQ h => ?_⟩
  refine a2 σ G H S _ _ R (fun v H1 ⟨G1, S1, d, A1, r1, h1⟩ => ?_) h
  obtain ⟨z, ez, h1⟩ := h1
  subst ez
  cases r1
  refine ⟨⟨_, rfl⟩, b2 σ G1 H1 S1 _ _ A1.rp (fun u H2 ⟨G2, S2, d2, A2, r2, h2⟩ => ?_) h1⟩
  obtain ⟨b, eb, hz, hl, h2⟩ := h2
  subst eb
  cases r2
  refine ⟨_, _, rfl, rfl, hz, by rw [sizeLine_eq]; exact hl, fun p np => ?_⟩
  have A3 := Aft.gw0 A2.rp (.alloc (o := .lst ((Txt.split z b).map V.str)) A2.rp.sub np)
  exact hQ _ _ ⟨_, S2, _, (A1.trans A2).trans A3, .lst (.inl (.inl upd_same)) (RepAll.strs _), h2⟩
def dJoin (da db : DE) : DE := fun S Q => da S fun x S1 => ∃ a, x = .str a ∧ db S1 fun y S2 => ∃ l : List Str, (y = .lst (l.map .str) ∨ y = .tup (l.map .str)) ∧ (l.map (·.length)).sum + l.length * a.length ≤ 16777216 ∧ Q (.str (Txt.join a l)) S2
theorem pd_join (ha : PDE c X a da) (hb : PDE c X e db) (hs : starEach [e] X.env = [(false, eval e X.env)] := by rfl) (hbase : attributeBase a "join" X.env (eval a X.env) = eval a X.env := by rfl) (hline : (apos.endLine == pos.line) = true := by rfl) :
    PDE c X (.Call (.Attribute a "join" apos) [e] [] pos) (dJoin da db) := by
  obtain ⟨ta, a1, a2⟩ := ha
  obtain ⟨tb, b1, b2⟩ := hb
  refine ⟨_, pe_join a1 b1 hs hbase hline, fun σ G H S Qd Q R hQ h => ?_⟩
  refine a2 σ G H S _ _ R (fun v H1 ⟨G1, S1, d, A1, r1, h1⟩ => ?_) h
  obtain ⟨z, ez, h1⟩ := h1
  subst ez
  cases r1
  refine ⟨⟨_, rfl⟩, b2 σ G1 H1 S1 _ _ A1.rp (fun u H2 ⟨G2, S2, d2, A2, r2, h2⟩ => ?_) h1⟩
  obtain ⟨l, el, hz, h2⟩ := h2
  have fin : Q (.str (Txt.join z l)) H2 := hQ _ _ ⟨_, S2, _, A1.trans A2, .str _, h2⟩
  rcases el with el | el
  · subst el
    cases r2 with
    | @lst p xs ds hs' ra =>
      have e := ra.strs_inv
      subst e
      exact ⟨_, _, l, rfl, rfl, .inl (sqL_sub A2.rp.sub hs'), hz, fin⟩
  · subst el
    cases r2 with
    | @tup p xs ds hs' ra =>
      have e := ra.strs_inv
      subst e
      exact ⟨_, _, l, rfl, rfl, .inr (sqT_sub A2.rp.sub hs'), hz, fin⟩
/-! ### str(int), int(text) -/
def gStrI : List D → Option D
  | [.int i] => if i.natAbs.log2 < 1920 then some (.str (toString i)) else none
  | _ => none
theorem cd_strI : CallD c X (.type "str") gStrI := ⟨_, call_str_int, fun G H n vs ds z Q s r q hq => by
  unfold gStrI at q
  split at q
  · split at q
    · rename_i hz
      cases q
      obtain ⟨v, e, rv⟩ := rep1 r
      subst e
      cases rv
      exact ⟨_, rfl, hz, hq _ G H (.refl s) (.str _)⟩
    · cases q
  · cases q⟩
def gIntS : List D → Option D
  | [.str x] => if x.length ≤ 640 then (PySem.intText? x).map .int else none
  | _ => none
theorem cd_intS : CallD c X (.type "int") gIntS := ⟨_, call_int_str, fun G H n vs ds z Q s r q hq => by
  unfold gIntS at q
  split at q
  · split at q
    · rename_i x hz
      cases e : PySem.intText? x with
      | none => rw [e] at q; cases q
      | some i =>
        rw [e] at q
        cases q
        obtain ⟨v, e', rv⟩ := rep1 r
        subst e'
        cases rv
        exact ⟨_, _, rfl, e, hz, hq _ G H (.refl s) (.int _)⟩
    · cases q
  · cases q⟩
/-! ### text * int -/
def repS (x : Str) (n : Nat) : Str := ⟨(List.replicate n x.cps).foldl (· ++ ·) #[]⟩
theorem repS_fold (x : Array Nat) : ∀ (n : Nat) (acc : Array Nat), ((List.replicate n x).foldl (· ++ ·) acc).size = acc.size + n * x.size
  | 0, acc => by simp
  | n + 1, acc => by
    rw [List.replicate_succ, List.foldl_cons, repS_fold x n, Array.size_append, Nat.add_mul, Nat.one_mul]
    omega
theorem repS_len (x : Str) (n : Nat) : (repS x n).length = n * x.length := by
  have e := repS_fold x.cps n #[]
  have e2 : (#[] : Array Nat).size = 0 := rfl
  show ((List.replicate n x.cps).foldl (· ++ ·) #[]).size = n * x.cps.size
  omega
theorem op_mulS : OpR X (binaryOp .Mult) (fun x y H Q => ∃ z i, x = .str z ∧ y = .int i ∧ 2 ≤ i ∧ i ≤ 1000000 ∧ 1 ≤ z.length ∧ z.length ≤ 1000000 ∧ z.length * i.toNat ≤ 16777216 ∧ Q (.str (repS z i.toNat)) H) := by
  intro pins s σ H x y v u Q I rx ry h
  obtain ⟨z, i, rfl, rfl, h1, h2, h3, h3', h4, q⟩ := h
  obtain ⟨t, rfl⟩ := rx
  obtain ⟨t', rfl⟩ := ry
  have hno : (i == 1 || z.length == 0) = false := by
    rw [Bool.or_eq_false_iff]
    exact ⟨beq_eq_false_iff_ne.mpr (by omega), beq_eq_false_iff_ne.mpr (by omega)⟩
  refine P.mul_str ?_ (fun _ _ => ?_) (fun _ _ => ?_) ?_
  · rw [decide_eq_false (by omega), decide_eq_false (by omega)]
    rfl
  · have hd : (9223372036854775807 : Int) / 1000000 ≤ 9223372036854775807 / i := by
      apply Int.le_ediv_of_mul_le (by omega)
      have := Int.mul_le_mul_of_nonneg_left h2 (show (0 : Int) ≤ 9223372036854775807 / 1000000 by decide)
      omega
    show ¬ ((z.length : Int) > 9223372036854775807 / i)
    omega
  · show decide (z.length * i.toNat > sizeLine) = false
    rw [sizeLine_eq]
    exact decide_eq_false (by omega)
  · rw [if_neg (by omega), if_neg (by rw [hno]; exact Bool.false_ne_true)]
    have hl : (repS z i.toNat).length ≤ sizeLine := by
      rw [repS_len, sizeLine_eq, Nat.mul_comm]
      exact h4
    exact ⟨hl, .str _, H, I.tok _, ⟨_, rfl⟩, q⟩
def gMulS : D → D → Option D
  | .str z, .int i => if 2 ≤ i ∧ i ≤ 1000000 ∧ 1 ≤ z.length ∧ z.length ≤ 1000000 ∧ z.length * i.toNat ≤ 16777216 then some (.str (repS z i.toNat)) else none
  | _, _ => none
theorem od_mulS : OpD c X (binaryOp .Mult) gMulS := ⟨_, op_mulS, fun G H n x y dx dy z Q s rx ry q hq => by
  unfold gMulS at q
  split at q
  · split at q
    · rename_i hz
      obtain ⟨h1, h2, h3, h4, h5⟩ := hz
      cases q
      cases rx
      cases ry
      exact ⟨_, _, rfl, rfl, h1, h2, h3, h4, h5, hq _ G H (.refl s) (.str _)⟩
    · cases q
  · cases q⟩
/-! ### text[::-1] -/
def revS (x : Str) : Str := ⟨x.cps.toList.reverse.toArray⟩
theorem revS_len (x : Str) : (revS x).length = x.length := by
  show x.cps.toList.reverse.toArray.size = x.cps.size
  simp
def tRevS (te : TE) : TE := fun σ H Q => te σ H fun x H1 => ∃ z, x = .str z ∧ z.length ≤ 16777216 ∧ Q (.str (revS z)) H1
theorem rev_idx (n : Nat) : Builtin.Str.strSliceIndices none none (-1) n = (List.range n).reverse := by
  have e : Builtin.Str.strSliceIndices none none (-1) n = sliceRange ((n : Int) - 1) (-1) (-1) := rfl
  rw [e, PySem.W.krv_sliceRange, PySem.W.krv_range]
theorem pe_revS {k : Nat} {p1 p2 p3 pos : Pos} {te : TE} (he : PE X e te) : PE X (.Subscript e (.Slice none none (some (.UnaryOp .USub (.Constant (.int 1) k p1) p2)) p3) pos) (tRevS te) := by
  refine ⟨fun pins s σ H Q I h => ?_⟩
  refine Subscript_ (thn (he.run pins s σ H _ I h) fun v s1 ⟨x, H1, I1, r1, z, ex, hz, q⟩ => ?_)
  subst ex
  obtain ⟨t, rfl⟩ := _root_.id r1
  have hst : PO X (some (.UnaryOp .USub (.Constant (.int 1) k p1) p2)) (tPart (tUn (rU fun i => .int (-i)) (tC (.int 1)))) := po_some (pe_un un_neg pe_int)
  refine wpAny_Slice (thn (po_none.run pins s1 σ H1 (fun o H2 => o = none ∧ H2 = H1) I1 ⟨rfl, rfl⟩) fun vl s2 ⟨l, H2, I2, pl, el, e2⟩ => ?_)
  subst el e2
  refine thn (po_none.run pins s2 σ H2 (fun o H3 => o = none ∧ H3 = H2) I2 ⟨rfl, rfl⟩) fun vu s3 ⟨u, H3, I3, pu, eu, e3⟩ => ?_
  subst eu e3
  refine thn (hst.run pins s3 σ H3 (fun o H4 => o = some (-1) ∧ H4 = H3) I3 ⟨1, rfl, -1, rfl, rfl, rfl⟩) fun vs s4 ⟨o, H4, I4, ps, eo, e4⟩ => ?_
  subst eo e4
  cases pl
  cases pu
  cases ps with
  | int _ tk =>
  have I5 : Inv X pins σ H4 { s4 with heap := s4.heap.push { cls := .type "slice", data := .fields #[.none, .none, .int (-1) tk] } } := I4.kept (t' := s4.toks) fun b ob q => Heap.get?_push_of_some _ q
  show wpAny (model X.prog X.w) X.A (subscriptTail e (.Slice none none (some (.UnaryOp .USub (.Constant (.int 1) k p1) p2)) p3) (.str z t) (.ref s4.heap.objs.size)) (EP X pins σ Q) X.xe { s4 with heap := s4.heap.push { cls := .type "slice", data := .fields #[.none, .none, .int (-1) tk] } }
  refine tail_any (ops := [.str z t, .ref s4.heap.objs.size]) (typeIs_str _ _ _) F.slot_str_getitem.lookup ?_ (by with_unfolding_all rfl)
  refine wpAny_getItem_str_slice (l := none) (u := none) (st := some (-1, tk)) ⟨_, Heap.get?_push_size _ rfl, rfl, rfl⟩ rfl ?_
  have el : (Builtin.Str.strSliceIndices none none (-1) z.length).filterMap (z.cps[·]?) = z.cps.toList.reverse := by
    rw [rev_idx, List.filterMap_reverse]
    exact congrArg List.reverse (PySem.W.krv_all z.cps)
  have hl : (revS z).length ≤ sizeLine := by
    rw [revS_len, sizeLine_eq]
    exact hz
  show Made.post (if ((-1 : Int) == 1 && (Builtin.Str.strSliceIndices none none (-1) z.length).length == z.length) = true then Made.val (.str z t)
    else Made.str ⟨((Builtin.Str.strSliceIndices none none (-1) z.length).filterMap (z.cps[·]?)).toArray⟩) (EP X pins σ Q) _
  rw [if_neg (by simp), el]
  exact ⟨hl, .str _, H4, I5.tok _, ⟨_, rfl⟩, q⟩
def dRevS (de : DE) : DE := fun S Q => de S fun x S1 => ∃ z, x = .str z ∧ z.length ≤ 16777216 ∧ Q (.str (revS z)) S1
theorem pd_revS {k : Nat} {p1 p2 p3 pos : Pos} {de : DE} (he : PDE c X e de) : PDE c X (.Subscript e (.Slice none none (some (.UnaryOp .USub (.Constant (.int 1) k p1) p2)) p3) pos) (dRevS de) := by
  obtain ⟨te, e1, e2⟩ := he
  refine ⟨_, pe_revS e1, fun σ G H S Qd Q R hQ h => ?_⟩
  refine e2 σ G H S _ _ R (fun v H1 ⟨G1, S1, d, A, r, q⟩ => ?_) h
  obtain ⟨l, e, hz, q⟩ := q
  subst e
  cases r
  exact ⟨l, rfl, hz, hQ _ _ ⟨G1, S1, _, A, .str _, q⟩⟩
/-! ### repr(a tuple) -/
def rRepr (K : PySem.W.Frag) : List V → Hp → VK → Prop := fun xs H Q => ∃ (a : Addr) (d : PyData), xs = [.ref a] ∧ Dp K H (.ref a) d ∧ d.showable = true ∧ d.hasDict = false ∧ d.depth ≤ 60 ∧ d.shown.length ≤ 16777216 ∧ Q (.str d.shown) H
theorem call_reprD (hg : X.A.guards = some []) (hu : X.A.units + 64 < cLine) : CallR X (.builtin "repr") (rRepr X.K) := by
  intro pins s σ H xs us Q I rs h
  obtain ⟨a, d, rfl, hd, h1, h2, h3, h4, q⟩ := h
  obtain ⟨u, rfl, r1⟩ := vals1 rs
  cases r1
  obtain ⟨as, rd⟩ := Dp.reads I d (.ref a) (.ref a) hd rfl
  refine repr_of_reads' rd h1 (PyData.noDict_hsm h2) hg (by omega) (fun b o e => e) (fun h' u tk hk => ?_) (by rw [sizeLine_eq]; exact h4)
  exact ⟨.str _, H, I.kept hk, ⟨_, rfl⟩, q⟩
def gRepr : List D → Option D
  | [.tup l] => if (D.tup l).plain = true ∧ (D.tup l).py.showable = true ∧ (D.tup l).py.hasDict = false ∧ (D.tup l).py.depth ≤ 60 ∧ (D.tup l).py.shown.length ≤ 16777216 then some (.str (D.tup l).py.shown) else none
  | _ => none
theorem cd_repr (hg : X.A.guards = some []) (hu : X.A.units + 64 < cLine) : CallD c X (.builtin "repr") gRepr := ⟨_, call_reprD hg hu, fun G H n vs ds z Q s r q hq => by
  unfold gRepr at q
  split at q
  · split at q
    · rename_i hz
      obtain ⟨h1, h2, h3, h4, h5⟩ := hz
      cases q
      obtain ⟨v, e, rv⟩ := rep1 r
      subst e
      have dp := rv.dp s h1
      cases rv
      exact ⟨_, _, rfl, dp, h2, h3, h4, h5, hq _ G H (.refl s) (.str _)⟩
    · cases q
  · cases q⟩
end
end DL
set_option maxHeartbeats 2000000
/-! DL1: a def that tries what it is given and tells pairs -/
namespace DL
open PySem PySem.Spec PyProof.Rows L2
open LamX (Tabs ExtN CodeO TabB LamS GivesTo tLam lamCx lamEnv)
/-- try: return (w1, a()) / except x as n: return (w2, n.f) -/
def TMet (K : PySem.W.Frag) (C : Addr) (f w1 w2 : Str) : (XK → Hp → VK → Prop) → Hp → VK → Prop := fun tl H Q =>
  tl (fun cls d H' => ∃ b, PySem.W.exmOne K cls (.ref C) = some b ∧ (b = true → cls = .ref C ∧ ∃ (dd : Addr) (fs : List (Str × V)) (v : V), d = some dd ∧ H' dd = some (.xd fs) ∧ fs.lookup f = some v ∧ ∀ p, H' p = none → Q (.ref p) (upd H' p (.tup [.str w2, v]))) ∧ (b = false → False)) H
    fun v H' => [V.str w1, v].length ≤ sizeLine ∧ ∀ p, H' p = none → Q (.ref p) (upd H' p (.tup [.str w1, v]))
abbrev metBody (a x n f w1 w2 : Str) (j1 j2 k1 k2 : Nat) (p1 p2 p3 p4 p5 p6 p7 p8 p9 p10 p11 p12 p13 : Pos) : List Stmt :=
  [.Try [.Return (some (.Tuple [.Constant (.str w1) j1 p1, .Call (.Name a p2) [] [] p3] k1 p4)) p5] [.ExceptHandler (some (.Name x p6)) (some n) [.Return (some (.Tuple [.Constant (.str w2) j2 p7, .Attribute (.Name n p8) f p9] k2 p10)) p11] p12] [] [] p13]
theorem met_gives {X : Cx} {x a e n f w1 w2 q : Str} {sg : Scope} {g C : Addr} {cdg : Value} {j1 j2 k1 k2 : Nat} {p1 p2 p3 p4 p5 p6 p7 p8 p9 p10 p11 p12 p13 : Pos} (hge : sg.names.lookup e = some .globalImplicit) (hme : X.mg e = some (.ref C)) (hde : (e == ("__debug__" : Str)) = false)
    (hna : a ≠ n) (hln : sg.names.lookup n = some .local) (T : XfC X.K C) (hno : PySem.W.findIn X.K (.ref C) f = some none) (hdn : (n == ("__debug__" : Str)) = false) (hcn : (n == ("__classdict__" : Str)) = false)  :
    GivesTo X [a, n] x sg g cdg (metBody a e n f w1 w2 j1 j2 k1 k2 p1 p2 p3 p4 p5 p6 p7 p8 p9 p10 p11 p12 p13) a q (TMet X.K C f w1 w2) := by
  intro fL c' s H Q tl act hc h
  have hgl : Gl (cxOf C8.CX0 X.prog X.w X.K X.mg X.base [a, n] x sg g cdg X.A X.stack s H C8.E0).nox e := hge
  have nd : [a, n].Nodup := by simp [hna]
  refine ⟨_, pss_one (ps_try_as (X := (cxOf C8.CX0 X.prog X.w X.K X.mg X.base [a, n] x sg g cdg X.A X.stack s H C8.E0).nox) (i := 1) (c := .ref C)
      (tb := fun W D σ H => ∃ Ech : XK, (∀ cls d σ' H', Ech cls d H' → W cls d σ' H') ∧ σ[0]? = some (some (.ref fL)) ∧ H c' = some (CodeO c' q) ∧ tl Ech H fun v H' => [V.str w1, v].length ≤ sizeLine ∧ ∀ p, H' p = none → D.rt (.ref p) (upd H' p (.tup [.str w1, v])))
      (ts := fun a0 cls d D σ H => σ.length = 2 → tRet (tTup (tCons (tC (.str w2)) (tCons (tXf a0 cls d C f (tVar 1)) tNil))) D σ H)
      rfl rfl nd rfl hln ⟨hgl, hde, .inl hme⟩ takes0 (fun W pn xe tk _ => ?_) (fun a0 oe cls d pn hz hf => pss_len (pss_one (ps_ret (pe_tup (pa_cons pe_str (pa_cons (pe_xf T hno hz hf (pe_var (i := 1) rfl (.inl hln) hdn hcn)) pa_nil))))))), ?_⟩
  · refine ⟨fun pins s' σ H' D I h' => ?_⟩
    obtain ⟨Ech, hW, h1, h2, h3⟩ := h'
    have hp := act W pn xe Ech p2 p3 tk hW
    refine (pss_one (ps_ret (pos := p5) (pe_tup (x1 := k1) (pos := p4) (pa_cons (pe_str (j := j1) (pos := p1)) (pa_cons hp pa_nil))))).run pins s' σ H' D I ?_
    exact ⟨h1, h2, h3⟩
  · refine ⟨_, fun cls d σ' H' ⟨b, e1, e2, e3⟩ => ⟨b, e1, fun hb a0 _ => ?_, fun hb => e3 hb⟩, rfl, hc, h⟩
    intro hl
    obtain ⟨k1, dd, fs, v, k2, k3, k4, k5⟩ := e2 hb
    have h2 : 1 < σ'.length := by
      rw [List.length_set] at hl
      omega
    exact ⟨.ref a0, List.getElem?_set_self h2, rfl, k1, dd, fs, v, k2, k3, k4, by rw [sizeLine_eq]; show 2 ≤ 16777216; omega, k5⟩
def dMet (x f w1 w2 : Str) (de : (Exc → Nat → Prop) → DE) : DE := fun S Q =>
  de (fun ex n => ∃ d, ex = (x, f, d) ∧ (n ≤ S.n → Q (.tup [.str w2, d]) ⟨S.sl, n⟩)) ⟨noOwn S.sl, S.n⟩ fun d2 S2 => S2.sl = noOwn S.sl ∧ Q (.tup [.str w1, d2]) ⟨S.sl, S2.n⟩
/-- what is known of the def that tries -/
structure MetD (P : Program) (w : World) (K : PySem.W.Frag) (mg : MG) (xg x f w1 w2 : Str) : Prop where
  ex : ∃ (g C : Addr) (a n : Str) (j1 j2 k1 k2 : Nat) (p1 p2 p3 p4 p5 p6 p7 p8 p9 p10 p11 p12 p13 : Pos) (pg : Arguments) (sg : Scope) (oc kV doc pm cdv ct : Value) (an od : Option Addr) (osl : Array (Option Value)),
    mg xg = some (.ref g) ∧ PySem.W.keepIn K (.ref g) = true ∧
    K.lookup g = some ⟨oc, od, .func (PySem.W.fnOf xg xg pg (metBody a x n f w1 w2 j1 j2 k1 k2 p1 p2 p3 p4 p5 p6 p7 p8 p9 p10 p11 p12 p13) sg .none kV doc pm an cdv ct), osl⟩ ∧ PySem.W.codeIn K cdv xg = true ∧
    L2.Binds K (PySem.W.fnOf xg xg pg (metBody a x n f w1 w2 j1 j2 k1 k2 p1 p2 p3 p4 p5 p6 p7 p8 p9 p10 p11 p12 p13) sg .none kV doc pm an cdv ct) [a] [] ∧ FnScope [a, n] [a] sg ∧ Vis sg a ∧
    sg.names.lookup x = some .globalImplicit ∧ mg x = some (.ref C) ∧ (x == ("__debug__" : Str)) = false ∧ a ≠ n ∧ sg.names.lookup n = some .local ∧ XfC K C ∧ PySem.W.findIn K (.ref C) f = some none ∧ (n == ("__debug__" : Str)) = false ∧ (n == ("__classdict__" : Str)) = false ∧
    (a == ("__debug__" : Str)) = false ∧ (a == ("__classdict__" : Str)) = false ∧ PySem.W.exmOne K (.ref C) (.ref C) = some true
section
variable {c : Ct} {X : Cx}
theorem pd_met {xg x f w1 w2 : Str} {k : Nat} {params : Arguments} {body : Expr} {scope : Scope} {p lpos pos : Pos} {de : (Exc → Nat → Prop) → DE} (R : MetD X.prog X.w X.K X.mg xg x f w1 w2) (LA : LamAt c.T X) (hr : Room (k + 2) X.A) (hg : Gl X xg) (L : LamS X.env.scope scope)
    (hde : ∀ (A : Around) (outer : List Env) (s : Shared) (H : Hp) (E : XK) (fL c' : Addr) (G0 H0 : Hp) (n0 : Nat) (ED : Exc → Nat → Prop), Room k (A.deeper (lamEnv X scope s.heap.objs.size fL c')) → Lnk ⟨c.T, G0, H0, n0, E, ED⟩ X.K X.mg → PDE ⟨c.T, G0, H0, n0, E, ED⟩ (lamCx X A outer s H E scope fL c') body (de ED))
    (hdef : defaultsOf params X.env = ([], []) := by rfl) (hbind : ∀ (q : Str) (cl : List (Str × Addr)) (pm cv ctv : Value), bindArgs (PySem.W.kla_fn "<lambda>" q params body scope cl pm cv ctv) ⟨[], []⟩ = pure [] := by intros; rfl) (hdb : (xg == ("__debug__" : Str)) = false := by decide) :
    PDE c X (.Call (.Name xg p) [.Lambda params body scope lpos] [] pos) (dMet x f w1 w2 de) := by
  obtain ⟨g, C, a, n, j1, j2, k1, k2, p1, p2, p3, p4, p5, p6, p7, p8, p9, p10, p11, p12, p13, pg, sg, oc, kV, doc, pm, cdv, ct, an, od, osl, hm, hk, lk, hcg, hb, Sg, hva, hge, hme, hde', hna, hln, hT, hno, hdn, hcn, hda, hca, hex⟩ := R.ex
  obtain ⟨cda, Pt, TB, hcode, hmT, hu⟩ := LA.ex
  have G1 := met_gives (X := X) (x := xg) (a := a) (q := X.env.qual ++ "<lambda>") (sg := sg) (g := g) (C := C) (cdg := cdv) (f := f) (w1 := w1) (w2 := w2) (j1 := j1) (j2 := j2) (k1 := k1) (k2 := k2) (p1 := p1) (p2 := p2) (p3 := p3) (p4 := p4) (p5 := p5) (p6 := p6) (p7 := p7) (p8 := p8) (p9 := p9) (p10 := p10) (p11 := p11) (p12 := p12) (p13 := p13) hge hme hde' hna hln hT hno hdn hcn
  refine ⟨_, LamX.pe_lamcall (t := fun E σ H Q => ∃ G0 H0 n0 ED, Lnk ⟨c.T, G0, H0, n0, E, ED⟩ X.K X.mg ∧ canE ⟨c.T, G0, H0, n0, E, ED⟩ X.K X.mg (de ED) σ H Q) hg hm hk lk hcg hb Sg rfl hva G1 TB hcode hmT hu hr L hdef hbind (fun A outer s H E fL c' hr2 => ?_) hdb hda hca, ?_⟩
  · refine ⟨fun pins s2 σ H2 Q I hq => ?_⟩
    obtain ⟨G0, H0, n0, ED, hL, hq⟩ := hq
    exact (hde A outer s H E fL c' G0 H0 n0 ED hr2 hL).can.run pins s2 σ H2 Q I hq
  · intro σ G H S Qd Q R hQ h
    refine ⟨R.tabs.ext R.sub, fun H1 eN T1 => ?_⟩
    obtain ⟨G1, gw, tb1⟩ := gw_lam R.sub R.tabs eN T1
    have R1 := R.gw0 gw
    have A1 := Aft.gw0 R gw
    have RL := R1.enter
    refine ⟨G1, H1, S.n, _, ⟨fun x' f' d k' v C' dd G' H' hk' gw' hx hd r q => ?_⟩, G1, ⟨noOwn S.sl, S.n⟩, _, RL.reE, fun v H' hW => ?_, h⟩
    · obtain ⟨d', e1, q⟩ := q
      cases e1
      rw [hme] at hx
      cases hx
      refine ⟨true, hex, fun _ => ⟨rfl, dd, _, v, rfl, hd, by simp [List.lookup], fun p np => ?_⟩, fun z => nomatch z⟩
      have A2 := A1.trans (Aft.gw R1 gw' hk')
      have A3 := Aft.gw0 A2.rp (.alloc (o := .tup [.str w2, v]) A2.rp.sub np)
      exact hQ _ _ ⟨_, ⟨S.sl, S.n - k'⟩, _, A2.trans A3, .tup (SqT.of upd_same) (.cons (.str w2) (.cons (A3.rep r) .nil)), q (Nat.sub_le _ _)⟩
    · obtain ⟨G2, S2, d, A2, r2, e2, q2⟩ := hW
      obtain ⟨sl2, n2⟩ := S2
      have e2' : sl2 = noOwn S.sl := e2
      subst e2'
      refine ⟨by rw [sizeLine_eq]; show 2 ≤ 16777216; omega, fun p np => ?_⟩
      have A3 := A1.trans (R1.exit (A2.rp.reE (E := c.E) (ED := c.ED)))
      have A4 := Aft.gw0 A3.rp (.alloc (o := .tup [.str w1, v]) A3.rp.sub np)
      exact hQ _ _ ⟨_, ⟨S.sl, n2⟩, _, A3.trans A4, .tup (SqT.of upd_same) (.cons (.str w1) (.cons (A4.rep r2) .nil)), q2⟩
end
end DL
set_option maxHeartbeats 2000000
/-! DL2: defs that are run while no repr is under way -/
namespace DL
open PySem PySem.Spec PyProof.Rows L2
open LamX (run_ofS)
structure FnG (P : Program) (w : World) (K : PySem.W.Frag) (mg : MG) (base : Heap) (CX : CXT) (k : Nat) (f : Addr) (fd : FuncData) (ps : List Str) (sp : Sp) : Prop where
  len : ∀ vs H Q E, sp vs H Q E → vs.length = ps.length
  run : ∀ (A : Around) (outer : List Env) (s : Shared) (H : Hp) (args : Args) (us : List Value) (vs : List V) (Q : VK) (E : XK), Room k A → A.guards = some [] → Env0 P w K mg base A outer s H → BindsTo s fd args (ps.zip us) → Vals vs us → sp vs H Q E →
    codeAny (model P w) A (.call (.ref f) args) (CR CX outer P w H s Q E) s
structure CalG (P : Program) (w : World) (K : PySem.W.Frag) (mg : MG) (base : Heap) (T : TT0) (CX : CXT) (k : Nat) (x : Str) (st : Stmt) (ps : List Str) (m : MT) : Prop where
  ex : ∃ f fd, Fun K x x st f fd ∧ FnG P w K mg base CX k f fd ps (spD T K mg ps.length m) ∧ mg x = some (.ref f)
  ar : ∀ ds n Q E, m ds n Q E → ds.length = ps.length
section
variable {P : Program} {w : World} {K : PySem.W.Frag} {mg : MG} {base : Heap} {T : TT0}
theorem CalG.at_ {CX : CXT} {k : Nat} {x : Str} {st : Stmt} {ps : List Str} {m : MT} (h : CalG P w K mg base T CX k x st ps m) : ∃ f, mg x = some (.ref f) := by
  obtain ⟨f, fd, a, b, d⟩ := h.ex
  exact ⟨f, d⟩
theorem okDLG {x : Str} {st : Stmt} {f : Addr} {N ps : List Str} {k : Nat} {m : MT} (F : FunL K mg base T x st f) (hm : mg x = some (.ref f)) (S : FnScope N ps (defScope st)) (har : ∀ ds n Q E, m ds n Q E → ds.length = ps.length)
    (hbody : ∀ (cdv : Value) (A : Around) (outer : List Env) (s : Shared) (G H : Hp) (n : Nat) (E : XK) (ED : Exc → Nat → Prop), Room k (A.deeper (envOfC x (defScope st) s.heap.objs.size f cdv)) → A.guards = some [] → LamAt T (cxOf CX0 P w K mg base N x (defScope st) f cdv A outer s H E).nox →
      ∃ dsb, PDSs ⟨T, G, H, n, E, ED⟩ (cxOf CX0 P w K mg base N x (defScope st) f cdv A outer s H E).nox (defBody st) dsb ∧
        ∀ ds Qd, ds.length = ps.length → m ds n Qd ED → dsb { nx := fun S => Qd .non S.n, rt := fun d S => Qd d S.n } (ent N ds n)) : CalG P w K mg base T CX0 (k + 1) x st ps m := by
  obtain ⟨oc, od, kV, doc, pm, an, ct, osl, cda, Pt, lk, hcd, TB, h1, h2⟩ := F.ex
  refine ⟨⟨f, _, fun_mk lk hcd F.kp, ⟨fun vs H Q E h => h.1, fun A outer s H args us vs Q E hr hg e0 hb r h => ?_⟩, hm⟩, har⟩
  refine run_ofS lk hcd S hr e0 hb r h.1 fun hr' => ?_
  obtain ⟨hl, G, ds, n, Qd, ED, q1, q2, q3, q4, q5, q6⟩ := h
  obtain ⟨dsb, ⟨t, b1, b2⟩, b3⟩ := hbody (.ref cda) A outer s G H n E ED hr' hg ⟨cda, Pt, TB, rfl, h1, h2⟩
  exact ⟨t, b1.nox, simDef (ps := ps) (m := m) q1 q2 q3 q5 b2 (b3 ds Qd (q3.length.symm.trans hl) q4)⟩
end
section
variable {c : Ct} {X : Cx}
theorem pe_callFG {CX : CXT} {k : Nat} {f : Addr} {fd : FuncData} {ps : List Str} {sp : Sp} {E : XK} {x : Str} {p pos : Pos} {e : Expr} {es : List Expr} {t : TA} (F : FnG X.prog X.w X.K X.mg X.base CX k f fd ps sp) (hr : Room k X.A) (hgd : X.A.guards = some []) (hg : Gl X x) (hm : X.mg x = some (.ref f)) (hk : PySem.W.keepIn X.K (.ref f) = true) (hb : Binds X.K fd ps []) (hx : Passes CX X E)
    (ha : PA X (e :: es) t) (hdb : (x == ("__debug__" : Str)) = false) (he : starEach (e :: es) X.env = (false, eval e X.env) :: starEach es X.env) (hpl : (backTo pos (starEach es X.env)).any (·.1) = false) :
    PE X (.Call (.Name x p) (e :: es) [] pos) (tCall sp [] E t) := by
  refine ⟨fun pins s σ H Q I h => ?_⟩
  refine wpAny_Call_Name_kw (ld_glob I hg hm ?_ hdb)
  refine PySem.W.callWith_K (h₀ := X.base) I.ok.mod.kin hk (thn (ha.run pos pins s σ H _ I h) fun us s1 ⟨vs, H1, I1, r, q⟩ => ⟨I1.kIn, ?_⟩) he hpl
  have r2 : Vals (vs ++ []) (us ++ []) := r.append .nil
  have hl : (us ++ []).length = ps.length := by rw [← r2.length]; exact F.len _ _ _ _ q
  refine wpAny_call (codeAny_mono (F.run X.A X.stack s1 H1 ⟨us, []⟩ (us ++ []) (vs ++ []) Q E hr hgd I1.env0 (hb s1 us I1.kIn hl) r2 q) fun r' s' hq => ?_)
  cases r' with
  | error e => exact hx pins σ H1 s1 e s' I1 hq
  | ok fl =>
    cases fl with
    | ret u => exact I1.after hq
    | next => exact False.elim hq
    | brk => exact False.elim hq
    | cont => exact False.elim hq
theorem pd_callFG {k : Nat} {x : Str} {st : Stmt} {ps : List Str} {m : MT} {a : Expr} {es : List Expr} {das : DA} {p pos : Pos} (C : CalG X.prog X.w X.K X.mg X.base c.T CX0 k x st ps m) (hr : Room k X.A) (hgd : X.A.guards = some []) (hg : Gl X x)
    (hb : ∀ (kV doc pm : Value) (an : Option Addr) (cdv ct : Value) (us : List Value), us.length = ps.length → bindArgs (PySem.W.fnOf x x (defArgs st) (defBody st) (defScope st) .none kV doc pm an cdv ct) ⟨us, []⟩ = pure (ps.zip us))
    (ha : PDA c X (a :: es) das) (hdb : (x == ("__debug__" : Str)) = false := by decide) (he : starEach (a :: es) X.env = (false, eval a X.env) :: starEach es X.env := by rfl) (hpl : (backTo pos (starEach es X.env)).any (·.1) = false := by rfl) :
    PDE c X (.Call (.Name x p) (a :: es) [] pos) (dCall ED0 m das) := by
  obtain ⟨f, fd, F, G, hm⟩ := C.ex
  obtain ⟨ta, a1, a2⟩ := ha
  exact ⟨_, pe_callFG G hr hgd hg hm F.kp (F.binds hb) (pass0 (X := X)) a1 hdb he hpl, simCall a2 C.ar fun _ _ _ _ _ _ _ _ _ _ _ _ _ _ _ _ _ _ _ z => z.elim⟩
end
end DL
set_option maxHeartbeats 1000000
/-! DL3: words of the walk over texts -/
namespace DL
open PySem PySem.Spec PyProof.Rows L2
theorem w_str {x : Str} {Q : Str → Prop} : (∃ k, D.str x = .str k ∧ Q k) = Q x := by
  apply propext
  constructor
  · rintro ⟨z, h, q⟩
    cases h
    exact q
  · intro q
    exact ⟨x, rfl, q⟩
theorem w_strI {i : Int} (h : i.natAbs.log2 < 1920) : gStrI [.int i] = some (.str (toString i)) := if_pos h
theorem w_lenS {x : Str} (h : x.length ≤ 16777216) : gLen [.str x] = some (.int x.length) := if_pos h
theorem w_slS {x : Str} {lo hi : Option Int} (h : x.length ≤ 16777216) : gSl (.str x) lo hi = some (.str (cutS x lo hi)) := if_pos h
theorem w_addS' {a b : Str} (h : a.length + b.length ≤ 16777216) : gAdd (.str a) (.str b) = some (.str (a ++ b)) := if_pos h
theorem w_eqS {a b : Str} : gEq (.str a) (.str b) = some (.bl (decide (a = b))) := rfl
theorem w_neS {a b : Str} : gNe (.str a) (.str b) = some (.bl (!decide (a = b))) := rfl
theorem log_small {i : Int} (h0 : -(2 ^ 64) < i) (h1 : i < 2 ^ 64) : i.natAbs.log2 < 1920 := by
  have h : i.natAbs < 2 ^ 64 := by omega
  by_cases hz : i.natAbs = 0
  · rw [hz]
    decide
  · have := (Nat.log2_lt hz).mpr h
    omega
end DL
set_option maxHeartbeats 1000000
/-! DLy: the head's facts, the end -/
namespace DL
open PySem PySem.Spec PyProof.Rows L2 He
/-! ### an own __init__ with super() -/
abbrev FnQ : Type := Option (Str × Str × Arguments × FuncBody × Scope × Addr × List Str × Value × Addr)
def qObs (K : PySem.W.Frag) (C : Str) : FnQ := match K.lookup (ma K (ga K C) "__init__") with
  | some ⟨_, _, .func fd, _⟩ => some (fd.name, fd.qualname, fd.params, fd.body, fd.scope, fd.globals, fd.closure.map (·.1), fd.defaults, fd.builtins)
  | _ => none
structure DefQ where
  cls : Str
  qual : Str
  params : Arguments
  body : List Stmt
  scope : Scope
def DefQ.val (d : DefQ) : FnQ := some ("__init__", d.qual, d.params, .stmts d.body, d.scope, mainGlobals, ["__class__"], .none, builtinsNs)
/-- what the module's names reach, the statics of the world -/
def frY (g : Addr → Option Obj) (n : Nat) : PySem.W.Frag := frT g (asD g n ++ [cStatics])
abbrev AlY : Type := AlT × Bool × List FnQ
def obsY (n : Nat) (fa : List Fa) (fn : List DefD) (ts : List Tab) (tf : List Defn) (ex : PySem.W.Frag → Bool) (qs : List DefQ) (g : Addr → Option Obj) : AlY :=
  (obsT fa fn ts (frY g n), ex (frY g n) && tabsB g tf (frY g n), qs.map fun d => qObs (frY g n) d.cls)
theorem saysY_of {n : Nat} {fa : List Fa} {fn : List DefD} {ts : List Tab} {tf : List Defn} {ex : PySem.W.Frag → Bool} {qs : List DefQ} {w : World} {h : Heap} (e : obsY n fa fn ts tf ex qs h.get? = (valT fn ts w, true, qs.map DefQ.val)) :
    SaysX fa fn ts tf ex w h (frY h.get? n) ∧ (qs.map fun d => qObs (frY h.get? n) d.cls) = qs.map DefQ.val := by
  have e1 := congrArg (fun z : AlY => z.1) e
  have e2 : (ex (frY h.get? n) && tabsB h.get? tf (frY h.get? n)) = true := congrArg (fun z : AlY => z.2.1) e
  have e3 := congrArg (fun z : AlY => z.2.2) e
  obtain ⟨h1, h2⟩ := ba e2
  refine ⟨⟨e1, h1, fun p hp => (ba (List.all_eq_true.mp h2 p hp)).1, fun p hp => ?_, fun p hp => ?_⟩, e3⟩
  · have h4 := (ba (List.all_eq_true.mp h2 p hp)).2
    split at h4
    · rename_i o q
      exact frT_none q h4
    · cases h4
  · have h4 := (ba (List.all_eq_true.mp h2 p hp)).2
    split at h4
    · rename_i o q
      rw [q, emptyTab_eq h4]
    · cases h4
def hookY (n : Nat) (fa : List Fa) (fn : List DefD) (ts : List Tab) (tf : List Defn) (ex : PySem.W.Frag → Bool) (qs : List DefQ) : PySem.W.Hook where
  α := AlY
  obs := fun s => obsY n fa fn ts tf ex qs s.heap.get?
  val := fun w => (valT fn ts w, true, qs.map DefQ.val)
  says := fun w h => ∃ K : PySem.W.Frag, K.In h ∧ SaysX fa fn ts tf ex w h K ∧ (qs.map fun d => qObs K d.cls) = qs.map DefQ.val
  of := fun _ _ e => ⟨_, frT_in, saysY_of e⟩
  keeps := fun _ _ _ ⟨K, hK, c, q⟩ k => ⟨K, PySem.W.Frag.In.keeps hK k, ⟨c.t, c.more, c.hd, c.out, fun p hp => k _ _ (c.empty p hp)⟩, q⟩
theorem obsY_eq {n : Nat} {fa : List Fa} {fn : List DefD} {ts : List Tab} {tf : List Defn} {ex : PySem.W.Frag → Bool} {qs : List DefQ} {g : Addr → Option Obj} {s : Shared} (h : ∀ a, g a = s.heap.get? a) : obsY n fa fn ts tf ex qs g = (hookY n fa fn ts tf ex qs).obs s := by
  have e : g = s.heap.get? := funext h
  rw [e] <;> rfl
def oexB (K : PySem.W.Frag) (C : Addr) : Bool := match K.lookup C with
  | some ⟨.type "type", _, .cls cd, sl⟩ => (match cd.mro, sl.toList with
    | .ref C' :: bm, [_, _, _, _, some (.builtin n), _] => C' == C && n == "ValueError.__new__" && !cd.hasDel && cd.hasDict && PySem.HandSPX.refsVE bm
    | _, _ => false)
  | _ => false
theorem oexB_ok {K : PySem.W.Frag} {C : Addr} (q : oexB K C = true) : ∃ nm q N bs bm sn sub ab col dd k0 k1 k2 k3 k5, K.lookup C = some (excClassObj nm q C N bs bm true sn sub ab col dd k0 k1 k2 k3 k5 "ValueError.__new__") ∧ PySem.HandSPX.refsVE bm = true := by
  unfold oexB at q
  split at q
  · rename_i dd cd sl ho
    split at q
    · rename_i C' bm k0 k1 k2 k3 n k5 hm hs
      simp only [Bool.and_eq_true, beq_iff_eq, Bool.not_eq_true'] at q
      obtain ⟨⟨⟨⟨rfl, rfl⟩, hdel⟩, hdi⟩, ht⟩ := q
      obtain ⟨nm, bs, mro, ns, qn, hd, sn, sub, ab, col, del⟩ := cd
      dsimp only at hm hdel hdi
      subst hm hdel hdi
      have hsl : sl = #[k0, k1, k2, k3, some (.builtin "ValueError.__new__"), k5] := by
        obtain ⟨l⟩ := sl
        simp only at hs
        rw [hs]
      subst hsl
      exact ⟨nm, qn, ns, bs, bm, sn, sub, ab, col, dd, k0, k1, k2, k3, k5, ho, ht⟩
    · cases q
  · cases q
def fnQB (K : PySem.W.Frag) (C fI : Addr) (qual file : Str) : Bool := match K.lookup fI with
  | some ⟨_, _, .func fd, _⟩ => PySem.W.codeIn K fd.code qual && ((match fd.code with
    | .ref cda => (match K.lookup cda with
      | some ⟨_, _, .fields vs, _⟩ => (match (vs[2]? : Option Value) with
        | some (Value.str z _) => decide (z = file)
        | _ => false)
      | _ => false)
    | _ => false) && (match fd.closure with
    | [(_, cc)] => (match K.lookup cc with
      | some ⟨_, _, .cell (some (.ref C')), _⟩ => decide (C' = C)
      | _ => false)
    | _ => false))
  | _ => false
theorem fnQB_ok {K : PySem.W.Frag} {C : Addr} {d : DefQ} {file : Str} (e : qObs K d.cls = d.val) (hc : ga K d.cls = C) (h : fnQB K C (ma K C "__init__") d.qual file = true) :
    ∃ (oc : Value) (od : Option Addr) (kV doc pm ct : Value) (an : Option Addr) (osl : Array (Option Value)) (cda cc : Addr) (ccl cl : Value) (cdd cld : Option Addr) (vs : Array Value) (ccs csl : Array (Option Value)) (tf : Tok),
    K.lookup (ma K C "__init__") = some ⟨oc, od, .func (PySem.W.ksFn "__init__" d.qual d.params d.body d.scope .none kV doc pm an (.ref cda) ct cc), osl⟩ ∧ PySem.W.codeIn K (.ref cda) d.qual = true ∧
    K.lookup cda = some ⟨ccl, cdd, .fields vs, ccs⟩ ∧ vs[2]? = some (.str file tf) ∧ K.lookup cc = some ⟨cl, cld, .cell (some (.ref C)), csl⟩ := by
  unfold qObs at e
  rw [hc] at e
  unfold fnQB at h
  split at h
  · rename_i oc od fd osl ho
    rw [ho] at e
    obtain ⟨h1, h2⟩ := ba h
    obtain ⟨h3, h4⟩ := ba h2
    obtain ⟨n1, n2, n3, n4, n5, n6, n7, n8, n9, n10, n11, n12, n13, n14, n15⟩ := fd
    have e2 : (some (n1, n2, n3, n4, n5, n6, n7.map (·.1), n8, n15) : FnQ) = (some ("__init__", d.qual, d.params, .stmts d.body, d.scope, mainGlobals, ["__class__"], .none, builtinsNs) : FnQ) := e
    simp only [Option.some.injEq, Prod.mk.injEq] at e2
    obtain ⟨r1, r2, r3, r4, r5, r6, r7, r8, r9⟩ := e2
    simp only at h1 h3 h4
    split at h3
    · rename_i _ cda
      split at h3
      · rename_i ccl cdd vs ccs hlc
        split at h3
        · rename_i z tf hz
          split at h4
          · rename_i _ y cc
            split at h4
            · rename_i cl cld C' csl hcc
              have e3 : C' = C := of_decide_eq_true h4
              have e4 : z = file := of_decide_eq_true h3
              subst e3 e4 r1 r2 r3 r4 r5 r6 r8 r9
              have r7' : y = "__class__" := by simpa using r7
              subst r7'
              exact ⟨oc, od, n9, n10, n11, n14, n12, osl, cda, cc, ccl, cl, cdd, cld, vs, ccs, csl, tf, ho, h1, hlc, hz, hcc⟩
            · cases h4
          · cases h4
        · cases h3
      · cases h3
    · cases h3
  · cases h
def initB (x qual file f : Str) (K : PySem.W.Frag) : Bool :=
  oexB K (ga K x) && (eqO (PySem.W.findIn K (.ref (ga K x)) "__setattr__") (some (some (.builtin "object.__setattr__"))) && (decide (PySem.W.subIn K (.ref (ga K x)) (.type "BaseException") = some true) && (decide (PySem.W.typeIn K (.ref (ga K x)) = some (.type "type")) && (PySem.W.keepIn K (.ref (ga K x)) &&
  (eqO (PySem.W.findIn K (.ref (ga K x)) "__init__") (some (some (.ref (ma K (ga K x) "__init__")))) && (decide (PySem.W.typeIn K (.ref (ma K (ga K x) "__init__")) = some (.type "function")) && (fnQB K (ga K x) (ma K (ga K x) "__init__") qual file &&
  (eqO (PySem.W.ks_superIn K (ga K x) (ga K x) "__init__") (some (some (.builtin "ValueError.__init__"))) && (decide (PySem.W.subIn K (.ref (ga K x)) (.type "ValueError") = some true) && (decide (PySem.W.mroIn K (ga K x) (.ref (ga K x)) = some true) && (eqO (PySem.W.nsIn K cStatics "thirdparty.any") (some none) && eqO (PySem.W.findIn K (.ref (ga K x)) f) (some none))))))))))))
theorem initB_ok {P : Program} {K : PySem.W.Frag} {d : DefQ} {file f : Str} (e : qObs K d.cls = d.val) (h : initB d.cls d.qual file f K = true) (hP : P.main.file = file) : InitC P K (ga K d.cls) (ma K (ga K d.cls) "__init__") d.qual d.params d.body d.scope f := by
  obtain ⟨a1, h⟩ := ba h
  obtain ⟨a2, h⟩ := ba h
  obtain ⟨a3, h⟩ := ba h
  obtain ⟨a4, h⟩ := ba h
  obtain ⟨a5, h⟩ := ba h
  obtain ⟨a6, h⟩ := ba h
  obtain ⟨a7, h⟩ := ba h
  obtain ⟨a8, h⟩ := ba h
  obtain ⟨a9, h⟩ := ba h
  obtain ⟨a10, h⟩ := ba h
  obtain ⟨a11, h⟩ := ba h
  obtain ⟨a12, a13⟩ := ba h
  obtain ⟨oc, od, kV, doc, pm, ct, an, osl, cda, cc, ccl, cl, cdd, cld, vs, ccs, csl, tf, b1, b2, b3, b4, b5⟩ := fnQB_ok e rfl a8
  exact ⟨⟨oexB_ok a1, eqO_ok a2, of_decide_eq_true a3, of_decide_eq_true a4, a5⟩, eqO_ok a6, of_decide_eq_true a7, ⟨oc, od, kV, doc, pm, ct, an, osl, cda, cc, ccl, cl, cdd, cld, vs, ccs, csl, file, tf, b1, b2, b3, b4, hP, b5⟩, eqO_ok a9, of_decide_eq_true a10, of_decide_eq_true a11, eqO_ok a12, eqO_ok a13⟩
def refB (x f : Str) (K : PySem.W.Frag) : Bool := xfB K (ga K x) && (eqO (PySem.W.findIn K (.ref (ga K x)) f) (some none) && decide (PySem.W.exmOne K (.ref (ga K x)) (.ref (ga K x)) = some true))
/-! ### defs -/
section
variable {K : PySem.W.Frag} {mg : MG} {base : Heap} {T : TT0} {x : Str} {st : Stmt} {f : Addr} {fd : FuncData}
theorem fun_of (F : FunD K x x (defArgs st) (defBody st) (defScope st) [] [] f fd) : Fun K x x st f fd := by
  obtain ⟨⟨oc, od, dV, kV, doc, pm, an, cdv, ct, osl, rfl, lk, hcd, hd, hk⟩, kp⟩ := F
  have e : dV = .none := hd.elim (·.2) fun h => absurd rfl h.1
  subst e
  exact ⟨⟨oc, od, kV, doc, pm, an, cdv, ct, osl, rfl, lk, hcd⟩, kp⟩
theorem funL_of (F : FunD K x x (defArgs st) (defBody st) (defScope st) [] [] (fAd K (x, none)) fd) (TB : LamX.TabB base mg (cT K (x, none)).1 (cT K (x, none)).2) (hT : ((cT K (x, none)).2, (x ++ ".<locals>.") ++ "<lambda>") ∈ T)
    (hu : ∀ p ∈ T, p.1 = (cT K (x, none)).2 → p.2 = (x ++ ".<locals>.") ++ "<lambda>") : FunL K mg base T x st (fAd K (x, none)) := by
  obtain ⟨⟨oc, od, dV, kV, doc, pm, an, cdv, ct, osl, rfl, lk, hcd, hd, hk⟩, kp⟩ := F
  have e : dV = .none := hd.elim (·.2) fun h => absurd rfl h.1
  subst e
  obtain ⟨cda, rfl⟩ := codeIn_ref hcd
  have e2 : (cT K (x, none)).1 = cda := codeOf_eq lk rfl
  rw [e2] at TB
  exact ⟨⟨oc, od, kV, doc, pm, an, ct, osl, cda, _, lk, hcd, TB, hT, hu⟩, kp⟩
end
/-! ### the end -/
section
variable {l : PySem.W.OpenLaw} {w : World} {K : PySem.W.Frag} {mg : MG} {h : Heap} {fa : List Fa} {fn : List DefD} {ts : List Tab} {tf : List Defn} {ex : PySem.W.Frag → Bool}
def tbs (K : PySem.W.Frag) (tf : List Defn) : TT0 := tf.map fun p => ((cT K p).2, (p.1 ++ ".<locals>.") ++ "<lambda>")
theorem law_at {a : Addr} {k n N0 : Nat} {x : Str} {st : Stmt} {m : MT} {fd : FuncData} (KX : K.In h) (c : SaysX fa fn ts tf ex w h K) (hm : mg "law" = some (.ref a)) (F : Fun K "law" "law" st a fd) (hb : ∀ (s : Shared) (u : Value), BindsTo s fd ⟨[u], []⟩ [(x, u)])
    (hsp : ∀ (ns : List Int), ns.length ≤ n → (∀ z ∈ ns, Builtin.Int.intBits z ≤ 1048576) → m [.lst (ns.map .int)] N0 (fun d _ => d = .bl true) ED0)
    (hF : ∀ base : Heap, K.In base → base.Ns mainGlobals mg → (∀ p ∈ tf, LamX.TabB base mg (cT K p).1 (cT K p).2) → CalD l.prog w K mg base (tbs K tf) CX0 k "law" st [x] m) : LamX.LawAtS l w K CX0 k n x mg a h := by
  refine ⟨fd, tf.map (cT K), spD (tbs K tf) K mg 1 m, fun p hp => ?_, fun p hp => ?_, fun p hp => ?_, hb, fun H b ns hl hbits hH hS => ?_, fun base KB hg hT => ?_⟩
  · obtain ⟨q, hq, e⟩ := List.mem_map.mp hp
    rw [← e]
    exact c.empty q hq
  · obtain ⟨q, hq, e⟩ := List.mem_map.mp hp
    rw [← e]
    exact c.out q hq
  · obtain ⟨q, hq, e⟩ := List.mem_map.mp hp
    rw [← e]
    exact PySem.W.codeHd_of_K KX (c.hd q hq)
  · refine ⟨rfl, H, [.lst (ns.map .int)], N0, fun d _ => d = .bl true, ED0, .refl H, fun p hp => ?_, .cons (.lst hS (RepAll.ints ns)) .nil, hsp ns hl hbits, fun v d k' G' H' _ _ r q => ?_, fun x' f' d k' v C dd G' H' _ _ _ _ _ z => z.elim⟩
    · obtain ⟨q, hq, e⟩ := List.mem_map.mp hp
      rw [← e]
      exact ⟨#[], hH _ (List.mem_map.mpr ⟨q, hq, rfl⟩), by trivial, fun pos cv hc => nomatch (show (none : Option Value) = some cv from hc)⟩
    · subst q
      cases r
      rfl
  · obtain ⟨f, fd', F', ok, hm'⟩ := (hF base KB hg fun p hp => hT _ (List.mem_map.mpr ⟨p, hp, rfl⟩)).ex
    rw [hm] at hm'
    cases hm'
    obtain ⟨oc, od, kV, doc, pm, an, cdv, ct, osl, -, lk, -⟩ := F.ex
    obtain ⟨oc', od', kV', doc', pm', an', cdv', ct', osl', -, lk', -⟩ := F'.ex
    rw [lk] at lk'
    cases lk'
    exact ok
end
end DL
set_option maxHeartbeats 2000000
/-! DL4: the end of a law that is run while no repr is under way -/
namespace DL
open PySem PySem.Spec PyProof.Rows L2 LamX
/-! ### the start of a law's run -/
abbrev tabO : Obj := { cls := .none, data := .fields #[] }
/-- what is tracked from the start: the tables T, still empty, and the script at a, where the module does not hold it -/
structure Strt (h : Heap) (H : Hp) (T : List Addr) (a : Addr) (os : Obj) (l : List V) : Prop where
  src : h.get? a = some os
  seq : ∃ vs n, os.data = .seq vs n
  tab : ∀ b ∈ T, h.get? b = some tabO ∧ H b = some (.tbl #[])
  all : ∀ b u, H b = some u → (b ∈ T ∧ u = .tbl #[]) ∨ (b = a ∧ u = .frz os (.lst l))
section
variable {h : Heap} {H : Hp} {T : List Addr} {a : Addr} {os : Obj} {l : List V}
/-- other objects are not tracked -/
theorem Strt.free (S : Strt h H T a os l) {b : Addr} {o : Obj} (e : h.get? b = some o) (n1 : ∀ vs n, o.data ≠ .seq vs n) (n2 : o.data ≠ .fields #[]) : H b = none := by
  cases q : H b with
  | none => rfl
  | some u =>
    rcases S.all b u q with ⟨hb, _⟩ | ⟨hb, _⟩
    · rw [(S.tab b hb).1] at e
      cases e
      exact absurd rfl n2
    · obtain ⟨vs, n, d⟩ := S.seq
      rw [hb, S.src] at e
      cases e
      exact absurd d (n1 vs n)
theorem Strt.hid (S : Strt h H T a os l) {b : Addr} {o : Obj} (e : h.get? b = some o) (n1 : ∀ vs n, o.data ≠ .seq vs n) (n2 : o.data ≠ .fields #[]) : (hidT h H).get? b = some o := hidT_get e (S.free e n1 n2)
theorem Strt.ns (S : Strt h H T a os l) {b : Addr} {m : MG} (n : h.Ns b m) : (hidT h H).Ns b m := by
  obtain ⟨o, es, ep, e, d, r⟩ := n
  exact ⟨o, es, ep, S.hid e (fun vs n z => by rw [d] at z; cases z) (fun z => by rw [d] at z; cases z), d, r⟩
theorem Strt.noLimit (S : Strt h H T a os l) (n : h.NoLimit) : (hidT h H).NoLimit := by
  obtain ⟨m, n1, n2⟩ := n
  exact ⟨m, S.ns n1, n2⟩
theorem Strt.code (S : Strt h H T a os l) {c P : Addr} (C : PySem.W.CodeHd h c P) : PySem.W.CodeHd (hidT h H) c P := by
  obtain ⟨o, us, x1, x2, x3, x4, x5, x6, x7, e, r1, r2, r3, r4⟩ := C
  refine ⟨o, us, x1, x2, x3, x4, x5, x6, x7, S.hid e (fun vs n z => by rw [r2] at z; cases z) (fun z => ?_), r1, r2, r3, r4⟩
  rw [r2] at z
  cases z
  simp at r3
theorem Strt.frag (S : Strt h H T a os l) {K : PySem.W.Frag} (KX : K.In h) (nT : ∀ b ∈ T, K.lookup b = none) (na : H a ≠ none → K.lookup a = none) : K.In (hidT h H) := fun b o e => by
  refine hidT_get (KX b o e) ?_
  cases q : H b with
  | none => rfl
  | some u =>
    rcases S.all b u q with ⟨hb, _⟩ | ⟨hb, _⟩
    · rw [nT b hb] at e
      cases e
    · rw [hb] at e q
      rw [na (by rw [q]; simp)] at e
      cases e
/-- the start's objects stand behind the run; tables may have grown -/
theorem Strt.old (S : Strt h H T a os l) {P : Program} {w : World} {H' : Hp} {h' : Heap} (un : Un (frs []) [] H H' h h') (ok : HOk P w H' h') (C : ∀ b ∈ T, ∃ c, PySem.W.CodeHd h c b) : OldK h h' := by
  have other : ∀ b o, b ∉ T → h.get? b = some o → h'.get? b = some o := fun b o nb e => by
    cases q : H b with
    | none => exact un.keep b o e q (fun z => nomatch (show b ∈ ([] : List Addr) from z)) (fun z => nomatch z)
    | some u =>
      rcases S.all b u q with ⟨hb, _⟩ | ⟨hb, hu⟩
      · exact absurd hb nb
      · subst hu
        obtain ⟨g, _⟩ := ok b _ (un.frzs b os _ q)
        rw [hb, S.src] at e
        cases e
        exact g
  have table : ∀ b ∈ T, ∃ more : Array Value, h'.get? b = some { cls := .none, data := .fields more } := fun b hb => by
    obtain ⟨more, z⟩ := un.tbls b #[] (S.tab b hb).2
    exact ⟨_, ok b _ z⟩
  constructor
  · intro b o e
    by_cases hb : b ∈ T
    · obtain ⟨more, hm⟩ := table b hb
      obtain ⟨c, hc⟩ := C b hb
      have ht := (S.tab b hb).1
      rw [ht] at e
      cases e
      exact .inr (.inl ⟨(hc.tab ht).isCodeTable, rfl, #[], more, rfl, by rw [Array.empty_append]; exact hm⟩)
    · exact .inl (other b o hb e)
  · intro b o e
    by_cases hb : b ∈ T
    · obtain ⟨more, hm⟩ := table b hb
      exact ⟨_, hm⟩
    · exact ⟨o, other b o hb e⟩
end
section
variable {P : Program} {w : World} {K : PySem.W.Frag} {mg mb : MG} {CX : CXT} {k : Nat} {fa a : Addr} {cs : List (Addr × Addr)} {fd : FuncData} {x : Str} {sp : Sp} {s : Shared} {vs : List Value} {ns : List Int}
abbrev scO (vs : List Value) : Obj := { cls := .type "list", data := .seq vs.toArray }
abbrev GoalG (P : Program) (w : World) (fa a : Addr) (s : Shared) : Prop :=
  codeAny (model P w) callerA (.call (.ref fa) ⟨[.ref a], []⟩) (fun r s' => r = .ok (.ret (.bool true)) ∧ OldK s.heap s'.heap ∧ s'.os = s.os ∧ AllBare s'.gens) s
/-- the run from such a start -/
theorem Strt.run {H : Hp} (S : Strt s.heap H (cs.map (·.2)) a (scO vs) (ns.map V.int)) (ok : HOk P w H s.heap) (KX : K.In s.heap) (hns : s.heap.Ns mainGlobals mg) (hb : s.heap.Ns builtinsNs mb) (hbb : ∀ x : Str, x ≠ "__name__" → mb x = bootBuiltins x) (hlim : s.heap.NoLimit) (hg : s.gens = #[])
    (nT : ∀ p ∈ cs, K.lookup p.2 = none) (C : ∀ p ∈ cs, PySem.W.CodeHd s.heap p.1 p.2) (na : H a ≠ none → K.lookup a = none)
    (hbm : ∃ (bm : Addr) (ob : Obj), mg "__builtins__" = some (.ref bm) ∧ bm ≠ builtinsNs ∧ s.heap.get? bm = some ob ∧ ob.cls = .type "module" ∧ ob.dict = some builtinsNs ∧ ob.data = .plain) (hr : Room k callerA)
    (F : ∀ base : Heap, K.In base → base.Ns mainGlobals mg → (∀ p ∈ cs, TabB base mg p.1 p.2) → FnG P w K mg base CX k fa fd [x] sp) (hbind : ∀ (s : Shared) (u : Value), BindsTo s fd ⟨[u], []⟩ [(x, u)])
    (hsp : sp [.ref a] H (fun v _ => v = .bl true) fun _ _ _ => False) (hCX : ∀ H e s', CX [] H s (fun _ _ _ => False) e s' → False) : GoalG P w fa a s := by
  have inT : ∀ p ∈ cs, p.2 ∈ cs.map (·.2) := fun p hp => List.mem_map.mpr ⟨p, hp, rfl⟩
  have ofT : ∀ b ∈ cs.map (·.2), ∃ p ∈ cs, p.2 = b := fun b hb => List.mem_map.mp hb
  have KB := S.frag KX (fun b hb => by obtain ⟨p, hp, rfl⟩ := ofT b hb; exact nT p hp) na
  have apart : ∀ p ∈ cs, ∀ (b : Addr) (o : Obj), s.heap.get? b = some o → o.data ≠ .fields #[] → b ≠ p.2 := fun p hp b o e hd z => by
    rw [z, (S.tab _ (inT p hp)).1] at e
    cases e
    exact hd rfl
  have TB : ∀ p ∈ cs, TabB (hidT s.heap H) mg p.1 p.2 := fun p hp => by
    obtain ⟨bm, ob, b1, b2, b3, b4, b5, b6⟩ := hbm
    obtain ⟨go, es, ep, g1, g2, _⟩ := hns
    refine ⟨S.code (C p hp), ⟨bm, ob, b1, b2, fun z => ?_, apart p hp bm ob b3 (fun z => by rw [b6] at z; cases z), S.hid b3 (fun vs n z => by rw [b6] at z; cases z) (fun z => by rw [b6] at z; cases z), b4, b5, b6⟩, apart p hp _ go g1 (fun z => by rw [g2] at z; cases z)⟩
    rw [z, g1] at b3
    cases b3
    rw [g2] at b6
    cases b6
  have e0 : Env0 P w K mg (hidT s.heap H) callerA [] s H := ⟨rfl, ⟨KB, S.ns hns, ⟨mb, S.ns hb, hbb⟩, S.noLimit hlim⟩, fun b o e => of_hidT e, Nat.le_of_eq (hidT_size _ _), trivial, (fun b hb => nomatch (show b ∈ ([] : List Addr) from hb)), ok, .of_eq hg⟩
  refine codeAny_mono ((F _ KB (S.ns hns) TB).run callerA [] s H ⟨[.ref a], []⟩ [.ref a] [.ref a] _ _ hr rfl e0 (hbind s (.ref a)) (.cons rfl .nil) hsp) fun r s' q => ?_
  match r, q with
  | .error e, q => exact (hCX H e s' q).elim
  | .ok (.ret u), q =>
    obtain ⟨v, H', q1, q2, q3, q4, q5, q6⟩ := q
    have q7 : v = .bl true := q6
    subst q7
    cases q5
    exact ⟨rfl, S.old q3 q4 (fun b hb => by obtain ⟨p, hp, rfl⟩ := ofT b hb; exact ⟨_, C p hp⟩), q1, q2⟩
  | .ok .next, q => exact q.elim
  | .ok .brk, q => exact q.elim
  | .ok .cont, q => exact q.elim
theorem law_callG (KX : K.In s.heap) (hns : s.heap.Ns mainGlobals mg) (hb : s.heap.Ns builtinsNs mb) (hbb : ∀ x : Str, x ≠ "__name__" → mb x = bootBuiltins x) (hlim : s.heap.NoLimit) (hg : s.gens = #[])
    (hT : ∀ p ∈ cs, s.heap.get? p.2 = some tabO) (nT : ∀ p ∈ cs, K.lookup p.2 = none) (C : ∀ p ∈ cs, PySem.W.CodeHd s.heap p.1 p.2)
    (hbm : ∃ (bm : Addr) (ob : Obj), mg "__builtins__" = some (.ref bm) ∧ bm ≠ builtinsNs ∧ s.heap.get? bm = some ob ∧ ob.cls = .type "module" ∧ ob.dict = some builtinsNs ∧ ob.data = .plain)
    (ha : s.heap.get? a = some (scO vs)) (hi : IntsAre vs ns) (hl : ns.length ≤ sizeLine) (hr : Room k callerA)
    (F : ∀ base : Heap, K.In base → base.Ns mainGlobals mg → (∀ p ∈ cs, TabB base mg p.1 p.2) → FnG P w K mg base CX k fa fd [x] sp) (hbind : ∀ (s : Shared) (u : Value), BindsTo s fd ⟨[u], []⟩ [(x, u)])
    (hsp : ∀ H : Hp, (∀ p ∈ cs, H p.2 = some (.tbl #[])) → SqL K H a (ns.map V.int) → sp [.ref a] H (fun v _ => v = .bl true) fun _ _ _ => False)
    (hCX : ∀ H e s', CX [] H s (fun _ _ _ => False) e s' → False) : GoalG P w fa a s := by
  classical
  have rv : Vals (ns.map V.int) vs := vals_ints hi
  have lv : vs.length = ns.length := hi.length
  have isT : ∀ b ∈ cs.map (·.2), s.heap.get? b = some tabO := fun b hb => by
    obtain ⟨p, hp, rfl⟩ := List.mem_map.mp hb
    exact hT p hp
  have naT : a ∉ cs.map (·.2) := fun z => by
    have q := isT a z
    rw [ha] at q
    exact absurd (congrArg Obj.data (Option.some.inj q)) (fun z => by cases z)
  let H : Hp := fun b => if b ∈ cs.map (·.2) then some (.tbl #[]) else if b = a ∧ K.lookup a = none then some (.frz (scO vs) (.lst (ns.map V.int))) else none
  have H1 : ∀ b ∈ cs.map (·.2), H b = some (.tbl #[]) := fun b hb => if_pos hb
  have Ha : H a = if K.lookup a = none then some (.frz (scO vs) (.lst (ns.map V.int))) else none := by
    show (if a ∈ cs.map (·.2) then _ else if a = a ∧ K.lookup a = none then _ else none) = _
    rw [if_neg naT]
    by_cases q : K.lookup a = none
    · rw [if_pos q, if_pos ⟨rfl, q⟩]
    · rw [if_neg q, if_neg fun z => q z.2]
  have S : Strt s.heap H (cs.map (·.2)) a (scO vs) (ns.map V.int) := ⟨ha, ⟨_, _, rfl⟩, fun b hb => ⟨isT b hb, H1 b hb⟩, fun b u e => by
    by_cases hb : b ∈ cs.map (·.2)
    · rw [H1 b hb] at e
      cases e
      exact .inl ⟨hb, rfl⟩
    · have e' : (if b = a ∧ K.lookup a = none then some (HO.frz (scO vs) (.lst (ns.map V.int))) else none) = some u := (if_neg hb).symm.trans e
      split at e'
      · rename_i z
        cases e'
        exact .inr ⟨z.1, rfl⟩
      · cases e'⟩
  have lst : ObjOk P w H s.heap a (.lst (ns.map V.int)) := ⟨by rw [List.length_map]; exact hl, vs, _, rv, ha⟩
  have ok : HOk P w H s.heap := fun b u e => by
    rcases S.all b u e with ⟨hb, rfl⟩ | ⟨rfl, rfl⟩
    · exact isT b hb
    · exact ⟨ha, lst⟩
  refine S.run ok KX hns hb hbb hlim hg nT C (fun z => ?_) hbm hr F hbind (hsp H (fun p hp => H1 _ (List.mem_map.mpr ⟨p, hp, rfl⟩)) ?_) hCX
  · rw [Ha] at z
    by_cases q : K.lookup a = none
    · exact q
    · rw [if_neg q] at z
      exact absurd rfl z
  · cases q : K.lookup a with
    | none =>
      rw [q, if_pos rfl] at Ha
      exact .inl (.inr ⟨_, Ha⟩)
    | some o =>
      have e := KX a o q
      rw [ha] at e
      cases e
      exact .inr ⟨_, vs.toArray, _, q, rfl, rfl, rfl, by rw [List.size_toArray, lv]; exact hl, by simpa using rv⟩
end
def LawAtG (l : PySem.W.OpenLaw) (w : World) (K : PySem.W.Frag) (CX : CXT) (k n : Nat) (x : Str) (mg : MG) (fa : Addr) (h : Heap) : Prop :=
  ∃ (fd : FuncData) (cs : List (Addr × Addr)) (sp : Sp), (∀ p ∈ cs, h.get? p.2 = some { cls := .none, data := .fields #[] }) ∧ (∀ p ∈ cs, K.lookup p.2 = none) ∧ (∀ p ∈ cs, PySem.W.CodeHd h p.1 p.2) ∧ (∀ (s : Shared) (u : Value), BindsTo s fd ⟨[u], []⟩ [(x, u)]) ∧
    (∀ (H : Hp) (a : Addr) (ns : List Int), ns.length ≤ n → (∀ z ∈ ns, Builtin.Int.intBits z ≤ 1048576) → (∀ p ∈ cs, H p.2 = some (.tbl #[])) → SqL K H a (ns.map V.int) → sp [.ref a] H (fun v _ => v = .bl true) fun _ _ _ => False) ∧
    ∀ base : Heap, K.In base → base.Ns mainGlobals mg → (∀ p ∈ cs, TabB base mg p.1 p.2) → FnG l.prog w K mg base CX k fa fd [x] sp
theorem walk_ofG {l : PySem.W.OpenLaw} {n k : Nat} {q : Program} {loose : List Str} {XP : MG → Heap → Prop} {YP : World → Heap → Prop} {d : DefRec} {CX : World → CXT} {x : Str}
    (hn : l.most = some n) (hn2 : n ≤ sizeLine) (hdf : d.params.defaults = []) (hr : Room k callerA)
    (F : ∀ (w : World) (mg : MG) (fa : Addr) (h : Heap), YP w h → h.Ns mainGlobals mg → mg d.name = some (.ref fa) → ∃ K : PySem.W.Frag, K.In h ∧ LawAtG l w K (CX w) k n x mg fa h)
    (hCX : ∀ (w : World) (H : Hp) (s : Shared) (e : Value) (s' : Shared), CX w [] H s (fun _ _ _ => False) e s' → False) :
    PySem.W.WalkO q loose XP YP l.row.toRowW d [] (fun f vs => PySem.call f vs) := by
  refine Att.attach_callB hn hdf fun w s₀ s₁ mg mb fa o pm cd doc a vs ns G Y ho hd hcd hmg hobj hints hlen hbits hg => ?_
  obtain ⟨K, KX, fd, cs, sp, hT, nT, C, hb, hsp, hF⟩ := F w mg fa _ Y G.T.g hmg
  exact law_callG KX G.T.g G.T.b G.T.builtins G.T.nolimit hg hT nT C G.T.bmain hobj hints (Nat.le_trans hlen hn2) hr hF hb (fun H hH hS => hsp H a ns hlen hbits hH hS) fun H e s' => hCX w H s₁ e s'
open He
section
variable {l : PySem.W.OpenLaw} {w : World} {K : PySem.W.Frag} {mg : MG} {h : Heap} {fa : List Fa} {fn : List DefD} {ts : List Tab} {tf : List Defn} {ex : PySem.W.Frag → Bool}
theorem law_atG {a : Addr} {k n N0 : Nat} {x : Str} {st : Stmt} {m : MT} {fd : FuncData} (KX : K.In h) (c : SaysX fa fn ts tf ex w h K) (hm : mg "law" = some (.ref a)) (F : Fun K "law" "law" st a fd) (hb : ∀ (s : Shared) (u : Value), BindsTo s fd ⟨[u], []⟩ [(x, u)])
    (hsp : ∀ (ns : List Int), ns.length ≤ n → (∀ z ∈ ns, Builtin.Int.intBits z ≤ 1048576) → m [.lst (ns.map .int)] N0 (fun d _ => d = .bl true) ED0)
    (hF : ∀ base : Heap, K.In base → base.Ns mainGlobals mg → (∀ p ∈ tf, LamX.TabB base mg (cT K p).1 (cT K p).2) → CalG l.prog w K mg base (tbs K tf) CX0 k "law" st [x] m) : LawAtG l w K CX0 k n x mg a h := by
  refine ⟨fd, tf.map (cT K), spD (tbs K tf) K mg 1 m, fun p hp => ?_, fun p hp => ?_, fun p hp => ?_, hb, fun H b ns hl hbits hH hS => ?_, fun base KB hg hT => ?_⟩
  · obtain ⟨q, hq, e⟩ := List.mem_map.mp hp
    rw [← e]
    exact c.empty q hq
  · obtain ⟨q, hq, e⟩ := List.mem_map.mp hp
    rw [← e]
    exact c.out q hq
  · obtain ⟨q, hq, e⟩ := List.mem_map.mp hp
    rw [← e]
    exact PySem.W.codeHd_of_K KX (c.hd q hq)
  · refine ⟨rfl, H, [.lst (ns.map .int)], N0, fun d _ => d = .bl true, ED0, .refl H, fun p hp => ?_, .cons (.lst hS (RepAll.ints ns)) .nil, hsp ns hl hbits, fun v d k' G' H' _ _ r q => ?_, fun x' f' d k' v C dd G' H' _ _ _ _ _ z => z.elim⟩
    · obtain ⟨q, hq, e⟩ := List.mem_map.mp hp
      rw [← e]
      exact ⟨#[], hH _ (List.mem_map.mpr ⟨q, hq, rfl⟩), by trivial, fun pos cv hc => nomatch (show (none : Option Value) = some cv from hc)⟩
    · subst q
      cases r
      rfl
  · obtain ⟨f, fd', F', ok, hm'⟩ := (hF base KB hg fun p hp => hT _ (List.mem_map.mpr ⟨p, hp, rfl⟩)).ex
    rw [hm] at hm'
    cases hm'
    obtain ⟨oc, od, kV, doc, pm, an, cdv, ct, osl, -, lk, -⟩ := F.ex
    obtain ⟨oc', od', kV', doc', pm', an', cdv', ct', osl', -, lk', -⟩ := F'.ex
    rw [lk] at lk'
    cases lk'
    exact ok
end
end DL
set_option maxHeartbeats 1000000
namespace K5
open PySem PySem.Spec PyProof.Rows L2 DL
def topS (i : Nat) : Stmt := PySem.Challenge.pw_pairrows_k05_whole_texts.main.body.getD i (.Pass ⟨0, 0, 0, 0⟩)
local macro_rules | `(tactic| walk_at "dl") => `(tactic| simp only [dSeq, dRet, dAsg, dIfS, dVar, dC, dOp, dB, dChain, dAnd, dOr, dNot, dAndV, dOrV, dNotV, dCall, dNil, dCons, dFn, dIf, dTup, dLst, dDrop, dNext, dNeg, dSl, dNoPart, dPart, dRaise, dYes, dTupI, dLstI, dStrI, dRg1, dRg2, dEnumL, dEnumT, dRevL, dRevT, dLc, setsD, wipeD, ent, froz,
  List.map_cons, List.map_nil, List.getElem?_cons_zero, List.getElem?_cons_succ, List.set_cons_zero, List.set_cons_succ, List.replicate, List.length_cons, List.length_nil, List.cons_append, List.nil_append, Nat.reduceAdd, Nat.reduceSub,
  w_iteA, w_some, w_none, w_bl, w_bl2, w_int, w_lst, w_tup, w_eq, w_all1, w_all2, w_own0, w_ownP, w_g2T, w_addI, w_addL, w_addT, w_lenT, w_lenL, w_intI, w_intB, if_true, if_false, Bool.false_eq_true, Bool.true_eq_false, Bool.not_true, Bool.not_false, eq_self, true_and, and_true])
section
variable {P : Program} {w : World} {K : PySem.W.Frag} {mg : MG} {base : Heap} {T : TT0}
abbrev s_is_in : Stmt := topS 5
abbrev N_is_in : List Str := ["value", "low", "high"]
theorem sc_is_in : FnScope N_is_in ["value", "low", "high"] (defScope s_is_in) := ⟨rfl, rfl, rfl, by decide +kernel, rfl, by decide +kernel, by decide +kernel⟩
theorem b_is_in (kV doc pm : Value) (an : Option Addr) (cdv ct : Value) (us : List Value) (hl : us.length = (["value", "low", "high"] : List Str).length) : bindArgs (PySem.W.fnOf "is_in" "is_in" (defArgs s_is_in) (defBody s_is_in) (defScope s_is_in) .none kV doc pm an cdv ct) ⟨us, []⟩ = pure ((["value", "low", "high"] : List Str).zip us) := match us, hl with | [_, _, _], _ => rfl
def isIn (lo hi : Int) : D → Bool
  | .int i => decide (lo ≤ i) && decide (i ≤ hi)
  | _ => false
def m_is_in : MT := mt3 fun v lo hi n Q _ => v.isv = true ∧ ∃ i j, lo = .int i ∧ hi = .int j ∧ Q (.bl (isIn i j v)) n
theorem ok_is_in {f : Addr} {fd : FuncData} (F : Fun K "is_in" "is_in" s_is_in f fd) (hm : mg "is_in" = some (.ref f)) (B : Bi mg)    : CalD P w K mg base T CX0 1 "is_in" s_is_in ["value", "low", "high"] m_is_in := by
  refine okD F hm sc_is_in ar3 (fun cdv A outer s G H n E ED hr => ⟨_, (pdss_one (pds_ret (pd_and (pd_callB cd_isi (by rfl) B.isinstance (by decide +kernel) (pda_cons (pdv 0) (pda_cons (pd_ty (t := "int") (by rfl) B.int (by decide +kernel)) pda_nil))) (pd_and (pd_not (pd_callB cd_isi (by rfl) B.isinstance (by decide +kernel) (pda_cons (pdv 0) (pda_cons (pd_ty (t := "bool") (by rfl) B.bool (by decide +kernel)) pda_nil)))) (pd_one (pd_chain od_le od_le (pdv 1) (pdv 0) (pdv 2))))))), fun ds Qd hl h => ?_⟩)
  obtain ⟨v, lo, hi, rfl, hv, i, j, rfl, rfl, hQ⟩ := h
  walk_at "dl"
  rw [w_isInt hv, w_isBl hv]
  walk_at "dl"
  cases v <;> simp_all [D.isInt, D.isBl, isIn, D.isv, g2I, bTrue]
  rename_i x
  by_cases h1 : i ≤ x
  · rw [if_pos h1]
    simpa [h1] using hQ
  · rw [if_neg h1]
    simpa [h1] using hQ
abbrev s_are_in : Stmt := topS 6
abbrev N_are_in : List Str := ["value", "least", "most", "low", "high", "part"]
theorem sc_are_in : FnScope N_are_in ["value", "least", "most", "low", "high"] (defScope s_are_in) := ⟨rfl, rfl, rfl, by decide +kernel, rfl, by decide +kernel, by decide +kernel⟩
theorem b_are_in (kV doc pm : Value) (an : Option Addr) (cdv ct : Value) (us : List Value) (hl : us.length = (["value", "least", "most", "low", "high"] : List Str).length) : bindArgs (PySem.W.fnOf "are_in" "are_in" (defArgs s_are_in) (defBody s_are_in) (defScope s_are_in) .none kV doc pm an cdv ct) ⟨us, []⟩ = pure ((["value", "least", "most", "low", "high"] : List Str).zip us) := match us, hl with | [_, _, _, _, _], _ => rfl
def areIn (l : Int) (m lo hi : Int) (v : List D) : Bool := decide (l ≤ v.length) && decide ((v.length : Int) ≤ m) && v.all (isIn lo hi)
def m_are_in : MT := mt5 fun v l m lo hi n Q _ => v.isv = true ∧ ∃ a b c d, l = .int a ∧ m = .int b ∧ lo = .int c ∧ hi = .int d ∧
  ((∀ xs, v ≠ .tup xs) → Q (.bl false) n) ∧ ∀ xs, v = .tup xs → (∀ x ∈ xs, x.isv = true) ∧ xs.length ≤ 16777216 ∧ Q (.bl (areIn a b c d xs)) n
theorem ok_are_in {f : Addr} {fd : FuncData} (F : Fun K "are_in" "are_in" s_are_in f fd) (hm : mg "are_in" = some (.ref f)) (B : Bi mg)  (C_is_in : CalD P w K mg base T CX0 1 "is_in" s_is_in ["value", "low", "high"] m_is_in)  : CalD P w K mg base T CX0 2 "are_in" s_are_in ["value", "least", "most", "low", "high"] m_are_in := by
  refine okD F hm sc_are_in ar5 (fun cdv A outer s G H n E ED hr => ⟨_, (pdss_one (pds_ret (pd_and (pd_callB cd_isi (by rfl) B.isinstance (by decide +kernel) (pda_cons (pdv 0) (pda_cons (pd_ty (t := "tuple") (by rfl) B.tuple (by decide +kernel)) pda_nil))) (pd_and (pd_chain od_le od_le (pdv 1) (pd_callB cd_len (by rfl) B.len (by decide +kernel) (pda_cons (pdv 0) pda_nil)) (pdv 2)) (pd_one (pd_callB (cd_all rfl) (by rfl) B.all (by decide +kernel) (pda_cons (pd_lc rfl sc_are_in.nd (pdi_tup (pdv 0)) (blkOk_by (own := [("part", 5)]) (N := N_are_in) (sc := defScope s_are_in) (by decide +kernel)) (fun _ _ _ _ _ => pg_name (i := 5) sc_are_in.nd rfl (by first | exact .inl rfl | exact .inr rfl)) (fun _ _ _ _ _ => pdts_nil) (fun _ _ _ _ _ => (pd_callZ C_is_in lk0 (hr.mono (by decide)) (by rfl) b_is_in (pda_cons (pdv 5) (pda_cons (pdv 3) (pda_cons (pdv 4) pda_nil)))))) pda_nil))))))), fun ds Qd hl h => ?_⟩)
  obtain ⟨v, l, m, lo, hi, rfl, hv, a, b, c, d, rfl, rfl, rfl, rfl, h1, h2⟩ := h
  walk_at "dl"
  rw [w_isTup hv]
  walk_at "dl"
  by_cases ht : ∃ xs, v = .tup xs
  · obtain ⟨xs, rfl⟩ := ht
    obtain ⟨hx, hz, hQ⟩ := h2 xs rfl
    rw [show D.isTup (.tup xs) = true from rfl, if_pos rfl]
    walk_at "dl"
    unfold areIn at hQ
    by_cases h3 : a ≤ (xs.length : Int)
    · rw [if_pos (decide_eq_true h3)]
      by_cases h4 : (xs.length : Int) ≤ b
      · rw [if_pos (decide_eq_true h4)]
        refine comp_spec (fun x => some (.bl (isIn c d x))) xs [] (fun x hxm => ⟨_, rfl, fun K hK => ?_⟩) (by simpa using hz) ?_
        · walk_at "dl"
          exact ⟨x, .int c, .int d, rfl, hx x hxm, c, d, rfl, rfl, fun _ => hK⟩
        · rw [fm_map, List.nil_append]
          have e : (xs.map fun x => D.bl (isIn c d x)) = (xs.map (isIn c d)).map .bl := by rw [List.map_map]; rfl
          rw [e, w_all, w_some]
          rw [decide_eq_true h3, decide_eq_true h4] at hQ
          simpa [List.all_map] using hQ
      · rw [if_neg (by simpa using h4)]
        rw [decide_eq_false h4] at hQ
        simpa using hQ
    · rw [if_neg (by simpa using h3)]
      rw [decide_eq_false h3] at hQ
      simpa using hQ
  · have e : v.isTup = false := by cases v <;> first | rfl | exact absurd ⟨_, rfl⟩ ht
    rw [e, if_neg Bool.false_ne_true]
    exact h1 fun xs e => ht ⟨xs, e⟩
abbrev s_demand : Stmt := topS 7
abbrev N_demand : List Str := ["is_good", "name"]
theorem sc_demand : FnScope N_demand ["is_good", "name"] (defScope s_demand) := ⟨rfl, rfl, rfl, by decide +kernel, rfl, by decide +kernel, by decide +kernel⟩
theorem b_demand (kV doc pm : Value) (an : Option Addr) (cdv ct : Value) (us : List Value) (hl : us.length = (["is_good", "name"] : List Str).length) : bindArgs (PySem.W.fnOf "demand" "demand" (defArgs s_demand) (defBody s_demand) (defScope s_demand) .none kV doc pm an cdv ct) ⟨us, []⟩ = pure ((["is_good", "name"] : List Str).zip us) := match us, hl with | [_, _], _ => rfl
def m_demand : MT := mt2 fun v x n Q E => ∃ b, v = .bl b ∧ (b = true → Q .non n) ∧ (b = false → E ("BadArgument", "name", x) n)
theorem ok_demand {f : Addr} {fd : FuncData} (F : Fun K "demand" "demand" s_demand f fd) (hm : mg "demand" = some (.ref f)) (B : Bi mg)   (R_BadArgument : RaiseC P w K mg base "BadArgument" "name")  : CalD P w K mg base T (L2.CX P w) 3 "demand" s_demand ["is_good", "name"] m_demand := by
  have hx {cdv : Value} {A : Around} {outer : List Env} {s : Shared} {H : Hp} {E : XK} : Passes (L2.CX P w) (cxOf (L2.CX P w) P w K mg base N_demand "demand" (defScope s_demand) f cdv A outer s H E) E := passes_call (takes_of rfl rfl rfl rfl) fun _ _ _ _ h => h
  refine okDX F hm sc_demand ar2 (fun cdv A outer s G H n E ED hr L => ⟨_, (pdss_one (pds_if (pdt_not (pdt_val (pdv 0))) (pdss_one (pds_raise R_BadArgument L rfl (takes_of rfl rfl rfl rfl) (hr.mono (by decide)) (by rfl) (pdv 1))) pdss_nil)), fun ds Qd hl h => ?_⟩)
  obtain ⟨v, x, rfl, b, rfl, h1, h2⟩ := h
  cases b
  · walk_at "dl"
    exact h2 rfl
  · walk_at "dl"
    exact h1 rfl
end
end K5
set_option maxHeartbeats 1000000
namespace K5
open PySem PySem.Spec PyProof.Rows L2 DL
local macro_rules | `(tactic| walk_at "dl") => `(tactic| simp only [dSplit, dJoin, dRevS, dMet, w_str, w_strI, w_lenS, w_slS, w_addS', w_eqS, w_neS, dSeq, dRet, dDice, dSortI, dMaxI, dLstRg, dfDictT, dDGetT, dDPutT, dExtend, dExtT, dLenOl, dDst, dPopAt, dParFF, dParFP, dParPF, dAppend, otAt, dDGet2, dDGet, dDIn, dDPut, dCallG, dSpread, dLcD, dctAt, noOwn, gLenD, gdPair, itemD, dAsg, dIfS, dVar, dC, dOp, dB, dChain, dAnd, dOr, dNot, dAndV, dOrV, dNotV, dCall, dNil, dCons, dFn, dIf, dTup, dLst, dDrop, dNext, dNeg, dSl, dNoPart, dPart, dRaise, dYes, dTupI, dLstI, dStrI, dRg1, dRg2, dEnumL, dEnumT, dRevL, dRevT, dLc, setsD, wipeD, dPar, dPar3, dOwn, dfRep, dfLst, dfList, dfDict, dFor, dgTup, dgCons, dgName, dgNil, dAsgG, dgSetIx, olAt, odAt, ent, froz,
  List.map_cons, List.map_nil, List.getElem?_cons_zero, List.getElem?_cons_succ, List.set_cons_zero, List.set_cons_succ, List.replicate, List.length_cons, List.length_nil, List.cons_append, List.nil_append, Nat.reduceAdd, Nat.reduceSub, Nat.reduceLeDiff,
  w_iteA, w_some, w_none, w_bl, w_bl2, w_int, w_lst, w_tup, w_eq, w_mulL, w_mulR, w_mod, w_div, Int.reduceLT, Int.reduceNeg, Int.reducePow, Int.reduceAdd, Int.reduceSub, Int.reduceMul, and_self, w_cons, w_set, w_lrange, w_lrange1, w_ltup, w_llst, w_par, w_par3, w_tupL, w_tupT, w_listL, w_listT, w_all1, w_all2, w_own0, w_ownP, w_g2T, w_addI, w_addL, w_addT, w_lenT, w_lenL, w_intI, w_intB, w_eqI, w_neI, w_eqB, w_neB, w_ixT, w_ixL, w_slL, w_slT, w_keyI, w_keyS, w_ex, w_two, w_three, if_true, if_false, Bool.false_eq_true, Bool.true_eq_false, Bool.not_true, Bool.not_false, eq_self, true_and, and_true])
section
variable {P : Program} {w : World} {K : PySem.W.Frag} {mg : MG} {base : Heap} {T : TT0}



abbrev s_are_blocks : Stmt := topS 12
abbrev N_are_blocks : List Str := ["order", "value", "block"]
theorem sc_are_blocks : FnScope N_are_blocks ["order", "value"] (defScope s_are_blocks) := ⟨rfl, rfl, rfl, by decide +kernel, rfl, by decide +kernel, by decide +kernel⟩
theorem b_are_blocks (kV doc pm : Value) (an : Option Addr) (cdv ct : Value) (us : List Value) (hl : us.length = (["order", "value"] : List Str).length) : bindArgs (PySem.W.fnOf "are_blocks" "are_blocks" (defArgs s_are_blocks) (defBody s_are_blocks) (defScope s_are_blocks) .none kV doc pm an cdv ct) ⟨us, []⟩ = pure ((["order", "value"] : List Str).zip us) := match us, hl with | [_, _], _ => rfl
def blB (o : Int) : D → Bool
  | .tup ys => areIn 3 3 0 (o - 1) ys
  | _ => false
def areBl (o : Int) : D → Bool
  | .tup xs => decide ((xs.length : Int) ≤ 500) && xs.all (blB o)
  | _ => false
def vB (v : D) : Prop := v.isv = true ∧ ∀ xs, v = .tup xs → xs.length ≤ 100000 ∧ ∀ x ∈ xs, x.isv = true ∧ ∀ ys, x = .tup ys → (∀ y ∈ ys, y.isv = true) ∧ ys.length ≤ 100000
def m_are_blocks : MT := mt2 fun a v n Q _ => ∃ o : Int, a = .int o ∧ vB v ∧ Q (.bl (areBl o v)) n
theorem ok_are_blocks {f : Addr} {fd : FuncData} (F : Fun K "are_blocks" "are_blocks" s_are_blocks f fd) (hm : mg "are_blocks" = some (.ref f)) (B : Bi mg) (K_MOST_BLOCKS : ∃ t, mg "MOST_BLOCKS" = some (.int 500 t)) (C_are_in : CalD P w K mg base T CX0 2 "are_in" s_are_in ["value", "least", "most", "low", "high"] m_are_in)  : CalD P w K mg base T CX0 3 "are_blocks" s_are_blocks ["order", "value"] m_are_blocks := by
  refine okD F hm sc_are_blocks ar2 (fun cdv A outer s G H n E ED hr => ⟨_, (pdss_cons (pds_if (pdw_pt (pdw_or (pdt_not (pdt_val (pd_callB cd_isi (by rfl) B.isinstance (by decide +kernel) (pda_cons (pdv 1) (pda_cons (pd_ty (t := "tuple") (by rfl) B.tuple (by decide +kernel)) pda_nil))))) (pdw_or1 (pdt_cmp od_gt (pd_callB cd_len (by rfl) B.len (by decide +kernel) (pda_cons (pdv 1) pda_nil)) (pd_kint K_MOST_BLOCKS (by rfl)) (nomark _))))) (pdss_one (pds_ret pd_bl)) pdss_nil)
      (pdss_one (pds_ret (pd_callB (cd_all rfl) (by rfl) B.all (by decide +kernel) (pda_cons (pd_lc rfl sc_are_blocks.nd (pdi_tup (pdv 1)) (blkOk_by (own := [("block", 2)]) (N := N_are_blocks) (sc := defScope s_are_blocks) (by decide +kernel)) (fun _ _ _ _ _ => pg_name (i := 2) sc_are_blocks.nd rfl (by first | exact .inl rfl | exact .inr rfl)) (fun _ _ _ _ _ => pdts_nil) (fun _ _ _ _ _ => (pd_callZ C_are_in lk0 (hr.mono (by decide)) (by rfl) b_are_in (pda_cons (pdv 2) (pda_cons pd_int (pda_cons pd_int (pda_cons pd_int (pda_cons (pd_op od_sub (pdv 0) pd_int) pda_nil)))))))) pda_nil))))), fun ds Qd hl h => ?_⟩)
  obtain ⟨a, v, rfl, o, rfl, ⟨hv, hx⟩, hQ⟩ := h
  walk_at "dl"
  rw [w_isTup hv]
  walk_at "dl"
  by_cases ht : ∃ xs, v = .tup xs
  · obtain ⟨xs, rfl⟩ := ht
    obtain ⟨hz, hb⟩ := hx xs rfl
    rw [show D.isTup (.tup xs) = true from rfl]
    walk_at "dl"
    have hd : areBl o (.tup xs) = (decide ((xs.length : Int) ≤ 500) && xs.all (blB o)) := rfl
    rw [hd] at hQ
    by_cases hl : (xs.length : Int) ≤ 500
    · have hl2 : ¬ 500 < (xs.length : Int) := by omega
      rw [decide_eq_true hl, Bool.true_and] at hQ
      simp only [hl2, decide_false, Bool.false_eq_true, if_false]
      refine comp_spec (fun x => some (.bl (blB o x))) xs [] (fun x hxm => ⟨_, rfl, fun K hK => ?_⟩) (by simp; omega) ?_
      · walk_at "dl"
        obtain ⟨k1, k2⟩ := hb x hxm
        refine ⟨x, _, _, _, _, rfl, k1, _, _, _, _, rfl, rfl, rfl, rfl, fun hn _ => ?_, fun ys e => ⟨(k2 ys e).1, by have := (k2 ys e).2; omega, fun _ => ?_⟩⟩
        · have e : blB o x = false := by
            cases x <;> first | rfl | exact absurd rfl (hn _)
          rw [e] at hK
          exact hK
        · subst e
          exact hK
      · rw [fm_map, List.nil_append]
        have e : (xs.map fun x => D.bl (blB o x)) = (xs.map (blB o)).map .bl := by rw [List.map_map]; rfl
        rw [e, w_all, w_some]
        simpa [List.all_map] using hQ
    · have hl2 : 500 < (xs.length : Int) := by omega
      rw [decide_eq_false hl, Bool.false_and] at hQ
      simpa [hl2] using hQ
  · have e : v.isTup = false := by cases v <;> first | rfl | exact absurd ⟨_, rfl⟩ ht
    have e2 : areBl o v = false := by cases v <;> first | rfl | exact absurd ⟨_, rfl⟩ ht
    rw [e2] at hQ
    rw [e]
    walk_at "dl"
    exact hQ
abbrev s__law_dice : Stmt := topS 24
abbrev N__law_dice : List Str := ["script", "spot", "own", "mixed", "cell"]
theorem sc__law_dice : FnScope N__law_dice ["script", "spot"] (defScope s__law_dice) := ⟨rfl, rfl, rfl, by decide +kernel, rfl, by decide +kernel, by decide +kernel⟩
theorem b__law_dice (kV doc pm : Value) (an : Option Addr) (cdv ct : Value) (us : List Value) (hl : us.length = (["script", "spot"] : List Str).length) : bindArgs (PySem.W.fnOf "_law_dice" "_law_dice" (defArgs s__law_dice) (defBody s__law_dice) (defScope s__law_dice) .none kV doc pm an cdv ct) ⟨us, []⟩ = pure ((["script", "spot"] : List Str).zip us) := match us, hl with | [_, _], _ => rfl
def m__law_dice : MT := mt2 fun a b n Q _ => ∃ (l : List Int) (i : Int), a = .lst (l.map .int) ∧ l.length ≤ 100 ∧ b = .int i ∧ 0 ≤ i ∧ i ≤ 1000 ∧ n ≤ Big ∧ Q .dice n
theorem ok__law_dice {f : Addr} {fd : FuncData} (F : Fun K "_law_dice" "_law_dice" s__law_dice f fd) (hm : mg "_law_dice" = some (.ref f)) (B : Bi mg)    : CalD P w K mg base T CX0 1 "_law_dice" s__law_dice ["script", "spot"] m__law_dice := by
  refine okD F hm sc__law_dice ar2 (fun cdv A outer s G H n E ED hr => ⟨_, (pdss_cons (pds_set (i := 2) sc__law_dice.nd rfl (.inl rfl) (pd_if (pdt_cmp od_lt (pdv 1) (pd_callB cd_len (by rfl) B.len (by decide +kernel) (pda_cons (pdv 0) pda_nil)) (nomark _)) (pd_ix (pdv 0) (pdv 1)) (pd_op od_add (pd_op od_mul pd_int (pdv 1)) pd_int)))
      (pdss_cons (pds_set (i := 3) sc__law_dice.nd rfl (.inl rfl) (pd_op od_add pd_int (pd_op od_mul pd_int (pdv 1))))
      (pdss_cons (pds_for PassesOwn.never rfl (pdi_list (pd_op od_add (pd_slice (pdv 0) pdo_none (pdo_some pd_int)) (pd_lst (pda_cons (pdv 2) pda_nil)))) (pdg_name (i := 4) sc__law_dice.nd rfl (.inl rfl)) (pdss_one (pds_set (i := 3) sc__law_dice.nd rfl (.inl rfl) (pd_op od_mod (pd_callTy cd_int (by rfl) B.int (by decide +kernel) (pda_cons (pd_op od_add (pd_op od_mul (pdv 3) pd_int) (pd_op od_mod (pd_callTy cd_int (by rfl) B.int (by decide +kernel) (pda_cons (pdv 4) pda_nil)) pd_int)) pda_nil)) pd_int))))
      (pdss_one (pds_ret (pd_dice (pda_cons (pd_if (pdw_pt (pdw_or (pdt_cmp od_lt (pdv 2) pd_int (nomark _)) (pdw_or1 (pdt_cmp od_ge (pdv 2) (pd_op od_pow pd_int pd_int) (nomark _))))) (pd_callB cd_abs (by rfl) B.abs (by decide +kernel) (pda_cons (pdv 2) pda_nil)) pd_int) (pda_cons (pdv 3) (pda_cons pd_int pda_nil))))))))), fun ds Qd hl h => ?_⟩)
  obtain ⟨a, b, rfl, l, i, rfl, hl2, rfl, h0, h1, hn, hQ⟩ := h
  walk_at "dl"
  simp only [cutD_map]
  refine ite_own (q := fun z => atI (List.map D.int l) i = some z) (fun hi => ?_) fun own => ?_
  · have hi' : i < l.length := by simpa using hi
    have h2 : i.toNat < l.length := by omega
    exact ⟨l[i.toNat], by rw [atI_at h0 (by simpa using hi'), List.getElem?_map, List.getElem?_eq_getElem h2]; rfl⟩
  · rw [show (List.map D.int (DL.cutD l none (some 6)) ++ [D.int own]) = ((DL.cutD l none (some 6)) ++ [own]).map D.int by simp]
    have lc := cutD_len l none (some 6)
    refine ⟨by rw [List.length_map]; omega, loop_inv D.int (fun _ S => ∃ (m : Int) (x : Option SV), 0 ≤ m ∧ m < 2147480009 ∧ S = ⟨[some (SV.p (.lst (l.map .int))), some (.p (.int i)), some (.p (.int own)), some (.p (.int m)), x], n⟩) (fun x xs S hI K2 hK => ?_) (fun S hI => ?_) _ _ ⟨_, none, by omega, by omega, rfl⟩⟩
    · obtain ⟨m, y, m0, m1, rfl⟩ := hI
      walk_at "dl"
      exact hK _ ⟨_, _, Int.emod_nonneg _ (by decide), Int.emod_lt_of_pos _ (by decide), rfl⟩
    · obtain ⟨m, y, m0, m1, rfl⟩ := hI
      walk_at "dl"
      have fin : ∀ o : Int, 0 ≤ o → ∃ o' m' : Int, [D.int o, D.int m, D.int 0] = [D.int o', D.int m', D.int 0] ∧ 0 ≤ o' ∧ 0 ≤ m' ∧ m' < 2147480009 ∧ n ≤ Big ∧ Qd D.dice n := fun o ho => ⟨o, m, rfl, ho, m0, m1, hn, hQ⟩
      by_cases c1 : own < 0
      · rw [if_pos (decide_eq_true c1)]
        exact ⟨_, rfl, fin _ (by rw [if_pos c1]; omega)⟩
      · rw [if_neg (by simpa using c1)]
        refine ⟨_, w_g2I.trans (if_pos (by decide)), _, rfl, _, rfl, ?_⟩
        split
        · exact ⟨_, rfl, fin _ (by rw [if_neg c1]; omega)⟩
        · exact fin 0 (by omega)
abbrev s__law_roll : Stmt := topS 25
abbrev N__law_roll : List Str := ["dice", "total", "found"]
theorem sc__law_roll : FnScope N__law_roll ["dice", "total"] (defScope s__law_roll) := ⟨rfl, rfl, rfl, by decide +kernel, rfl, by decide +kernel, by decide +kernel⟩
theorem b__law_roll (kV doc pm : Value) (an : Option Addr) (cdv ct : Value) (us : List Value) (hl : us.length = (["dice", "total"] : List Str).length) : bindArgs (PySem.W.fnOf "_law_roll" "_law_roll" (defArgs s__law_roll) (defBody s__law_roll) (defScope s__law_roll) .none kV doc pm an cdv ct) ⟨us, []⟩ = pure ((["dice", "total"] : List Str).zip us) := match us, hl with | [_, _], _ => rfl
abbrev m__law_roll : MT := m_roll
theorem ok__law_roll {f : Addr} {fd : FuncData} (F : Fun K "_law_roll" "_law_roll" s__law_roll f fd) (hm : mg "_law_roll" = some (.ref f)) (B : Bi mg) : CalD P w K mg base T CX0 1 "_law_roll" s__law_roll ["dice", "total"] m__law_roll :=
  okRoll F hm sc__law_roll fun cdv A outer s H E =>
    pss_cons (ps_if (pt_cmpR op_gt (pe_ix ix_list (pv 0) pe_int (by intro _ _; rfl)) pe_int rfl) (pss_cons (ps_set (i := 2) sc__law_roll.nd rfl (.inl rfl) (pe_op op_mod (pe_callTy call_int1 (by rfl) B.int (by decide +kernel) (pa_cons (pe_ix ix_list (pv 0) pe_int (by intro _ _; rfl)) pa_nil) (by decide) (by decide) rfl rfl) (pv 1)) rfl (.inl rfl))
     (pss_cons (ps_asg (pe_op op_fdiv (pe_ix ix_list (pv 0) pe_int (by intro _ _; rfl)) (pv 1)) (pg_sub (pv 0) pe_int set_list (by intro _; rfl)) rfl rfl rfl)
     (pss_one (ps_ret (pv 2))))) pss_nil)
     (pss_cons (ps_asg (pe_op op_add (pe_ix ix_list (pv 0) pe_int (by intro _ _; rfl)) pe_int) (pg_sub (pv 0) pe_int set_list (by intro _; rfl)) rfl rfl rfl)
     (pss_cons (ps_asg (pe_op op_mod (pe_callTy call_int1 (by rfl) B.int (by decide +kernel) (pa_cons (pe_op op_add (pe_op op_add (pe_op op_mul (pe_ix ix_list (pv 0) pe_int (by intro _ _; rfl)) pe_int) (pe_op op_mul (pe_op op_mul (pe_ix ix_list (pv 0) pe_int (by intro _ _; rfl)) (pe_ix ix_list (pv 0) pe_int (by intro _ _; rfl))) pe_int)) pe_int) pa_nil) (by decide) (by decide) rfl rfl) pe_int) (pg_sub (pv 0) pe_int set_list (by intro _; rfl)) rfl rfl rfl)
     (pss_one (ps_ret (pe_op op_mod (pe_callTy call_int1 (by rfl) B.int (by decide +kernel) (pa_cons (pe_op op_fdiv (pe_ix ix_list (pv 0) pe_int (by intro _ _; rfl)) pe_int) pa_nil) (by decide) (by decide) rfl rfl) (pv 1))))))

abbrev s__law_pick : Stmt := topS 26
abbrev N__law_pick : List Str := ["dice", "things"]
theorem sc__law_pick : FnScope N__law_pick ["dice", "things"] (defScope s__law_pick) := ⟨rfl, rfl, rfl, by decide +kernel, rfl, by decide +kernel, by decide +kernel⟩
theorem b__law_pick (kV doc pm : Value) (an : Option Addr) (cdv ct : Value) (us : List Value) (hl : us.length = (["dice", "things"] : List Str).length) : bindArgs (PySem.W.fnOf "_law_pick" "_law_pick" (defArgs s__law_pick) (defBody s__law_pick) (defScope s__law_pick) .none kV doc pm an cdv ct) ⟨us, []⟩ = pure ((["dice", "things"] : List Str).zip us) := match us, hl with | [_, _], _ => rfl
def m__law_pick : MT := mt2 fun a b n Q _ => a = .dice ∧ ∃ l : List D, (b = .lst l ∨ b = .tup l) ∧ l ≠ [] ∧ l.length ≤ 1000000 ∧ 0 < n ∧ ∀ d ∈ l, Q d (n - 1)
theorem ok__law_pick {f : Addr} {fd : FuncData} (F : Fun K "_law_pick" "_law_pick" s__law_pick f fd) (hm : mg "_law_pick" = some (.ref f)) (B : Bi mg)  (C__law_roll : CalD P w K mg base T CX0 1 "_law_roll" s__law_roll ["dice", "total"] m__law_roll)  : CalD P w K mg base T CX0 2 "_law_pick" s__law_pick ["dice", "things"] m__law_pick := by
  refine okD F hm sc__law_pick ar2 (fun cdv A outer s G H n E ED hr => ⟨_, (pdss_one (pds_ret (pd_ix (pdv 1) (pd_callZ C__law_roll lk0 (hr.mono (by decide)) (by rfl) b__law_roll (pda_cons (pdv 0) (pda_cons (pd_callB cd_len (by rfl) B.len (by decide +kernel) (pda_cons (pdv 1) pda_nil)) pda_nil)))))), fun ds Qd hl h => ?_⟩)
  obtain ⟨a, b, rfl, rfl, l, hb, hne, hl2, hn, hQ⟩ := h
  have hpos : 0 < l.length := by cases l with
    | nil => exact absurd rfl hne
    | cons x r => simp
  have at_ : ∀ r : Int, 0 ≤ r → r < l.length → ∃ z, atI l r = some z ∧ Qd z (n - 1) := fun r r0 r1 => by
    have h2 : r.toNat < l.length := by omega
    exact ⟨l[r.toNat], by rw [atI_at r0 r1, List.getElem?_eq_getElem h2], hQ _ (List.getElem_mem _)⟩
  rcases hb with rfl | rfl
  · walk_at "dl"
    exact ⟨_, rfl, by omega, by omega, hn, fun r r0 r1 _ => at_ r r0 r1⟩
  · walk_at "dl"
    exact ⟨_, rfl, by omega, by omega, hn, fun r r0 r1 _ => at_ r r0 r1⟩
end
end K5
set_option maxHeartbeats 1000000
namespace K5
open PySem PySem.Spec PyProof.Rows L2 DL
open TL NumText
def figs : Str := "0123456789"
theorem fig_cps : figs.cps.toList = [48, 49, 50, 51, 52, 53, 54, 55, 56, 57] := by decide +kernel
theorem fig_mem {c : Nat} : c ∈ figs.cps.toList ↔ 48 ≤ c ∧ c ≤ 57 := by
  rw [fig_cps]
  simp only [List.mem_cons, List.not_mem_nil, or_false]
  omega
/-- the signs are figures -/
def allFig (s : Str) : Bool := s.cps.toList.all fun c => decide (c ∈ figs.cps.toList)
theorem allFig_iff {s : Str} : allFig s = true ↔ AllDigits s.cps.toList := by
  unfold allFig AllDigits
  rw [List.all_eq_true]
  constructor
  · intro h c hc
    exact fig_mem.mp (of_decide_eq_true (h c hc))
  · intro h c hc
    exact decide_eq_true (fig_mem.mpr (h c hc))
theorem empty_iff {s : Str} : s = "" ↔ s.cps.toList = [] := by
  constructor
  · intro e
    rw [e]
    decide +kernel
  · intro h
    exact ext_tl (h.trans (by decide +kernel))
theorem len_cps (s : Str) : s.cps.toList.length = s.length := Array.length_toList
def numOf (s : Str) : Nat := digitsVal s.cps.toList
def intOf (s : Str) : Int := if s = "" ∨ 4 < s.length ∨ allFig s = false then -1 else if (Str.ofString (toString ((numOf s : Nat) : Int))) = s then (numOf s : Int) else -1
def lawNum (s : Str) : Int := if s = "" ∨ 4 < s.length ∨ allFig s = false ∨ (1 < s.length ∧ s.cps.toList.head? = some 48) then -1 else (numOf s : Int)
theorem dv_snoc (l : List Nat) (c : Nat) : digitsVal (l ++ [c]) = digitsVal l * 10 + (c - 48) := by
  unfold digitsVal
  rw [List.foldl_append]
  rfl
theorem dv_ge (l : List Nat) : ∀ a : Nat, a ≤ l.foldl (fun acc c => acc * 10 + (c - 48)) a := by
  induction l with
  | nil => exact fun a => Nat.le_refl _
  | cons c l ih =>
    intro a
    have := ih (a * 10 + (c - 48))
    rw [List.foldl_cons]
    omega
theorem dv_pos {l : List Nat} (h : AllDigits l) (hn : l ≠ []) (hh : l.head? ≠ some 48) : 0 < digitsVal l := by
  cases l with
  | nil => exact absurd rfl hn
  | cons c l =>
    have h1 := h.head
    have h2 : c ≠ 48 := fun e => hh (by rw [e]; rfl)
    have := dv_ge l (0 * 10 + (c - 48))
    show 0 < l.foldl (fun acc c => acc * 10 + (c - 48)) (0 * 10 + (c - 48))
    omega
theorem last_split {l : List Nat} (h : l ≠ []) : ∃ l' c, l = l' ++ [c] := ⟨l.dropLast, l.getLast h, (List.dropLast_concat_getLast h).symm⟩
theorem dv_lt : ∀ (n : Nat) (l : List Nat), l.length = n → AllDigits l → digitsVal l < 10 ^ n
  | 0, l, hl, _ => by
    rw [List.length_eq_zero_iff.mp hl]
    decide
  | n + 1, l, hl, h => by
    obtain ⟨l', c, rfl⟩ := last_split (l := l) (by intro e; rw [e] at hl; cases hl)
    have h1 := dv_lt n l' (by simpa using hl) fun d hd => h d (List.mem_append_left _ hd)
    have h2 := h c (by simp)
    rw [dv_snoc, Nat.pow_succ]
    omega
theorem num_back : ∀ (n : Nat) (l : List Nat), l.length = n → AllDigits l → l ≠ [] → (1 < l.length → l.head? ≠ some 48) → numL (digitsVal l) = l
  | 0, l, hl, _, hn, _ => absurd (List.length_eq_zero_iff.mp hl) hn
  | n + 1, l, hl, h, hn, hh => by
    obtain ⟨l', c, rfl⟩ := last_split hn
    have h' : AllDigits l' := fun d hd => h d (List.mem_append_left _ hd)
    have h2 := h c (by simp)
    by_cases he : l' = []
    · subst he
      have e : digitsVal ([] ++ [c]) = c - 48 := by
        rw [dv_snoc]
        show 0 * 10 + (c - 48) = c - 48
        omega
      rw [e, numL_lt (by omega)]
      have e2 : 48 + (c - 48) = c := by omega
      rw [e2]
      rfl
    · have hl' : 0 < l'.length := List.length_pos_iff.mpr he
      have hhd : l'.head? ≠ some 48 := by
        have := hh (by rw [List.length_append]; simp; omega)
        cases l' with
        | nil => exact absurd rfl he
        | cons d r => simpa using this
      have ih := num_back n l' (by simpa using hl) h' he fun _ => hhd
      have hp := dv_pos h' he hhd
      rw [dv_snoc, numL_step (by omega)]
      have e1 : (digitsVal l' * 10 + (c - 48)) / 10 = digitsVal l' := by omega
      have e2 : 48 + (digitsVal l' * 10 + (c - 48)) % 10 = c := by omega
      rw [e1, e2, ih]
theorem num_head (n : Nat) : 0 < n → (numL n).head? ≠ some 48 := by
  induction n using Nat.strongRecOn with
  | _ n ih =>
    intro hn
    by_cases h : n < 10
    · rw [numL_lt h]
      simp
      omega
    · rw [numL_step (by omega)]
      have h1 := ih (n / 10) (by omega) (by omega)
      have h2 := numL_ne (n / 10)
      cases e : numL (n / 10) with
      | nil => exact absurd e h2
      | cons d r =>
        rw [e] at h1
        simpa using h1
theorem str_num {s : Str} (h : AllDigits s.cps.toList) (hn : s.cps.toList ≠ []) : (Str.ofString (toString ((numOf s : Nat) : Int)) = s) ↔ ¬ (1 < s.length ∧ s.cps.toList.head? = some 48) := by
  have key : (Str.ofString (toString ((numOf s : Nat) : Int)) = s) ↔ numL (numOf s) = s.cps.toList := by
    constructor
    · intro e
      rw [← tl_num]
      show (Str.ofString (toString ((numOf s : Nat) : Int))).cps.toList = s.cps.toList
      rw [e]
    · intro e
      exact ext_tl ((tl_num _).trans e)
  rw [key]
  constructor
  · rintro e ⟨h1, h2⟩
    by_cases hz : numOf s = 0
    · rw [hz, numL_lt (by omega)] at e
      have := len_cps s
      rw [← e] at this
      simp at this
      omega
    · have := num_head (numOf s) (by omega)
      rw [e] at this
      exact this h2
  · intro hne
    refine num_back _ _ rfl h hn fun h1 h2 => hne ⟨by rw [← len_cps]; exact h1, h2⟩
theorem int_law (s : Str) : intOf s = lawNum s := by
  unfold intOf lawNum
  by_cases h : s = "" ∨ 4 < s.length ∨ allFig s = false
  · rw [if_pos h, if_pos]
    rcases h with h | h | h
    · exact .inl h
    · exact .inr (.inl h)
    · exact .inr (.inr (.inl h))
  · rw [if_neg h]
    have h1 : s.cps.toList ≠ [] := fun e => h (.inl (empty_iff.mpr e))
    have h2 : allFig s = true := by
      cases e : allFig s with
      | true => rfl
      | false => exact absurd (.inr (.inr e)) h
    have k := str_num (allFig_iff.mp h2) h1
    by_cases c : 1 < s.length ∧ s.cps.toList.head? = some 48
    · rw [if_neg (fun e => k.mp e c), if_pos (.inr (.inr (.inr c)))]
    · rw [if_pos (k.mpr c), if_neg]
      rintro (z | z | z | z)
      · exact h (.inl z)
      · exact h (.inr (.inl z))
      · exact h (.inr (.inr z))
      · exact c z
theorem numOf_lt {s : Str} (h : allFig s = true) (hl : s.length ≤ 4) : numOf s < 10000 := by
  have h1 := dv_lt _ _ rfl (allFig_iff.mp h)
  rw [len_cps] at h1
  have h2 : 10 ^ s.length ≤ 10 ^ 4 := Nat.pow_le_pow_right (by decide) hl
  show digitsVal s.cps.toList < 10000
  omega
theorem intS_go {s : Str} (h1 : s ≠ "") (h2 : s.length ≤ 4) (h3 : allFig s = true) : gIntS [.str s] = some (.int (numOf s)) := by
  show (if s.length ≤ 640 then (PySem.intText? s).map D.int else none) = _
  rw [if_pos (by omega), intText_digits (allFig_iff.mp h3) (fun e => h1 (empty_iff.mpr e)) (by omega)]
  rfl
theorem lawNum_range (s : Str) : -1 ≤ lawNum s ∧ lawNum s < 10000 := by
  unfold lawNum
  split
  · exact ⟨by omega, by omega⟩
  · rename_i h
    have h2 : allFig s = true := by
      cases e : allFig s with
      | true => rfl
      | false => exact absurd (.inr (.inr (.inl e))) h
    have h3 : s.length ≤ 4 := by
      have : ¬ 4 < s.length := fun e => h (.inr (.inl e))
      omega
    have := numOf_lt h2 h3
    omega
/-- plain signs -/
def asc (s : Str) : Prop := ∀ c ∈ s.cps.toList, c < 128
theorem ok_sign {c : Nat} (h : c < 128) : Ok 0 (.str ⟨#[c]⟩) := by
  refine ⟨rfl, ?_, by simp [D.py, PyData.depth]⟩
  rw [D.py, PyData.canLay0]
  revert c
  decide +kernel
theorem bad_nil {α : Type} (p : Nat → Bool) (f : Nat → α) (l : List Nat) [Decidable ((l.filter fun c => !p c).map f = [])] : (!decide ((l.filter fun c => !p c).map f = [])) = !l.all p := by
  rw [Bool.eq_iff_iff]
  simp [List.filter_eq_nil_iff]
/-! ### parts of texts -/
def sp : Str := " "
def ds : Str := "-"
def dot : Str := "."
theorem sp_is : (" " : Str) = ⟨#[32]⟩ := ext_tl (by decide +kernel)
theorem ds_is : ("-" : Str) = ⟨#[45]⟩ := ext_tl (by decide +kernel)
def partsL (s : Str) : List Str := if s = "" then [] else Txt.split s " "
theorem joinL_mem {S : List Nat} {c : Nat} : ∀ {ps : List (List Nat)} {p : List Nat}, p ∈ ps → c ∈ p → c ∈ joinL S ps
  | [], p, h, _ => absurd h List.not_mem_nil
  | [q], p, h, hc => by
    rw [List.mem_singleton.mp h] at hc
    exact hc
  | q :: q2 :: r, p, h, hc => by
    show c ∈ q ++ (S ++ joinL S (q2 :: r))
    rcases List.mem_cons.mp h with e | h
    · rw [e] at hc
      exact List.mem_append_left _ hc
    · exact List.mem_append_right _ (List.mem_append_right _ (joinL_mem h hc))
theorem split_mem {s y : Str} {p : Str} {c : Nat} (h : p ∈ Txt.split s y) (hc : c ∈ p.cps.toList) : c ∈ s.cps.toList := by
  have e : tl (Str.join y (Txt.split s y)) = tl s := by rw [StrLaws.join_split]
  rw [tl_join] at e
  show c ∈ tl s
  rw [← e]
  exact joinL_mem (List.mem_map.mpr ⟨p, h, rfl⟩) hc
theorem split_asc {s y p : Str} (h : asc s) (hp : p ∈ Txt.split s y) : asc p := fun c hc => h c (split_mem hp hc)
theorem parts_asc {s p : Str} (h : asc s) (hp : p ∈ partsL s) : asc p := by
  unfold partsL at hp
  split at hp
  · cases hp
  · exact split_asc h hp
theorem sum_mem {l : List Nat} {x : Nat} (h : x ∈ l) : x ≤ l.sum := by
  induction l with
  | nil => cases h
  | cons a l ih =>
    rw [List.sum_cons]
    rcases List.mem_cons.mp h with e | h
    · omega
    · have := ih h
      omega
theorem split_len {s y p : Str} (hy : 1 ≤ y.length) (h : p ∈ Txt.split s y) : p.length ≤ s.length := by
  have h1 := split_weight s y hy
  have h2 : p.length ≤ ((Txt.split s y).map (·.length)).sum := sum_mem (List.mem_map.mpr ⟨p, h, rfl⟩)
  have h3 : 0 < (Txt.split s y).length := List.length_pos_of_mem h
  omega
theorem split_cnt (s y : Str) (hy : 1 ≤ y.length) : (Txt.split s y).length ≤ s.length + 1 := by
  have h1 := split_weight s y hy
  omega
theorem parts_len {s p : Str} (hp : p ∈ partsL s) : p.length ≤ s.length := by
  unfold partsL at hp
  split at hp
  · cases hp
  · exact split_len (by decide +kernel) hp
theorem parts_cnt (s : Str) : (partsL s).length ≤ s.length + 1 := by
  unfold partsL
  split
  · simp
  · exact split_cnt s _ (by decide +kernel)
/-! ### what is written -/
def strN (i : Int) : Str := Str.ofString (toString i)
def numT (i : Int) : Str := if 0 < i then strN i else "."
def rowText (l : List Int) : Str := Txt.join " " (l.map numT)
def blkText (t : List Int) : Str := Txt.join "-" (t.map strN)
def blksText (bs : List (List Int)) : Str := Txt.join " " (bs.map blkText)
theorem strN_tl {i : Int} (h : 0 ≤ i) : tl (strN i) = numL i.toNat := by
  have e : i = ((i.toNat : Nat) : Int) := by omega
  unfold strN
  rw [e]
  exact tl_num i.toNat
theorem strN_len {i : Int} (h : 0 ≤ i) (h1 : i < 10000) : (strN i).length ≤ 4 := by
  rw [len_tl, strN_tl h]
  exact numL_len (k := 4) (by decide) (by omega)
theorem numT_len {i : Int} (h1 : i < 10000) : (numT i).length ≤ 4 := by
  unfold numT
  split
  · exact strN_len (by omega) h1
  · decide +kernel
theorem sum_le {α : Type} (f : α → Nat) (k : Nat) : ∀ {l : List α}, (∀ x ∈ l, f x ≤ k) → (l.map f).sum ≤ k * l.length
  | [], _ => by simp
  | x :: l, h => by
    have h1 := h x List.mem_cons_self
    have h2 := sum_le f k (l := l) fun y hy => h y (List.mem_cons_of_mem _ hy)
    rw [List.map_cons, List.sum_cons, List.length_cons, Nat.mul_add]
    omega
theorem join_len {y : Str} {l : List Str} {k : Nat} (h : ∀ x ∈ l, x.length ≤ k) : (Txt.join y l).length ≤ (k + y.length) * l.length := by
  rw [join_eq]
  cases l with
  | nil =>
    show (Str.empty).length ≤ _
    simp [Str.empty, Str.length]
  | cons a r =>
    rw [len_join_cons]
    have h1 := sum_le (fun x : Str => x.length) k h
    rw [List.length_cons] at h1 ⊢
    rw [Nat.add_mul]
    have h2 : r.length * y.length ≤ y.length * (r.length + 1) := by
      rw [Nat.mul_comm]
      exact Nat.mul_le_mul_left _ (by omega)
    omega
theorem blk_len {t : List Int} (h3 : t.length = 3) (h : ∀ i ∈ t, 0 ≤ i ∧ i < 10000) : (blkText t).length ≤ 15 := by
  have := join_len (y := "-") (l := t.map strN) (k := 4) fun x hx => by
    obtain ⟨i, hi, rfl⟩ := List.mem_map.mp hx
    exact strN_len (h i hi).1 (h i hi).2
  rw [List.length_map, h3] at this
  have e : ("-" : Str).length = 1 := by decide +kernel
  rw [e] at this
  exact this
/-! ### what is read -/
def valP (p : Str) : Int := if p = "." then 0 else lawNum p
def rowBad (i : Nat) (p : Str) : Bool := (decide (p ≠ ".") && !(decide (1 ≤ lawNum p) && decide (lawNum p ≤ 500))) || decide (1000 < i)
def rowGo (i : Nat) (acc : List Int) : List Str → Nat ⊕ List Int
  | [] => .inr acc
  | p :: ps => if rowBad i p = true then .inl i else rowGo (i + 1) (acc ++ [valP p]) ps
def blkOf (p : Str) : List Int := (Txt.split p "-").map lawNum
def okB (l : List Int) : Bool := decide (l.length = 3) && l.all fun i => decide (0 ≤ i) && decide (i ≤ 3000)
def blkBad (i : Nat) (p : Str) : Bool := !okB (blkOf p) || decide (499 < i)
def blkGo (i : Nat) (acc : List (List Int)) : List Str → Nat ⊕ List (List Int)
  | [] => .inr acc
  | p :: ps => if blkBad i p = true then .inl i else blkGo (i + 1) (acc ++ [blkOf p]) ps
def bI (l : List Int) : D := .tup (l.map .int)
def zS (p : Str × Nat) : D := .tup [.int (p.2 : Nat), .str p.1]
theorem enum_zs (ws : List Str) : enumD (ws.map .str) = ws.zipIdx.map zS := by
  apply List.ext_getElem?
  intro i
  rw [enumD_get, List.getElem?_map, List.getElem?_map, List.getElem?_zipIdx]
  cases ws[i]? with
  | none => rfl
  | some x =>
    show some (D.tup [.int (i : Nat), .str x]) = some (zS (x, 0 + i))
    rw [Nat.zero_add]
    rfl
theorem rgI_cons (lo : Int) (n : Nat) : rgI lo (n + 1) = lo :: rgI (lo + 1) n := by
  unfold rgI
  rw [List.range_succ_eq_map, List.map_cons, List.map_map]
  congr 1
  · simp
  · apply List.map_congr_left
    intro k _
    simp only [Function.comp]
    omega
theorem ix_at {W pre ws : List Str} {w : Str} {i : Nat} (h : W = pre ++ w :: ws) (hi : pre.length = i) : atI (W.map D.str) (i : Nat) = some (.str w) := by
  subst h hi
  rw [atI_at (by omega) (by rw [List.length_map, List.length_append, List.length_cons]; omega), Int.toNat_natCast, List.getElem?_map, List.getElem?_append_right (Nat.le_refl _), Nat.sub_self]
  rfl
def rD : Nat ⊕ List Int → D
  | .inl i => .tup [.str "bad", .int (i : Nat)]
  | .inr l => .tup [.str "read", .tup (l.map .int)]
def bD : Nat ⊕ List (List Int) → D
  | .inl i => .tup [.str "bad", .int (i : Nat)]
  | .inr l => .tup [.str "read", .tup (l.map bI)]
theorem asc_app {a b : Str} (ha : asc a) (hb : asc b) : asc (a ++ b) := fun c hc => by
  have hc' : c ∈ tl (a ++ b) := hc
  rw [tl_append] at hc'
  rcases List.mem_append.mp hc' with h | h
  · exact ha c h
  · exact hb c h
theorem asc_cut {a : Str} (ha : asc a) (lo hi : Option Int) : asc (cutS a lo hi) := fun c hc => ha c (List.mem_of_mem_drop (List.mem_of_mem_take hc))
theorem asc_rev {a : Str} (ha : asc a) : asc (revS a) := fun c hc => ha c (by
  have hc' : c ∈ a.cps.toList.reverse := hc
  exact List.mem_reverse.mp hc')
theorem len_app (a b : Str) : (a ++ b).length = a.length + b.length := Str.length_append a b
theorem bad_is {l : List Int} (p : Int → Bool) : (!decide ((l.filter fun i => !p i).map D.int = [])) = !l.all p := by
  rw [Bool.eq_iff_iff]
  simp [List.filter_eq_nil_iff]
end K5
set_option maxHeartbeats 1000000
namespace K5
open PySem PySem.Spec PyProof.Rows L2 DL
local macro_rules | `(tactic| walk_at "dl") => `(tactic| simp only [dSplit, dJoin, dRevS, dMet, w_str, w_strI, w_lenS, w_slS, w_addS', w_eqS, w_neS, dSeq, dRet, dDice, dSortI, dMaxI, dLstRg, dfDictT, dDGetT, dDPutT, dExtend, dExtT, dLenOl, dDst, dPopAt, dParFF, dParFP, dParPF, dAppend, otAt, dDGet2, dDGet, dDIn, dDPut, dCallG, dSpread, dLcD, dctAt, noOwn, gLenD, gdPair, itemD, dAsg, dIfS, dVar, dC, dOp, dB, dChain, dAnd, dOr, dNot, dAndV, dOrV, dNotV, dCall, dNil, dCons, dFn, dIf, dTup, dLst, dDrop, dNext, dNeg, dSl, dNoPart, dPart, dRaise, dYes, dTupI, dLstI, dStrI, dRg1, dRg2, dEnumL, dEnumT, dRevL, dRevT, dLc, setsD, wipeD, dPar, dPar3, dOwn, dfRep, dfLst, dfList, dfDict, dFor, dgTup, dgCons, dgName, dgNil, dAsgG, dgSetIx, olAt, odAt, ent, froz,
  List.map_cons, List.map_nil, List.getElem?_cons_zero, List.getElem?_cons_succ, List.set_cons_zero, List.set_cons_succ, List.replicate, List.length_cons, List.length_nil, List.cons_append, List.nil_append, Nat.reduceAdd, Nat.reduceSub, Nat.reduceLeDiff,
  w_iteA, w_some, w_none, w_bl, w_bl2, w_int, w_lst, w_tup, w_eq, w_mulL, w_mulR, w_mod, w_div, Int.reduceLT, Int.reduceNeg, Int.reducePow, Int.reduceAdd, Int.reduceSub, Int.reduceMul, and_self, w_cons, w_set, w_lrange, w_lrange1, w_ltup, w_llst, w_par, w_par3, w_tupL, w_tupT, w_listL, w_listT, w_all1, w_all2, w_own0, w_ownP, w_g2T, w_addI, w_addL, w_addT, w_lenT, w_lenL, w_intI, w_intB, w_eqI, w_neI, w_eqB, w_neB, w_ixT, w_ixL, w_slL, w_slT, w_keyI, w_keyS, w_ex, w_two, w_three, if_true, if_false, Bool.false_eq_true, Bool.true_eq_false, Bool.not_true, Bool.not_false, eq_self, true_and, and_true])
section
variable {P : Program} {w : World} {K : PySem.W.Frag} {mg : MG} {base : Heap} {T : TT0}
abbrev s_parts_of : Stmt := topS 17
abbrev N_parts_of : List Str := ["text"]
theorem sc_parts_of : FnScope N_parts_of ["text"] (defScope s_parts_of) := ⟨rfl, rfl, rfl, by decide +kernel, rfl, by decide +kernel, by decide +kernel⟩
theorem b_parts_of (kV doc pm : Value) (an : Option Addr) (cdv ct : Value) (us : List Value) (hl : us.length = (["text"] : List Str).length) : bindArgs (PySem.W.fnOf "parts_of" "parts_of" (defArgs s_parts_of) (defBody s_parts_of) (defScope s_parts_of) .none kV doc pm an cdv ct) ⟨us, []⟩ = pure ((["text"] : List Str).zip us) := match us, hl with | [_], _ => rfl
def m_parts_of : MT := mt1 fun v n Q E => v.isv = true ∧ (v.isStr = false → E ("BadText", "place", .int (-1)) n) ∧ ∀ s, v = .str s → s.length ≤ 10000000 ∧ (10000 < s.length → E ("BadText", "place", .int (-1)) n) ∧ (s.length ≤ 10000 → Q (.lst ((partsL s).map .str)) n)
theorem ok_parts_of {f : Addr} {fd : FuncData} (F : Fun K "parts_of" "parts_of" s_parts_of f fd) (hm : mg "parts_of" = some (.ref f)) (B : Bi mg) (K_MOST_SIGNS : ∃ t, mg "MOST_SIGNS" = some (.int 10000 t))  (R_BadText : RaiseC P w K mg base "BadText" "place")  : CalD P w K mg base T (L2.CX P w) 3 "parts_of" s_parts_of ["text"] m_parts_of := by
  have hx {cdv : Value} {A : Around} {outer : List Env} {s : Shared} {H : Hp} {E : XK} : Passes (L2.CX P w) (cxOf (L2.CX P w) P w K mg base N_parts_of "parts_of" (defScope s_parts_of) f cdv A outer s H E) E := passes_call (takes_of rfl rfl rfl rfl) fun _ _ _ _ h => h
  refine okDX F hm sc_parts_of ar1 (fun cdv A outer s G H n E ED hr L => ⟨_, (pdss_cons (pds_if (pdw_pt (pdw_or (pdt_not (pdt_val (pd_callB cd_isi (by rfl) B.isinstance (by decide +kernel) (pda_cons (pdv 0) (pda_cons (pd_ty (t := "str") (by rfl) B.str (by decide +kernel)) pda_nil))))) (pdw_or1 (pdt_cmp od_gt (pd_callB cd_len (by rfl) B.len (by decide +kernel) (pda_cons (pdv 0) pda_nil)) (pd_kint K_MOST_SIGNS (by rfl)) (nomark _))))) (pdss_one (pds_raise R_BadText L rfl (takes_of rfl rfl rfl rfl) (hr.mono (by decide)) (by rfl) (pd_neg pd_int))) pdss_nil)
      (pdss_one (pds_ret (pd_if (pdt_cmp (od_ne (hu64 hr)) (pdv 0) pd_str (nomark _)) (pd_split (pdv 0) pd_str) (pd_lst pda_nil))))), fun ds Qd hl h => ?_⟩)
  obtain ⟨v, rfl, hv, h1, h2⟩ := h
  walk_at "dl"
  rw [w_isStr hv]
  walk_at "dl"
  by_cases ht : ∃ s, v = .str s
  · obtain ⟨s, rfl⟩ := ht
    obtain ⟨hz, h3, h4⟩ := h2 s rfl
    rw [show D.isStr (.str s) = true from rfl, w_lenS (by omega)]
    walk_at "dl"
    by_cases hl : 10000 < s.length
    · refine (if_pos (by simp; omega)).mpr (h3 hl)
    · refine (if_neg (by simp; omega)).mpr ?_
      have h5 := h4 (by omega)
      unfold partsL at h5
      by_cases he : s = ""
      · rw [if_pos he] at h5
        refine (if_neg (by simpa using he)).mpr h5
      · rw [if_neg he] at h5
        refine (if_pos (by simpa using he)).mpr ⟨by decide +kernel, by omega, h5⟩
  · have e : v.isStr = false := by cases v <;> first | rfl | exact absurd ⟨_, rfl⟩ ht
    rw [e]
    exact h1 e
abbrev s_integer_of : Stmt := topS 18
abbrev N_integer_of : List Str := ["text", "sign"]
theorem sc_integer_of : FnScope N_integer_of ["text"] (defScope s_integer_of) := ⟨rfl, rfl, rfl, by decide +kernel, rfl, by decide +kernel, by decide +kernel⟩
theorem b_integer_of (kV doc pm : Value) (an : Option Addr) (cdv ct : Value) (us : List Value) (hl : us.length = (["text"] : List Str).length) : bindArgs (PySem.W.fnOf "integer_of" "integer_of" (defArgs s_integer_of) (defBody s_integer_of) (defScope s_integer_of) .none kV doc pm an cdv ct) ⟨us, []⟩ = pure ((["text"] : List Str).zip us) := match us, hl with | [_], _ => rfl
def m_integer_of : MT := mt1 fun v n Q _ => ∃ s : Str, v = .str s ∧ s.length ≤ 10000000 ∧ Q (.int (intOf s)) n
theorem ok_integer_of {f : Addr} {fd : FuncData} (F : Fun K "integer_of" "integer_of" s_integer_of f fd) (hm : mg "integer_of" = some (.ref f)) (B : Bi mg) (K_FIGURES : ∃ t, mg "FIGURES" = some (.str "0123456789" t))   : CalD P w K mg base T CX0 1 "integer_of" s_integer_of ["text"] m_integer_of := by
  refine okD F hm sc_integer_of ar1 (fun cdv A outer s G H n E ED hr => ⟨_, (pdss_cons (pds_if (pdw_pt (pdw_or (pdt_cmp (od_eq (hu64 hr)) (pdv 0) pd_str (nomark _)) (pdw_or (pdt_cmp od_gt (pd_callB cd_len (by rfl) B.len (by decide +kernel) (pda_cons (pdv 0) pda_nil)) pd_int (nomark _)) (pdw_or1 (pdt_not (pdt_val (pd_callB (cd_all rfl) (by rfl) B.all (by decide +kernel) (pda_cons (pd_lc rfl sc_integer_of.nd (pdi_str (pdv 0)) (blkOk_by (own := [("sign", 1)]) (N := N_integer_of) (sc := defScope s_integer_of) (by decide +kernel)) (fun _ _ _ _ _ => pg_name (i := 1) sc_integer_of.nd rfl (by first | exact .inl rfl | exact .inr rfl)) (fun _ _ _ _ _ => pdts_nil) (fun _ _ _ _ _ => (pd_cmp od_inS (pdv 1) (pd_kstr K_FIGURES (by rfl)) rfl))) pda_nil)))))))) (pdss_one (pds_ret (pd_neg pd_int))) pdss_nil)
      (pdss_one (pds_ret (pd_if (pdt_cmp (od_eq (hu64 hr)) (pd_callTy cd_strI (by rfl) B.str (by decide +kernel) (pda_cons (pd_callTy cd_intS (by rfl) B.int (by decide +kernel) (pda_cons (pdv 0) pda_nil)) pda_nil)) (pdv 0) (nomark _)) (pd_callTy cd_intS (by rfl) B.int (by decide +kernel) (pda_cons (pdv 0) pda_nil)) (pd_neg pd_int))))), fun ds Qd hl h => ?_⟩)
  obtain ⟨v, rfl, s, rfl, hs, hQ⟩ := h
  walk_at "dl"
  rw [w_lenS (by omega)]
  walk_at "dl"
  unfold intOf at hQ
  by_cases h1 : s = ""
  · rw [if_pos (.inl h1)] at hQ
    exact (if_pos (by simpa using h1)).mpr hQ
  refine (if_neg (by simpa using h1)).mpr ?_
  by_cases h2 : 4 < s.length
  · rw [if_pos (.inr (.inl h2))] at hQ
    exact (if_pos (by simp; omega)).mpr hQ
  refine (if_neg (by simp; omega)).mpr ?_
  refine comp_on (fun k => D.str ⟨#[k]⟩) (fun c => some (D.bl (decide (c ∈ figs.cps.toList)))) s.cps.toList [] (fun x hx => ⟨_, rfl, fun K hK => ?_⟩) (by rw [len_cps]; simp; omega) ?_
  · walk_at "dl"
    exact ⟨_, rfl, hK⟩
  rw [fm_map, List.nil_append]
  have e : (s.cps.toList.map fun c => D.bl (decide (c ∈ figs.cps.toList))) = (s.cps.toList.map fun c => decide (c ∈ figs.cps.toList)).map .bl := by rw [List.map_map]; rfl
  rw [e, w_all, w_some]
  have e2 : (s.cps.toList.map fun c => decide (c ∈ figs.cps.toList)).all id = allFig s := by
    rw [List.all_map]
    rfl
  rw [e2]
  walk_at "dl"
  cases h3 : allFig s with
  | false =>
    rw [if_pos (.inr (.inr h3))] at hQ
    exact (if_pos (by simp)).mpr hQ
  | true =>
    rw [if_neg (by simp [h1, h2, h3])] at hQ
    refine (if_neg (by simp)).mpr ?_
    rw [intS_go h1 (by omega) h3]
    walk_at "dl"
    have hn := numOf_lt h3 (by omega : s.length ≤ 4)
    rw [w_strI (log_small (by omega) (by omega))]
    walk_at "dl"
    by_cases c : Str.ofString (toString ((numOf s : Nat) : Int)) = s
    · rw [if_pos c] at hQ
      exact (if_pos (by simpa using c)).mpr hQ
    · rw [if_neg c] at hQ
      exact (if_neg (by simpa using c)).mpr hQ
abbrev s__law_number : Stmt := topS 29
abbrev N__law_number : List Str := ["word", "sign"]
theorem sc__law_number : FnScope N__law_number ["word"] (defScope s__law_number) := ⟨rfl, rfl, rfl, by decide +kernel, rfl, by decide +kernel, by decide +kernel⟩
theorem b__law_number (kV doc pm : Value) (an : Option Addr) (cdv ct : Value) (us : List Value) (hl : us.length = (["word"] : List Str).length) : bindArgs (PySem.W.fnOf "_law_number" "_law_number" (defArgs s__law_number) (defBody s__law_number) (defScope s__law_number) .none kV doc pm an cdv ct) ⟨us, []⟩ = pure ((["word"] : List Str).zip us) := match us, hl with | [_], _ => rfl
def m__law_number : MT := mt1 fun v n Q _ => ∃ s : Str, v = .str s ∧ s.length ≤ 10000000 ∧ asc s ∧ Q (.int (lawNum s)) n
theorem fm_bad : ∀ l : List Nat, (l.filterMap fun c => if (!decide (c ∈ figs.cps.toList)) = true then some (D.str ⟨#[c]⟩) else none) = (l.filter fun c => !decide (c ∈ figs.cps.toList)).map fun c => D.str ⟨#[c]⟩ := fun l => fm_filter (fun c => !decide (c ∈ figs.cps.toList)) (fun c => D.str ⟨#[c]⟩) l
theorem ok__law_number {f : Addr} {fd : FuncData} (F : Fun K "_law_number" "_law_number" s__law_number f fd) (hm : mg "_law_number" = some (.ref f)) (B : Bi mg)    : CalD P w K mg base T CX0 1 "_law_number" s__law_number ["word"] m__law_number := by
  refine okD F hm sc__law_number ar1 (fun cdv A outer s G H n E ED hr => ⟨_, (pdss_cons (pds_if (pdw_pt (pdw_or (pdt_cmp (od_eq (hu64 hr)) (pdv 0) pd_str (nomark _)) (pdw_or (pdt_cmp od_gt (pd_callB cd_len (by rfl) B.len (by decide +kernel) (pda_cons (pdv 0) pda_nil)) pd_int (nomark _)) (pdw_or (pdt_cmp (od_ne (hu64 hr)) (pd_lc rfl sc__law_number.nd (pdi_str (pdv 0)) (blkOk_by (own := [("sign", 1)]) (N := N__law_number) (sc := defScope s__law_number) (by decide +kernel)) (fun _ _ _ _ _ => pg_name (i := 1) sc__law_number.nd rfl (by first | exact .inl rfl | exact .inr rfl)) (fun _ _ _ _ _ => (pdts_one (pdt_cmp od_notInS (pdv 1) pd_str rfl))) (fun _ _ _ _ _ => (pdv 1))) (pd_lst pda_nil) (nomark _)) (pdw_or1 (pdw_pt (pdw_and (pdt_cmp od_gt (pd_callB cd_len (by rfl) B.len (by decide +kernel) (pda_cons (pdv 0) pda_nil)) pd_int (nomark _)) (pdw_and1 (pdt_cmp (od_eq (hu64 hr)) (pd_ix (pdv 0) pd_int) pd_str (nomark _)))))))))) (pdss_one (pds_ret (pd_neg pd_int))) pdss_nil)
      (pdss_one (pds_ret (pd_callTy cd_intS (by rfl) B.int (by decide +kernel) (pda_cons (pdv 0) pda_nil))))), fun ds Qd hl h => ?_⟩)
  obtain ⟨v, rfl, s, rfl, hs, ha, hQ⟩ := h
  walk_at "dl"
  rw [w_lenS (by omega)]
  walk_at "dl"
  unfold lawNum at hQ
  by_cases h1 : s = ""
  · rw [if_pos (.inl h1)] at hQ
    exact (if_pos (by simpa using h1)).mpr hQ
  refine (if_neg (by simpa using h1)).mpr ?_
  by_cases h2 : 4 < s.length
  · rw [if_pos (.inr (.inl h2))] at hQ
    exact (if_pos (by simp; omega)).mpr hQ
  refine (if_neg (by simp; omega)).mpr ?_
  refine comp_on (fun k => D.str ⟨#[k]⟩) (fun c => if (!decide (c ∈ figs.cps.toList)) = true then some (D.str ⟨#[c]⟩) else none) s.cps.toList [] (fun x hx => ⟨_, rfl, fun K hK => ?_⟩) (by rw [len_cps]; simp; omega) ?_
  · walk_at "dl"
    refine ⟨_, rfl, _, rfl, ?_⟩
    show if (!decide (x ∈ figs.cps.toList)) = true then _ else _
    by_cases c : x ∈ figs.cps.toList
    · rw [decide_eq_true c] at hK ⊢
      exact hK
    · rw [decide_eq_false c] at hK ⊢
      exact hK
  rw [List.nil_append, fm_bad]
  have hok : ∀ d ∈ (s.cps.toList.filter fun c => !decide (c ∈ figs.cps.toList)).map fun c => D.str ⟨#[c]⟩, Ok 0 d := fun d hd => by
    obtain ⟨c, hc, rfl⟩ := List.mem_map.mp hd
    exact ok_sign (ha c (List.mem_filter.mp hc).1)
  rw [w_neL hok (by omega)]
  walk_at "dl"
  have e3 : (!decide (((s.cps.toList.filter fun c => !decide (c ∈ figs.cps.toList)).map fun c => D.str ⟨#[c]⟩) = [])) = !allFig s := by
    exact bad_nil _ _ _
  rw [e3]
  cases h3 : allFig s with
  | false =>
    rw [if_pos (.inr (.inr (.inl h3)))] at hQ
    exact (if_pos (by simp)).mpr hQ
  | true =>
    refine (if_neg (by simp)).mpr ?_
    by_cases h4 : 1 < s.length
    · refine (if_pos (by simp; omega)).mpr ?_
      have h5 : (0 : Nat) < s.cps.toList.length := by
        rw [len_cps]
        omega
      obtain ⟨c, hc⟩ : ∃ c, s.cps.toList[0]? = some c := ⟨_, List.getElem?_eq_getElem h5⟩
      have e4 : gIx (.str s) (.int 0) = some (.str ⟨#[c]⟩) := by
        show (if s.length ≤ 16777216 then (atI s.cps.toList 0).map fun k => D.str ⟨#[k]⟩ else none) = _
        rw [if_pos (by omega), atI_at (by omega) (by omega), show (Int.toNat 0) = 0 from rfl, hc]
        rfl
      rw [List.head?_eq_getElem?, hc] at hQ
      rw [e4]
      walk_at "dl"
      by_cases c0 : c = 48
      · subst c0
        rw [if_pos (.inr (.inr (.inr ⟨h4, rfl⟩)))] at hQ
        exact (if_pos (by decide +kernel)).mpr hQ
      · rw [if_neg (by simp [h1, h2, h3, c0])] at hQ
        refine (if_neg ?_).mpr ⟨_, intS_go h1 (by omega) h3, hQ⟩
        intro e
        have e5 : (⟨#[c]⟩ : Str) = "0" := of_decide_eq_true e
        have e6 : (⟨#[c]⟩ : Str).cps.toList = ("0" : Str).cps.toList := by rw [e5]
        rw [show ("0" : Str).cps.toList = [48] by decide +kernel] at e6
        exact c0 (List.cons.inj e6).1
    · rw [if_neg (by simp [h1, h2, h3, h4])] at hQ
      refine (if_neg (by simp; omega)).mpr ?_
      exact ⟨_, intS_go h1 (by omega) h3, hQ⟩
end
end K5
set_option maxHeartbeats 1000000
namespace K5
open PySem PySem.Spec PyProof.Rows L2 DL
local macro_rules | `(tactic| walk_at "dl") => `(tactic| simp only [dSplit, dJoin, dRevS, dMet, w_str, w_strI, w_lenS, w_slS, w_addS', w_eqS, w_neS, dSeq, dRet, dDice, dSortI, dMaxI, dLstRg, dfDictT, dDGetT, dDPutT, dExtend, dExtT, dLenOl, dDst, dPopAt, dParFF, dParFP, dParPF, dAppend, otAt, dDGet2, dDGet, dDIn, dDPut, dCallG, dSpread, dLcD, dctAt, noOwn, gLenD, gdPair, itemD, dAsg, dIfS, dVar, dC, dOp, dB, dChain, dAnd, dOr, dNot, dAndV, dOrV, dNotV, dCall, dNil, dCons, dFn, dIf, dTup, dLst, dDrop, dNext, dNeg, dSl, dNoPart, dPart, dRaise, dYes, dTupI, dLstI, dStrI, dRg1, dRg2, dEnumL, dEnumT, dRevL, dRevT, dLc, setsD, wipeD, dPar, dPar3, dOwn, dfRep, dfLst, dfList, dfDict, dFor, dgTup, dgCons, dgName, dgNil, dAsgG, dgSetIx, olAt, odAt, ent, froz,
  List.map_cons, List.map_nil, List.getElem?_cons_zero, List.getElem?_cons_succ, List.set_cons_zero, List.set_cons_succ, List.replicate, List.length_cons, List.length_nil, List.cons_append, List.nil_append, Nat.reduceAdd, Nat.reduceSub, Nat.reduceLeDiff,
  w_iteA, w_some, w_none, w_bl, w_bl2, w_int, w_lst, w_tup, w_eq, w_mulL, w_mulR, w_mod, w_div, Int.reduceLT, Int.reduceNeg, Int.reducePow, Int.reduceAdd, Int.reduceSub, Int.reduceMul, and_self, w_cons, w_set, w_lrange, w_lrange1, w_ltup, w_llst, w_par, w_par3, w_tupL, w_tupT, w_listL, w_listT, w_all1, w_all2, w_own0, w_ownP, w_g2T, w_addI, w_addL, w_addT, w_lenT, w_lenL, w_intI, w_intB, w_eqI, w_neI, w_eqB, w_neB, w_ixT, w_ixL, w_slL, w_slT, w_keyI, w_keyS, w_ex, w_two, w_three, if_true, if_false, Bool.false_eq_true, Bool.true_eq_false, Bool.not_true, Bool.not_false, eq_self, true_and, and_true])
section
variable {P : Program} {w : World} {K : PySem.W.Frag} {mg : MG} {base : Heap} {T : TT0}






theorem isIn_inv {lo hi : Int} {d : D} (h : isIn lo hi d = true) : ∃ i, d = .int i ∧ lo ≤ i ∧ i ≤ hi := by
  cases d with
  | int i =>
    have h' : (decide (lo ≤ i) && decide (i ≤ hi)) = true := h
    rw [Bool.and_eq_true, decide_eq_true_eq, decide_eq_true_eq] at h'
    exact ⟨i, rfl, h'⟩
  | _ => cases h
theorem all_inv {lo hi : Int} : ∀ {xs : List D}, xs.all (isIn lo hi) = true → ∃ l : List Int, xs = l.map .int ∧ ∀ i ∈ l, lo ≤ i ∧ i ≤ hi
  | [], _ => ⟨[], rfl, fun i hi => absurd hi List.not_mem_nil⟩
  | x :: xs, h => by
    rw [List.all_cons, Bool.and_eq_true] at h
    obtain ⟨i, rfl, hi⟩ := isIn_inv h.1
    obtain ⟨l, rfl, hl⟩ := all_inv h.2
    refine ⟨i :: l, rfl, fun j hj => ?_⟩
    rcases List.mem_cons.mp hj with rfl | hj
    · exact hi
    · exact hl j hj
theorem areIn_inv {a b lo hi : Int} {xs : List D} (h : areIn a b lo hi xs = true) : a ≤ xs.length ∧ (xs.length : Int) ≤ b ∧ ∃ l : List Int, xs = l.map .int ∧ ∀ i ∈ l, lo ≤ i ∧ i ≤ hi := by
  unfold areIn at h
  rw [Bool.and_eq_true, Bool.and_eq_true, decide_eq_true_eq, decide_eq_true_eq] at h
  exact ⟨h.1.1, h.1.2, all_inv h.2⟩
def areRow : D → Bool
  | .tup xs => areIn 0 1001 0 500 xs
  | _ => false
def vR (v : D) : Prop := v.isv = true ∧ ∀ xs, v = .tup xs → (∀ x ∈ xs, x.isv = true) ∧ xs.length ≤ 16777216
theorem all_strs {α : Type} (f : α → Str) (l : List α) : (l.map fun x => D.str (f x)) = (l.map f).map .str := by rw [List.map_map]; rfl
def m_write_row : MT := mt1 fun v n Q E => vR v ∧ (areRow v = false → E ("BadArgument", "name", .str "row") n) ∧ ∀ l : List Int, v = .tup (l.map .int) → areRow v = true → Q (.str (rowText l)) n
abbrev s_write_row : Stmt := topS 19
abbrev N_write_row : List Str := ["row", "number"]
theorem sc_write_row : FnScope N_write_row ["row"] (defScope s_write_row) := ⟨rfl, rfl, rfl, by decide +kernel, rfl, by decide +kernel, by decide +kernel⟩
theorem b_write_row (kV doc pm : Value) (an : Option Addr) (cdv ct : Value) (us : List Value) (hl : us.length = (["row"] : List Str).length) : bindArgs (PySem.W.fnOf "write_row" "write_row" (defArgs s_write_row) (defBody s_write_row) (defScope s_write_row) .none kV doc pm an cdv ct) ⟨us, []⟩ = pure ((["row"] : List Str).zip us) := match us, hl with | [_], _ => rfl
theorem ok_write_row {f : Addr} {fd : FuncData} (F : Fun K "write_row" "write_row" s_write_row f fd) (hm : mg "write_row" = some (.ref f)) (B : Bi mg) (K_MOST : ∃ t, mg "MOST" = some (.int 500 t)) (K_MOST_ROW : ∃ t, mg "MOST_ROW" = some (.int 1001 t)) (C_demand : CalD P w K mg base T (L2.CX P w) 3 "demand" s_demand ["is_good", "name"] m_demand) (C_are_in : CalD P w K mg base T CX0 2 "are_in" s_are_in ["value", "least", "most", "low", "high"] m_are_in)  : CalD P w K mg base T (L2.CX P w) 4 "write_row" s_write_row ["row"] m_write_row := by
  have hx {cdv : Value} {A : Around} {outer : List Env} {s : Shared} {H : Hp} {E : XK} : Passes (L2.CX P w) (cxOf (L2.CX P w) P w K mg base N_write_row "write_row" (defScope s_write_row) f cdv A outer s H E) E := passes_call (takes_of rfl rfl rfl rfl) fun _ _ _ _ h => h
  refine okDX F hm sc_write_row ar1 (fun cdv A outer s G H n E ED hr L => ⟨_, (pdss_cons (pds_expr (pd_callZ C_demand (lkX L hx) (hr.mono (by decide)) (by rfl) b_demand (pda_cons (pd_callZ C_are_in lk0 (hr.mono (by decide)) (by rfl) b_are_in (pda_cons (pdv 0) (pda_cons pd_int (pda_cons (pd_kint K_MOST_ROW (by rfl)) (pda_cons pd_int (pda_cons (pd_kint K_MOST (by rfl)) pda_nil)))))) (pda_cons pd_str pda_nil))))
      (pdss_one (pds_ret (pd_join pd_str (pd_lc rfl sc_write_row.nd (pdi_tup (pdv 0)) (blkOk_by (own := [("number", 1)]) (N := N_write_row) (sc := defScope s_write_row) (by decide +kernel)) (fun _ _ _ _ _ => pg_name (i := 1) sc_write_row.nd rfl (by first | exact .inl rfl | exact .inr rfl)) (fun _ _ _ _ _ => pdts_nil) (fun _ _ _ _ _ => (pd_if (pdt_cmp od_gt (pdv 1) pd_int (nomark _)) (pd_callTy cd_strI (by rfl) B.str (by decide +kernel) (pda_cons (pdv 1) pda_nil)) pd_str))))))), fun ds Qd hl h => ?_⟩)
  obtain ⟨v, rfl, ⟨hv, hx⟩, h1, h2⟩ := h
  walk_at "dl"
  refine ⟨v, _, _, _, _, rfl, hv, _, _, _, _, rfl, rfl, rfl, rfl, fun hn _ => ?_, fun xs e => ⟨(hx xs e).1, (hx xs e).2, fun _ => ?_⟩⟩
  · refine ⟨_, _, rfl, _, rfl, (fun h => nomatch h), fun _ => h1 ?_⟩
    cases v <;> first | rfl | exact absurd rfl (hn _)
  · subst e
    refine ⟨_, _, rfl, _, rfl, fun ht => ?_, fun ht => h1 ht⟩
    obtain ⟨k1, k2, l, rfl, hl2⟩ := areIn_inv ht
    have hQ := h2 l rfl ht
    intro _
    rw [List.length_map] at k2
    refine ⟨_, rfl, comp_on D.int (fun i => some (D.str (numT i))) l [] (fun i hi => ⟨_, rfl, fun K hK => ?_⟩) (by simp; omega) ?_⟩
    · walk_at "dl"
      unfold numT at hK
      have hr := hl2 i hi
      by_cases c : 0 < i
      · rw [if_pos c] at hK
        refine (if_pos (by simpa using c)).mpr ?_
        exact ⟨_, w_strI (log_small (by omega) (by omega)), hK⟩
      · rw [if_neg c] at hK
        exact (if_neg (by simpa using c)).mpr hK
    · rw [fm_map, List.nil_append, all_strs]
      refine ⟨_, .inl rfl, ?_, hQ⟩
      have hs := sum_le (fun x : Str => x.length) 4 (l := l.map numT) fun x hx' => by
        obtain ⟨i, hi, rfl⟩ := List.mem_map.mp hx'
        have := hl2 i hi
        exact numT_len (by omega)
      have e1 : (" " : Str).length = 1 := by decide +kernel
      rw [e1]
      rw [List.length_map] at hs ⊢
      omega
def areBl2 (v : D) : Bool := areBl 3001 v
theorem blB_inv {d : D} (h : blB 3001 d = true) : ∃ l : List Int, d = bI l ∧ okB l = true := by
  cases d with
  | tup xs =>
    obtain ⟨k1, k2, l, rfl, hl⟩ := areIn_inv (show areIn 3 3 0 (3001 - 1) xs = true from h)
    rw [List.length_map] at k1 k2
    refine ⟨l, rfl, ?_⟩
    unfold okB
    rw [decide_eq_true (by omega), Bool.true_and, List.all_eq_true]
    intro i hi
    have := hl i hi
    rw [decide_eq_true (by omega), decide_eq_true (by omega)]
    rfl
  | _ => cases h
theorem blB_all : ∀ {xs : List D}, xs.all (blB 3001) = true → ∃ l : List (List Int), xs = l.map bI ∧ ∀ t ∈ l, okB t = true
  | [], _ => ⟨[], rfl, fun i hi => absurd hi List.not_mem_nil⟩
  | x :: xs, h => by
    rw [List.all_cons, Bool.and_eq_true] at h
    obtain ⟨t, rfl, ht⟩ := blB_inv h.1
    obtain ⟨l, rfl, hl⟩ := blB_all h.2
    refine ⟨t :: l, rfl, fun j hj => ?_⟩
    rcases List.mem_cons.mp hj with rfl | hj
    · exact ht
    · exact hl j hj
theorem okB_inv {l : List Int} (h : okB l = true) : l.length = 3 ∧ ∀ i ∈ l, 0 ≤ i ∧ i ≤ 3000 := by
  unfold okB at h
  rw [Bool.and_eq_true, decide_eq_true_eq, List.all_eq_true] at h
  refine ⟨h.1, fun i hi => ?_⟩
  have := h.2 i hi
  rw [Bool.and_eq_true, decide_eq_true_eq, decide_eq_true_eq] at this
  exact this
def m_write_blocks : MT := mt1 fun v n Q E => vB v ∧ (areBl 3001 v = false → E ("BadArgument", "name", .str "blocks") n) ∧ ∀ l : List (List Int), v = .tup (l.map bI) → areBl 3001 v = true → Q (.str (blksText l)) n
abbrev s_write_blocks : Stmt := topS 21
abbrev N_write_blocks : List Str := ["blocks", "block", "place"]
theorem sc_write_blocks : FnScope N_write_blocks ["blocks"] (defScope s_write_blocks) := ⟨rfl, rfl, rfl, by decide +kernel, rfl, by decide +kernel, by decide +kernel⟩
theorem b_write_blocks (kV doc pm : Value) (an : Option Addr) (cdv ct : Value) (us : List Value) (hl : us.length = (["blocks"] : List Str).length) : bindArgs (PySem.W.fnOf "write_blocks" "write_blocks" (defArgs s_write_blocks) (defBody s_write_blocks) (defScope s_write_blocks) .none kV doc pm an cdv ct) ⟨us, []⟩ = pure ((["blocks"] : List Str).zip us) := match us, hl with | [_], _ => rfl
theorem ok_write_blocks {f : Addr} {fd : FuncData} (F : Fun K "write_blocks" "write_blocks" s_write_blocks f fd) (hm : mg "write_blocks" = some (.ref f)) (B : Bi mg) (K_MOST_ORDER : ∃ t, mg "MOST_ORDER" = some (.int 3001 t)) (C_demand : CalD P w K mg base T (L2.CX P w) 3 "demand" s_demand ["is_good", "name"] m_demand) (C_are_blocks : CalD P w K mg base T CX0 3 "are_blocks" s_are_blocks ["order", "value"] m_are_blocks)  : CalD P w K mg base T (L2.CX P w) 4 "write_blocks" s_write_blocks ["blocks"] m_write_blocks := by
  have hx {cdv : Value} {A : Around} {outer : List Env} {s : Shared} {H : Hp} {E : XK} : Passes (L2.CX P w) (cxOf (L2.CX P w) P w K mg base N_write_blocks "write_blocks" (defScope s_write_blocks) f cdv A outer s H E) E := passes_call (takes_of rfl rfl rfl rfl) fun _ _ _ _ h => h
  refine okDX F hm sc_write_blocks ar1 (fun cdv A outer s G H n E ED hr L => ⟨_, (pdss_cons (pds_expr (pd_callZ C_demand (lkX L hx) (hr.mono (by decide)) (by rfl) b_demand (pda_cons (pd_callZ C_are_blocks lk0 (hr.mono (by decide)) (by rfl) b_are_blocks (pda_cons (pd_kint K_MOST_ORDER (by rfl)) (pda_cons (pdv 0) pda_nil))) (pda_cons pd_str pda_nil))))
      (pdss_one (pds_ret (pd_join pd_str (pd_lc rfl sc_write_blocks.nd (pdi_tup (pdv 0)) (blkOk_by (own := [("block", 1)]) (N := N_write_blocks) (sc := defScope s_write_blocks) (by decide +kernel)) (fun _ _ _ _ _ => pg_name (i := 1) sc_write_blocks.nd rfl (by first | exact .inl rfl | exact .inr rfl)) (fun _ _ _ _ _ => pdts_nil) (fun _ _ _ _ _ => (pd_join pd_str (pd_lc rfl sc_write_blocks.nd (pdi_tup (pdv 1)) (blkOk_by (by rfl)) (fun _ _ _ _ _ => pg_name (i := 2) sc_write_blocks.nd rfl (by first | exact .inl rfl | exact .inr rfl)) (fun _ _ _ _ _ => pdts_nil) (fun _ _ _ _ _ => (pd_callTy cd_strI (by rfl) B.str (by decide +kernel) (pda_cons (pdv 2) pda_nil))))))))))), fun ds Qd hl h => ?_⟩)
  obtain ⟨v, rfl, hv, h1, h2⟩ := h
  walk_at "dl"
  refine ⟨_, v, rfl, _, rfl, hv, fun _ => ⟨_, _, rfl, _, rfl, fun ht => ?_, fun ht => h1 ht⟩⟩
  obtain ⟨xs, rfl⟩ : ∃ xs, v = .tup xs := by cases v <;> first | exact ⟨_, rfl⟩ | cases ht
  have ht' : (decide ((xs.length : Int) ≤ 500) && xs.all (blB 3001)) = true := ht
  rw [Bool.and_eq_true, decide_eq_true_eq] at ht'
  obtain ⟨k2, k3⟩ := ht'
  obtain ⟨l, rfl, hl2⟩ := blB_all k3
  have hQ := h2 l rfl ht
  rw [List.length_map] at k2
  intro _
  refine ⟨_, rfl, comp_on bI (fun t => some (D.str (blkText t))) l [] (fun t hi => ⟨_, rfl, fun K hK => ?_⟩) (by simp; omega) ?_⟩
  · obtain ⟨c1, c2⟩ := okB_inv (hl2 t hi)
    unfold bI
    walk_at "dl"
    refine comp_on D.int (fun i => some (D.str (strN i))) t [] (fun i hi => ⟨_, rfl, fun K hK => ?_⟩) (by simp; omega) ?_
    · have := c2 i hi
      walk_at "dl"
      exact ⟨_, w_strI (log_small (by omega) (by omega)), hK⟩
    · rw [fm_map, List.nil_append, all_strs]
      refine ⟨_, .inl rfl, ?_, hK⟩
      have hs := sum_le (fun x : Str => x.length) 4 (l := t.map strN) fun x hx' => by
        obtain ⟨i, hi, rfl⟩ := List.mem_map.mp hx'
        have := c2 i hi
        exact strN_len (by omega) (by omega)
      have e1 : ("-" : Str).length = 1 := by decide +kernel
      rw [e1]
      rw [List.length_map] at hs ⊢
      omega
  · rw [fm_map, List.nil_append, all_strs]
    refine ⟨_, .inl rfl, ?_, hQ⟩
    have hs := sum_le (fun x : Str => x.length) 15 (l := l.map blkText) fun x hx' => by
      obtain ⟨t, ht, rfl⟩ := List.mem_map.mp hx'
      obtain ⟨c1, c2⟩ := okB_inv (hl2 t ht)
      exact blk_len c1 fun i hi => by have := c2 i hi; omega
    have e1 : (" " : Str).length = 1 := by decide +kernel
    rw [e1]
    rw [List.length_map] at hs ⊢
    omega
end
end K5
set_option maxHeartbeats 1000000
namespace K5
open PySem PySem.Spec PyProof.Rows L2 DL
local macro_rules | `(tactic| walk_at "dl") => `(tactic| simp only [dSplit, dJoin, dRevS, dMet, w_str, w_strI, w_lenS, w_slS, w_addS', w_eqS, w_neS, dSeq, dRet, dDice, dSortI, dMaxI, dLstRg, dfDictT, dDGetT, dDPutT, dExtend, dExtT, dLenOl, dDst, dPopAt, dParFF, dParFP, dParPF, dAppend, otAt, dDGet2, dDGet, dDIn, dDPut, dCallG, dSpread, dLcD, dctAt, noOwn, gLenD, gdPair, itemD, dAsg, dIfS, dVar, dC, dOp, dB, dChain, dAnd, dOr, dNot, dAndV, dOrV, dNotV, dCall, dNil, dCons, dFn, dIf, dTup, dLst, dDrop, dNext, dNeg, dSl, dNoPart, dPart, dRaise, dYes, dTupI, dLstI, dStrI, dRg1, dRg2, dEnumL, dEnumT, dRevL, dRevT, dLc, setsD, wipeD, dPar, dPar3, dOwn, dfRep, dfLst, dfList, dfDict, dFor, dgTup, dgCons, dgName, dgNil, dAsgG, dgSetIx, olAt, odAt, ent, froz,
  List.map_cons, List.map_nil, List.getElem?_cons_zero, List.getElem?_cons_succ, List.set_cons_zero, List.set_cons_succ, List.replicate, List.length_cons, List.length_nil, List.cons_append, List.nil_append, Nat.reduceAdd, Nat.reduceSub, Nat.reduceLeDiff,
  w_iteA, w_some, w_none, w_bl, w_bl2, w_int, w_lst, w_tup, w_eq, w_mulL, w_mulR, w_mod, w_div, Int.reduceLT, Int.reduceNeg, Int.reducePow, Int.reduceAdd, Int.reduceSub, Int.reduceMul, and_self, w_cons, w_set, w_lrange, w_lrange1, w_ltup, w_llst, w_par, w_par3, w_tupL, w_tupT, w_listL, w_listT, w_all1, w_all2, w_own0, w_ownP, w_g2T, w_addI, w_addL, w_addT, w_lenT, w_lenL, w_intI, w_intB, w_eqI, w_neI, w_eqB, w_neB, w_ixT, w_ixL, w_slL, w_slT, w_keyI, w_keyS, w_ex, w_two, w_three, if_true, if_false, Bool.false_eq_true, Bool.true_eq_false, Bool.not_true, Bool.not_false, eq_self, true_and, and_true])
section
variable {P : Program} {w : World} {K : PySem.W.Frag} {mg : MG} {base : Heap} {T : TT0}






theorem rowGo_cons {i : Nat} {acc : List Int} {p : Str} {ps : List Str} : rowGo i acc (p :: ps) = if rowBad i p = true then .inl i else rowGo (i + 1) (acc ++ [valP p]) ps := rfl
theorem blkGo_cons {i : Nat} {acc : List (List Int)} {p : Str} {ps : List Str} : blkGo i acc (p :: ps) = if blkBad i p = true then .inl i else blkGo (i + 1) (acc ++ [blkOf p]) ps := rfl
theorem zip_cons {w : Str} {ws : List Str} {i : Nat} : (w :: ws).zipIdx i = (w, i) :: ws.zipIdx (i + 1) := rfl
def eR (E : Exc → Nat → Prop) (Q : D → Nat → Prop) (n : Nat) : Nat ⊕ List Int → Prop
  | .inl i => E ("BadText", "place", .int i) n
  | .inr l => Q (.tup (l.map .int)) n
def eB (E : Exc → Nat → Prop) (Q : D → Nat → Prop) (n : Nat) : Nat ⊕ List (List Int) → Prop
  | .inl i => E ("BadText", "place", .int i) n
  | .inr l => Q (.tup (l.map bI)) n
def m_read_row : MT := mt1 fun v n Q E => v.isv = true ∧ (v.isStr = false → E ("BadText", "place", .int (-1)) n) ∧ ∀ s, v = .str s → s.length ≤ 10000000 ∧ (10000 < s.length → E ("BadText", "place", .int (-1)) n) ∧ (s.length ≤ 10000 → eR E Q n (rowGo 0 [] (partsL s)))
abbrev s_read_row : Stmt := topS 20
abbrev N_read_row : List Str := ["text", "found", "at", "part", "number"]
theorem sc_read_row : FnScope N_read_row ["text"] (defScope s_read_row) := ⟨rfl, rfl, rfl, by decide +kernel, rfl, by decide +kernel, by decide +kernel⟩
theorem b_read_row (kV doc pm : Value) (an : Option Addr) (cdv ct : Value) (us : List Value) (hl : us.length = (["text"] : List Str).length) : bindArgs (PySem.W.fnOf "read_row" "read_row" (defArgs s_read_row) (defBody s_read_row) (defScope s_read_row) .none kV doc pm an cdv ct) ⟨us, []⟩ = pure ((["text"] : List Str).zip us) := match us, hl with | [_], _ => rfl
theorem ok_read_row {f : Addr} {fd : FuncData} (F : Fun K "read_row" "read_row" s_read_row f fd) (hm : mg "read_row" = some (.ref f)) (B : Bi mg) (K_MOST : ∃ t, mg "MOST" = some (.int 500 t)) (K_MOST_ROW : ∃ t, mg "MOST_ROW" = some (.int 1001 t)) (C_parts_of : CalD P w K mg base T (L2.CX P w) 3 "parts_of" s_parts_of ["text"] m_parts_of) (C_integer_of : CalD P w K mg base T CX0 1 "integer_of" s_integer_of ["text"] m_integer_of) (R_BadText : RaiseC P w K mg base "BadText" "place")  : CalD P w K mg base T (L2.CX P w) 4 "read_row" s_read_row ["text"] m_read_row := by
  have hx {cdv : Value} {A : Around} {outer : List Env} {s : Shared} {H : Hp} {E : XK} : Passes (L2.CX P w) (cxOf (L2.CX P w) P w K mg base N_read_row "read_row" (defScope s_read_row) f cdv A outer s H E) E := passes_call (takes_of rfl rfl rfl rfl) fun _ _ _ _ h => h
  refine okDX F hm sc_read_row ar1 (fun cdv A outer s G H n E ED hr L => ⟨_, (pdss_cons (pds_own (i := 1) sc_read_row.nd rfl (.inl rfl) (pdf_lst pda_nil))
      (pdss_cons (pds_for (passes_of rfl) rfl (pdi_enumL (by rfl) B.enumerate (pda_cons (pd_callZ C_parts_of (lkX L hx) (hr.mono (by decide)) (by rfl) b_parts_of (pda_cons (pdv 0) pda_nil)) pda_nil)) (pdg_tup (n := 2) rfl (pdgs_cons (pdg_name (i := 2) sc_read_row.nd rfl (.inl rfl)) (pdgs_cons (pdg_name (i := 3) sc_read_row.nd rfl (.inl rfl)) pdgs_nil))) (pdss_cons (pds_set (i := 4) sc_read_row.nd rfl (.inl rfl) (pd_if (pdt_cmp (od_eq (hu64 hr)) (pdv 3) pd_str (nomark _)) pd_int (pd_callZ C_integer_of lk0 (hr.mono (by decide)) (by rfl) b_integer_of (pda_cons (pdv 3) pda_nil))))
      (pdss_cons (pds_if (pdw_pt (pdw_or (pdt_cmp od_gt (pdv 4) (pd_kint K_MOST (by rfl)) (nomark _)) (pdw_or (pdt_cmp od_lt (pdv 4) pd_int (nomark _)) (pdw_or (pdw_pt (pdw_and (pdt_cmp (od_eq (hu64 hr)) (pdv 4) pd_int (nomark _)) (pdw_and1 (pdt_cmp (od_ne (hu64 hr)) (pdv 3) pd_str (nomark _))))) (pdw_or1 (pdt_cmp od_ge (pdv 2) (pd_kint K_MOST_ROW (by rfl)) (nomark _))))))) (pdss_one (pds_raise R_BadText L rfl (takes_of rfl rfl rfl rfl) (hr.mono (by decide)) (by rfl) (pdv 2))) pdss_nil)
      (pdss_one (pds_expr (pd_append (i := 1) rfl (by first | exact Or.inl rfl | exact Or.inr (Or.inl rfl) | exact Or.inr (Or.inr rfl)) (pdv 4)))))))
      (pdss_one (pds_ret (pd_callTy cd_tuple (by rfl) B.tuple (by decide +kernel) (pda_cons (pdv 1) pda_nil)))))), fun ds Qd hl h => ?_⟩)
  obtain ⟨v, rfl, hv, h1, h2⟩ := h
  walk_at "dl"
  refine ⟨v, rfl, hv, h1, fun s e => ⟨(h2 s e).1, (h2 s e).2.1, fun hs _ => ?_⟩⟩
  have hF := (h2 s e).2.2 hs
  refine ⟨_, rfl, ?_⟩
  rw [enum_zs]
  refine loop_inv zS (fun ps S => ∃ (i : Nat) (ws : List Str) (acc : List Int) (x2 x3 x4 : Option SV), ps = ws.zipIdx i ∧ eR ED Qd n (rowGo i acc ws) ∧ (∀ p ∈ ws, p.length ≤ 10000) ∧ acc.length + ws.length ≤ 10001 ∧ i ≤ 10001 ∧ S = ⟨[some (SV.p v), some (SV.ol (acc.map .int)), x2, x3, x4], n⟩) ?_ ?_ _ _ ⟨0, partsL s, [], _, _, _, rfl, hF, fun p hp => by have := parts_len hp; omega, by have := parts_cnt s; simp; omega, by omega, rfl⟩
  · rintro x xs S ⟨i, ws, acc, x2, x3, x4, e1, hf, hw, hz, hi, rfl⟩ K2 hK
    cases ws with
    | nil => cases e1
    | cons p ps =>
      rw [zip_cons] at e1
      obtain ⟨rfl, rfl⟩ := List.cons.inj e1
      have hp := hw p List.mem_cons_self
      rw [List.length_cons] at hz
      rw [rowGo_cons] at hf
      have bad : rowBad i p = true → ED ("BadText", "place", .int i) n := fun hb => by
        rw [if_pos hb] at hf
        exact hf
      have good : rowBad i p = false → (acc.map D.int).length < 16777216 ∧ K2 ⟨[some (SV.p v), some (SV.ol (acc.map D.int ++ [D.int (valP p)])), some (SV.p (D.int i)), some (SV.p (D.str p)), some (SV.p (D.int (valP p)))], n⟩ := fun hb => by
        rw [if_neg (by rw [hb]; exact Bool.false_ne_true)] at hf
        refine ⟨by rw [List.length_map]; omega, hK _ ⟨i + 1, ps, acc ++ [valP p], _, _, _, rfl, hf, fun q hq => hw q (List.mem_cons_of_mem _ hq), by rw [List.length_append]; simp; omega, ?_, by rw [List.map_append]; rfl⟩⟩
        unfold rowBad at hb
        rw [Bool.or_eq_false_iff, decide_eq_false_iff_not] at hb
        omega
      unfold zS
      walk_at "dl"
      by_cases hd : p = "."
      · have v0 : valP p = 0 := if_pos hd
        rw [v0] at good
        refine (if_pos (by simpa using hd)).mpr ?_
        refine (if_neg (by simp)).mpr ?_
        refine (if_neg (by simp)).mpr ?_
        refine (if_pos (by simp)).mpr ?_
        refine (if_neg (by simpa using hd)).mpr ?_
        have hb : rowBad i p = decide (1000 < i) := by
          unfold rowBad
          rw [decide_eq_false (by simpa using hd)]
          rfl
        by_cases hi2 : 1000 < i
        · exact (if_pos (by simp; omega)).mpr (bad (by rw [hb]; exact decide_eq_true hi2))
        · exact (if_neg (by simp; omega)).mpr (good (by rw [hb]; exact decide_eq_false hi2))
      · have v0 : valP p = lawNum p := if_neg hd
        rw [v0] at good
        refine (if_neg (by simpa using hd)).mpr ?_
        refine ⟨_, rfl, p, rfl, by omega, fun _ => ?_⟩
        rw [int_law]
        have hr := lawNum_range p
        have hb : rowBad i p = (!(decide (1 ≤ lawNum p) && decide (lawNum p ≤ 500)) || decide (1000 < i)) := by
          unfold rowBad
          rw [decide_eq_true hd]
          rfl
        generalize lawNum p = z at *
        walk_at "dl"
        by_cases c1 : 500 < z
        · exact (if_pos (by simpa using c1)).mpr (bad (by rw [hb, decide_eq_false (show ¬ z ≤ 500 by omega), Bool.and_false]; rfl))
        refine (if_neg (by simpa using c1)).mpr ?_
        by_cases c2 : z < 0
        · exact (if_pos (by simpa using c2)).mpr (bad (by rw [hb, decide_eq_false (show ¬ 1 ≤ z by omega)]; rfl))
        refine (if_neg (by simpa using c2)).mpr ?_
        by_cases c3 : z = 0
        · refine (if_pos (by simpa using c3)).mpr ?_
          exact (if_pos (by simpa using hd)).mpr (bad (by rw [hb, decide_eq_false (show ¬ 1 ≤ z by omega)]; rfl))
        refine (if_neg (by simpa using c3)).mpr ?_
        have hb2 : rowBad i p = decide (1000 < i) := by
          rw [hb, decide_eq_true (show 1 ≤ z by omega), decide_eq_true (show z ≤ 500 by omega)]
          rfl
        by_cases hi2 : 1000 < i
        · exact (if_pos (by simp; omega)).mpr (bad (by rw [hb2]; exact decide_eq_true hi2))
        · exact (if_neg (by simp; omega)).mpr (good (by rw [hb2]; exact decide_eq_false hi2))
  · rintro S ⟨i, ws, acc, x2, x3, x4, e1, hf, hw, hz, hi, rfl⟩
    have e2 : ws = [] := by
      cases ws with
      | nil => rfl
      | cons p ps => cases e1
    subst e2
    walk_at "dl"
    exact hf
def m_read_blocks : MT := mt1 fun v n Q E => v.isv = true ∧ (v.isStr = false → E ("BadText", "place", .int (-1)) n) ∧ ∀ s, v = .str s → s.length ≤ 10000000 ∧ (10000 < s.length → E ("BadText", "place", .int (-1)) n) ∧ (s.length ≤ 10000 → eB E Q n (blkGo 0 [] (partsL s)))
theorem areIn_map (l : List Int) : areIn 3 3 0 3000 (l.map .int) = okB l := by
  unfold areIn okB
  rw [List.length_map, List.all_map]
  have e1 : (decide ((3 : Int) ≤ l.length) && decide ((l.length : Int) ≤ 3)) = decide (l.length = 3) := by
    rw [Bool.eq_iff_iff]
    simp
    omega
  rw [e1]
  rfl
abbrev s_read_blocks : Stmt := topS 22
abbrev N_read_blocks : List Str := ["text", "found", "at", "part", "block", "word"]
theorem sc_read_blocks : FnScope N_read_blocks ["text"] (defScope s_read_blocks) := ⟨rfl, rfl, rfl, by decide +kernel, rfl, by decide +kernel, by decide +kernel⟩
theorem b_read_blocks (kV doc pm : Value) (an : Option Addr) (cdv ct : Value) (us : List Value) (hl : us.length = (["text"] : List Str).length) : bindArgs (PySem.W.fnOf "read_blocks" "read_blocks" (defArgs s_read_blocks) (defBody s_read_blocks) (defScope s_read_blocks) .none kV doc pm an cdv ct) ⟨us, []⟩ = pure ((["text"] : List Str).zip us) := match us, hl with | [_], _ => rfl
theorem ok_read_blocks {f : Addr} {fd : FuncData} (F : Fun K "read_blocks" "read_blocks" s_read_blocks f fd) (hm : mg "read_blocks" = some (.ref f)) (B : Bi mg) (K_MOST_BLOCKS : ∃ t, mg "MOST_BLOCKS" = some (.int 500 t)) (K_MOST_ORDER : ∃ t, mg "MOST_ORDER" = some (.int 3001 t)) (C_parts_of : CalD P w K mg base T (L2.CX P w) 3 "parts_of" s_parts_of ["text"] m_parts_of) (C_integer_of : CalD P w K mg base T CX0 1 "integer_of" s_integer_of ["text"] m_integer_of) (C_are_in : CalD P w K mg base T CX0 2 "are_in" s_are_in ["value", "least", "most", "low", "high"] m_are_in) (R_BadText : RaiseC P w K mg base "BadText" "place")  : CalD P w K mg base T (L2.CX P w) 4 "read_blocks" s_read_blocks ["text"] m_read_blocks := by
  have hx {cdv : Value} {A : Around} {outer : List Env} {s : Shared} {H : Hp} {E : XK} : Passes (L2.CX P w) (cxOf (L2.CX P w) P w K mg base N_read_blocks "read_blocks" (defScope s_read_blocks) f cdv A outer s H E) E := passes_call (takes_of rfl rfl rfl rfl) fun _ _ _ _ h => h
  refine okDX F hm sc_read_blocks ar1 (fun cdv A outer s G H n E ED hr L => ⟨_, (pdss_cons (pds_own (i := 1) sc_read_blocks.nd rfl (.inl rfl) (pdf_lst pda_nil))
      (pdss_cons (pds_for (passes_of rfl) rfl (pdi_enumL (by rfl) B.enumerate (pda_cons (pd_callZ C_parts_of (lkX L hx) (hr.mono (by decide)) (by rfl) b_parts_of (pda_cons (pdv 0) pda_nil)) pda_nil)) (pdg_tup (n := 2) rfl (pdgs_cons (pdg_name (i := 2) sc_read_blocks.nd rfl (.inl rfl)) (pdgs_cons (pdg_name (i := 3) sc_read_blocks.nd rfl (.inl rfl)) pdgs_nil))) (pdss_cons (pds_set (i := 4) sc_read_blocks.nd rfl (.inl rfl) (pd_callTy cd_tuple (by rfl) B.tuple (by decide +kernel) (pda_cons (pd_lc rfl sc_read_blocks.nd (pdi_list (pd_split (pdv 3) pd_str)) (blkOk_by (own := [("word", 5)]) (N := N_read_blocks) (sc := defScope s_read_blocks) (by decide +kernel)) (fun _ _ _ _ _ => pg_name (i := 5) sc_read_blocks.nd rfl (by first | exact .inl rfl | exact .inr rfl)) (fun _ _ _ _ _ => pdts_nil) (fun _ _ _ _ _ => (pd_callZ C_integer_of lk0 (hr.mono (by decide)) (by rfl) b_integer_of (pda_cons (pdv 5) pda_nil)))) pda_nil)))
      (pdss_cons (pds_if (pdw_pt (pdw_or (pdt_not (pdt_val (pd_callZ C_are_in lk0 (hr.mono (by decide)) (by rfl) b_are_in (pda_cons (pdv 4) (pda_cons pd_int (pda_cons pd_int (pda_cons pd_int (pda_cons (pd_op od_sub (pd_kint K_MOST_ORDER (by rfl)) pd_int) pda_nil)))))))) (pdw_or1 (pdt_cmp od_ge (pdv 2) (pd_kint K_MOST_BLOCKS (by rfl)) (nomark _))))) (pdss_one (pds_raise R_BadText L rfl (takes_of rfl rfl rfl rfl) (hr.mono (by decide)) (by rfl) (pdv 2))) pdss_nil)
      (pdss_one (pds_expr (pd_append (i := 1) rfl (by first | exact Or.inl rfl | exact Or.inr (Or.inl rfl) | exact Or.inr (Or.inr rfl)) (pdv 4)))))))
      (pdss_one (pds_ret (pd_callTy cd_tuple (by rfl) B.tuple (by decide +kernel) (pda_cons (pdv 1) pda_nil)))))), fun ds Qd hl h => ?_⟩)
  obtain ⟨v, rfl, hv, h1, h2⟩ := h
  walk_at "dl"
  refine ⟨v, rfl, hv, h1, fun s e => ⟨(h2 s e).1, (h2 s e).2.1, fun hs _ => ?_⟩⟩
  have hF := (h2 s e).2.2 hs
  refine ⟨_, rfl, ?_⟩
  rw [enum_zs]
  refine loop_inv zS (fun ps S => ∃ (i : Nat) (ws : List Str) (acc : List (List Int)) (x2 x3 x4 : Option SV), ps = ws.zipIdx i ∧ eB ED Qd n (blkGo i acc ws) ∧ (∀ p ∈ ws, p.length ≤ 10000) ∧ acc.length + ws.length ≤ 10001 ∧ i ≤ 10001 ∧ S = ⟨[some (SV.p v), some (SV.ol (acc.map bI)), x2, x3, x4, none], n⟩) ?_ ?_ _ _ ⟨0, partsL s, [], _, _, _, rfl, hF, fun p hp => by have := parts_len hp; omega, by have := parts_cnt s; simp; omega, by omega, rfl⟩
  · rintro x xs S ⟨i, ws, acc, x2, x3, x4, e1, hf, hw, hz, hi, rfl⟩ K2 hK
    cases ws with
    | nil => cases e1
    | cons p ps =>
      rw [zip_cons] at e1
      obtain ⟨rfl, rfl⟩ := List.cons.inj e1
      have hp := hw p List.mem_cons_self
      rw [List.length_cons] at hz
      rw [blkGo_cons] at hf
      have bad : blkBad i p = true → ED ("BadText", "place", .int i) n := fun hb => by
        rw [if_pos hb] at hf
        exact hf
      have good : blkBad i p = false → (acc.map bI).length < 16777216 ∧ K2 ⟨[some (SV.p v), some (SV.ol (acc.map bI ++ [bI (blkOf p)])), some (SV.p (D.int i)), some (SV.p (D.str p)), some (SV.p (bI (blkOf p))), none], n⟩ := fun hb => by
        rw [if_neg (by rw [hb]; exact Bool.false_ne_true)] at hf
        refine ⟨by rw [List.length_map]; omega, hK _ ⟨i + 1, ps, acc ++ [blkOf p], _, _, _, rfl, hf, fun q hq => hw q (List.mem_cons_of_mem _ hq), by rw [List.length_append]; simp; omega, ?_, by rw [List.map_append]; rfl⟩⟩
        unfold blkBad at hb
        rw [Bool.or_eq_false_iff, decide_eq_false_iff_not] at hb
        omega
      have cnt := split_cnt p "-" (by decide +kernel)
      unfold zS
      walk_at "dl"
      refine ⟨by decide +kernel, by omega, ?_⟩
      refine comp_on D.str (fun q => some (D.int (lawNum q))) (Txt.split p "-") [] (fun q hq => ⟨_, rfl, fun K hK => ?_⟩) (by simp; omega) ?_
      · walk_at "dl"
        refine ⟨_, rfl, q, rfl, ?_, fun _ => ?_⟩
        · have := split_len (y := "-") (by decide +kernel) hq
          omega
        · rw [int_law]
          exact hK
      rw [List.nil_append, fm_map]
      have e3 : (Txt.split p "-").map (fun q => D.int (lawNum q)) = (blkOf p).map .int := by
        unfold blkOf
        rw [List.map_map]
        rfl
      rw [e3]
      refine ⟨_, _, _, _, _, rfl, rfl, 3, 3, 0, 3000, rfl, rfl, rfl, rfl, (fun hn => absurd rfl (hn _)), fun xs e => ?_⟩
      cases e
      refine ⟨fun x hx => ?_, ?_, fun _ => ?_⟩
      · obtain ⟨j, _, rfl⟩ := List.mem_map.mp hx
        rfl
      · unfold blkOf
        simp
        omega
      rw [areIn_map]
      have hb : blkBad i p = (!okB (blkOf p) || decide (499 < i)) := rfl
      refine ⟨_, rfl, ?_⟩
      cases c : okB (blkOf p) with
      | false =>
        rw [c] at hb
        exact (if_pos rfl).mpr (bad hb)
      | true =>
        rw [c] at hb
        refine (if_neg (by simp)).mpr ?_
        by_cases hi2 : 499 < i
        · exact (if_pos (by simp; omega)).mpr (bad (by rw [hb, decide_eq_true hi2]; rfl))
        · exact (if_neg (by simp; omega)).mpr (good (by rw [hb, decide_eq_false hi2]; rfl))
  · rintro S ⟨i, ws, acc, x2, x3, x4, e1, hf, hw, hz, hi, rfl⟩
    have e2 : ws = [] := by
      cases ws with
      | nil => rfl
      | cons p ps => cases e1
    subst e2
    walk_at "dl"
    exact hf
end
end K5
set_option maxHeartbeats 1000000
namespace K5
open PySem PySem.Spec PyProof.Rows L2 DL
local macro_rules | `(tactic| walk_at "dl") => `(tactic| simp only [dSplit, dJoin, dRevS, dMet, w_str, w_strI, w_lenS, w_slS, w_addS', w_eqS, w_neS, dSeq, dRet, dDice, dSortI, dMaxI, dLstRg, dfDictT, dDGetT, dDPutT, dExtend, dExtT, dLenOl, dDst, dPopAt, dParFF, dParFP, dParPF, dAppend, otAt, dDGet2, dDGet, dDIn, dDPut, dCallG, dSpread, dLcD, dctAt, noOwn, gLenD, gdPair, itemD, dAsg, dIfS, dVar, dC, dOp, dB, dChain, dAnd, dOr, dNot, dAndV, dOrV, dNotV, dCall, dNil, dCons, dFn, dIf, dTup, dLst, dDrop, dNext, dNeg, dSl, dNoPart, dPart, dRaise, dYes, dTupI, dLstI, dStrI, dRg1, dRg2, dEnumL, dEnumT, dRevL, dRevT, dLc, setsD, wipeD, dPar, dPar3, dOwn, dfRep, dfLst, dfList, dfDict, dFor, dgTup, dgCons, dgName, dgNil, dAsgG, dgSetIx, olAt, odAt, ent, froz,
  List.map_cons, List.map_nil, List.getElem?_cons_zero, List.getElem?_cons_succ, List.set_cons_zero, List.set_cons_succ, List.replicate, List.length_cons, List.length_nil, List.cons_append, List.nil_append, Nat.reduceAdd, Nat.reduceSub, Nat.reduceLeDiff,
  w_iteA, w_some, w_none, w_bl, w_bl2, w_int, w_lst, w_tup, w_eq, w_mulL, w_mulR, w_mod, w_div, Int.reduceLT, Int.reduceNeg, Int.reducePow, Int.reduceAdd, Int.reduceSub, Int.reduceMul, and_self, w_cons, w_set, w_lrange, w_lrange1, w_ltup, w_llst, w_par, w_par3, w_tupL, w_tupT, w_listL, w_listT, w_all1, w_all2, w_own0, w_ownP, w_g2T, w_addI, w_addL, w_addT, w_lenT, w_lenL, w_intI, w_intB, w_eqI, w_neI, w_eqB, w_neB, w_ixT, w_ixL, w_slL, w_slT, w_keyI, w_keyS, w_ex, w_two, w_three, if_true, if_false, Bool.false_eq_true, Bool.true_eq_false, Bool.not_true, Bool.not_false, eq_self, true_and, and_true])
section
variable {P : Program} {w : World} {K : PySem.W.Frag} {mg : MG} {base : Heap} {T : TT0}



theorem rowGo_cons' {i : Nat} {acc : List Int} {p : Str} {ps : List Str} : rowGo i acc (p :: ps) = if rowBad i p = true then .inl i else rowGo (i + 1) (acc ++ [valP p]) ps := rfl
theorem one_more {α : Type} {W pre ws : List α} {w : α} (h : W = pre ++ w :: ws) : W = (pre ++ [w]) ++ ws := by rw [h, List.append_assoc]; rfl
def m__law_row_due : MT := mt1 fun v n Q E => ∃ s : Str, v = .str s ∧ s.length ≤ 10000 ∧ asc s ∧ Q (rD (rowGo 0 [] (partsL s))) n
abbrev s__law_row_due : Stmt := topS 30
abbrev N__law_row_due : List Str := ["text", "found", "parts", "at"]
theorem sc__law_row_due : FnScope N__law_row_due ["text"] (defScope s__law_row_due) := ⟨rfl, rfl, rfl, by decide +kernel, rfl, by decide +kernel, by decide +kernel⟩
theorem b__law_row_due (kV doc pm : Value) (an : Option Addr) (cdv ct : Value) (us : List Value) (hl : us.length = (["text"] : List Str).length) : bindArgs (PySem.W.fnOf "_law_row_due" "_law_row_due" (defArgs s__law_row_due) (defBody s__law_row_due) (defScope s__law_row_due) .none kV doc pm an cdv ct) ⟨us, []⟩ = pure ((["text"] : List Str).zip us) := match us, hl with | [_], _ => rfl
theorem ok__law_row_due {f : Addr} {fd : FuncData} (F : Fun K "_law_row_due" "_law_row_due" s__law_row_due f fd) (hm : mg "_law_row_due" = some (.ref f)) (B : Bi mg)  (C__law_number : CalD P w K mg base T CX0 1 "_law_number" s__law_number ["word"] m__law_number)  : CalD P w K mg base T CX0 2 "_law_row_due" s__law_row_due ["text"] m__law_row_due := by
  refine okD F hm sc__law_row_due ar1 (fun cdv A outer s G H n E ED hr => ⟨_, (pdss_cons (pds_parFP (i := 1) (j := 2) rfl sc__law_row_due.nd rfl rfl (by decide) rfl rfl (pdf_lst pda_nil) (pd_if (pdt_cmp (od_ne (hu64 hr)) (pdv 0) pd_str (nomark _)) (pd_split (pdv 0) pd_str) (pd_lst pda_nil)) (by rfl))
      (pdss_cons (pds_for PassesOwn.never rfl (pdi_range1 (by rfl) B.range (pda_cons (pd_callB cd_len (by rfl) B.len (by decide +kernel) (pda_cons (pdv 2) pda_nil)) pda_nil)) (pdg_name (i := 3) sc__law_row_due.nd rfl (.inl rfl)) (pdss_cons (pds_if (pdw_pt (pdw_or (pdw_pt (pdw_and (pdt_cmp (od_ne (hu64 hr)) (pd_ix (pdv 2) (pdv 3)) pd_str (nomark _)) (pdw_and1 (pdt_not (pdt_chain od_le od_le pd_int (pd_callZ C__law_number lk0 (hr.mono (by decide)) (by rfl) b__law_number (pda_cons (pd_ix (pdv 2) (pdv 3)) pda_nil)) pd_int))))) (pdw_or1 (pdt_cmp od_gt (pdv 3) pd_int (nomark _))))) (pdss_one (pds_ret (pd_tup (pda_cons pd_str (pda_cons (pdv 3) pda_nil))))) pdss_nil)
      (pdss_one (pds_expr (pd_append (i := 1) rfl (by first | exact Or.inl rfl | exact Or.inr (Or.inl rfl) | exact Or.inr (Or.inr rfl)) (pd_if (pdt_cmp (od_eq (hu64 hr)) (pd_ix (pdv 2) (pdv 3)) pd_str (nomark _)) pd_int (pd_callZ C__law_number lk0 (hr.mono (by decide)) (by rfl) b__law_number (pda_cons (pd_ix (pdv 2) (pdv 3)) pda_nil))))))))
      (pdss_one (pds_ret (pd_tup (pda_cons pd_str (pda_cons (pd_callTy cd_tuple (by rfl) B.tuple (by decide +kernel) (pda_cons (pdv 1) pda_nil)) pda_nil))))))), fun ds Qd hl h => ?_⟩)
  obtain ⟨v, rfl, s, rfl, hs, ha, hQ⟩ := h
  walk_at "dl"
  by_cases he : s = ""
  · have e : partsL s = [] := if_pos he
    rw [e] at hQ
    refine (if_neg (by simpa using he)).mpr ⟨⟨by omega, by omega⟩, ?_⟩
    rw [show rgD 0 (Int.toNat ((0 : Nat) : Int)) = [] from rfl]
    unfold dLoop
    walk_at "dl"
    exact hQ
  have e : partsL s = Txt.split s " " := if_neg he
  refine (if_pos (by simpa using he)).mpr ⟨by decide +kernel, by omega, ?_⟩
  have hc := parts_cnt s
  have hpl : ∀ p ∈ partsL s, p.length ≤ 10000 ∧ asc p := fun p hp => ⟨by have := parts_len hp; omega, parts_asc ha hp⟩
  rw [← e]
  generalize partsL s = W at *
  rw [List.length_map]
  refine ⟨⟨by omega, by omega⟩, ?_⟩
  rw [rgD_eq, Int.toNat_natCast]
  refine loop_inv D.int (fun xs S => ∃ (i : Nat) (pre ws : List Str) (acc : List Int) (x3 : Option SV), xs = rgI i ws.length ∧ W = pre ++ ws ∧ pre.length = i ∧ Qd (rD (rowGo i acc ws)) n ∧ acc.length + ws.length ≤ 10001 ∧ S = ⟨[some (SV.p (.str s)), some (SV.ol (acc.map .int)), some (SV.p (.lst (W.map .str))), x3], n⟩) ?_ ?_ _ _ ⟨0, [], W, [], none, rfl, rfl, rfl, hQ, by simp; omega, rfl⟩
  · rintro x xs S ⟨i, pre, ws, acc, x3, e1, hW, hi, hf, hz, rfl⟩ K2 hK
    cases ws with
    | nil => cases e1
    | cons p ps =>
      rw [List.length_cons, rgI_cons] at e1
      obtain ⟨rfl, rfl⟩ := List.cons.inj e1
      have hix := ix_at hW hi
      obtain ⟨hp, hpa⟩ := hpl p (by rw [hW]; simp)
      rw [List.length_cons] at hz
      rw [rowGo_cons'] at hf
      have hi2 : i ≤ 10001 := by
        have : W.length = i + (ps.length + 1) := by rw [hW, List.length_append, hi, List.length_cons]
        omega
      have bad : rowBad i p = true → Qd (.tup [.str "bad", .int (i : Nat)]) n := fun hb => by
        rw [if_pos hb] at hf
        exact hf
      have good : rowBad i p = false → (acc.map D.int).length < 16777216 ∧ K2 ⟨[some (SV.p (.str s)), some (SV.ol (acc.map D.int ++ [D.int (valP p)])), some (SV.p (.lst (W.map .str))), some (SV.p (.int (i : Nat)))], n⟩ := fun hb => by
        rw [if_neg (by rw [hb]; exact Bool.false_ne_true)] at hf
        exact ⟨by rw [List.length_map]; omega, hK _ ⟨i + 1, pre ++ [p], ps, acc ++ [valP p], _, rfl, one_more hW, by rw [List.length_append, hi]; rfl, hf, by rw [List.length_append]; simp; omega, by rw [List.map_append]; rfl⟩⟩
      walk_at "dl"
      rw [hix]
      walk_at "dl"
      have num : ∀ {Q2 : D → Nat → Prop} {m : Nat}, Q2 (.int (lawNum p)) m → m__law_number [.str p] m Q2 ED0 := fun {Q2 m} q => ⟨_, rfl, p, rfl, by omega, hpa, q⟩
      by_cases hd : p = "."
      · have v0 : valP p = 0 := if_pos hd
        rw [v0] at good
        have hb : rowBad i p = decide (1000 < i) := by
          unfold rowBad
          rw [decide_eq_false (by simpa using hd)]
          rfl
        refine (if_neg (by simpa using hd)).mpr ?_
        by_cases hi3 : 1000 < i
        · exact (if_pos (by simp; omega)).mpr (bad (by rw [hb]; exact decide_eq_true hi3))
        · refine (if_neg (by simp; omega)).mpr ?_
          refine (if_pos (by simpa using hd)).mpr (good (by rw [hb]; exact decide_eq_false hi3))
      · have v0 : valP p = lawNum p := if_neg hd
        rw [v0] at good
        have hb : rowBad i p = (!(decide (1 ≤ lawNum p) && decide (lawNum p ≤ 500)) || decide (1000 < i)) := by
          unfold rowBad
          rw [decide_eq_true hd]
          rfl
        refine (if_pos (by simpa using hd)).mpr (num fun _ => ?_)
        generalize lawNum p = z at *
        refine ⟨_, rfl, ?_⟩
        by_cases c1 : 1 ≤ z
        · refine (if_pos (by simpa using c1)).mpr ?_
          refine ⟨_, rfl, _, rfl, ?_⟩
          by_cases c2 : z ≤ 500
          · refine (if_neg (by simp; omega)).mpr ?_
            have hb2 : rowBad i p = decide (1000 < i) := by
              rw [hb, decide_eq_true c1, decide_eq_true c2]
              rfl
            by_cases hi3 : 1000 < i
            · exact (if_pos (by simp; omega)).mpr (bad (by rw [hb2]; exact decide_eq_true hi3))
            · refine (if_neg (by simp; omega)).mpr ?_
              refine (if_neg (by simpa using hd)).mpr (num fun _ => ?_)
              exact good (by rw [hb2]; exact decide_eq_false hi3)
          · refine (if_pos (by simp; omega)).mpr (bad ?_)
            rw [hb, decide_eq_true c1, decide_eq_false c2]
            rfl
        · refine (if_neg (by simpa using c1)).mpr (bad ?_)
          rw [hb, decide_eq_false c1]
          rfl
  · rintro S ⟨i, pre, ws, acc, x3, e1, hW, hi, hf, hz, rfl⟩
    have e2 : ws = [] := by
      cases ws with
      | nil => rfl
      | cons p ps =>
        rw [List.length_cons, rgI_cons] at e1
        cases e1
    subst e2
    walk_at "dl"
    exact hf
theorem blkGo_cons' {i : Nat} {acc : List (List Int)} {p : Str} {ps : List Str} : blkGo i acc (p :: ps) = if blkBad i p = true then .inl i else blkGo (i + 1) (acc ++ [blkOf p]) ps := rfl
def m__law_blocks_due : MT := mt1 fun v n Q E => ∃ s : Str, v = .str s ∧ s.length ≤ 10000 ∧ asc s ∧ Q (bD (blkGo 0 [] (partsL s))) n
abbrev s__law_blocks_due : Stmt := topS 31
abbrev N__law_blocks_due : List Str := ["text", "found", "parts", "at", "block", "word", "one"]
theorem sc__law_blocks_due : FnScope N__law_blocks_due ["text"] (defScope s__law_blocks_due) := ⟨rfl, rfl, rfl, by decide +kernel, rfl, by decide +kernel, by decide +kernel⟩
theorem b__law_blocks_due (kV doc pm : Value) (an : Option Addr) (cdv ct : Value) (us : List Value) (hl : us.length = (["text"] : List Str).length) : bindArgs (PySem.W.fnOf "_law_blocks_due" "_law_blocks_due" (defArgs s__law_blocks_due) (defBody s__law_blocks_due) (defScope s__law_blocks_due) .none kV doc pm an cdv ct) ⟨us, []⟩ = pure ((["text"] : List Str).zip us) := match us, hl with | [_], _ => rfl
theorem ok__law_blocks_due {f : Addr} {fd : FuncData} (F : Fun K "_law_blocks_due" "_law_blocks_due" s__law_blocks_due f fd) (hm : mg "_law_blocks_due" = some (.ref f)) (B : Bi mg)  (C__law_number : CalD P w K mg base T CX0 1 "_law_number" s__law_number ["word"] m__law_number)  : CalD P w K mg base T CX0 2 "_law_blocks_due" s__law_blocks_due ["text"] m__law_blocks_due := by
  refine okD F hm sc__law_blocks_due ar1 (fun cdv A outer s G H n E ED hr => ⟨_, (pdss_cons (pds_parFP (i := 1) (j := 2) rfl sc__law_blocks_due.nd rfl rfl (by decide) rfl rfl (pdf_lst pda_nil) (pd_if (pdt_cmp (od_ne (hu64 hr)) (pdv 0) pd_str (nomark _)) (pd_split (pdv 0) pd_str) (pd_lst pda_nil)) (by rfl))
      (pdss_cons (pds_for PassesOwn.never rfl (pdi_range1 (by rfl) B.range (pda_cons (pd_callB cd_len (by rfl) B.len (by decide +kernel) (pda_cons (pdv 2) pda_nil)) pda_nil)) (pdg_name (i := 3) sc__law_blocks_due.nd rfl (.inl rfl)) (pdss_cons (pds_set (i := 4) sc__law_blocks_due.nd rfl (.inl rfl) (pd_callTy cd_tuple (by rfl) B.tuple (by decide +kernel) (pda_cons (pd_lc rfl sc__law_blocks_due.nd (pdi_list (pd_split (pd_ix (pdv 2) (pdv 3)) pd_str)) (blkOk_by (own := [("word", 5)]) (N := N__law_blocks_due) (sc := defScope s__law_blocks_due) (by decide +kernel)) (fun _ _ _ _ _ => pg_name (i := 5) sc__law_blocks_due.nd rfl (by first | exact .inl rfl | exact .inr rfl)) (fun _ _ _ _ _ => pdts_nil) (fun _ _ _ _ _ => (pd_callZ C__law_number lk0 (hr.mono (by decide)) (by rfl) b__law_number (pda_cons (pdv 5) pda_nil)))) pda_nil)))
      (pdss_cons (pds_if (pdw_pt (pdw_or (pdt_cmp (od_ne (hu64 hr)) (pd_callB cd_len (by rfl) B.len (by decide +kernel) (pda_cons (pdv 4) pda_nil)) pd_int (nomark _)) (pdw_or (pdt_cmp (od_ne (hu64 hr)) (pd_lc rfl sc__law_blocks_due.nd (pdi_tup (pdv 4)) (blkOk_by (own := [("one", 6)]) (N := N__law_blocks_due) (sc := defScope s__law_blocks_due) (by decide +kernel)) (fun _ _ _ _ _ => pg_name (i := 6) sc__law_blocks_due.nd rfl (by first | exact .inl rfl | exact .inr rfl)) (fun _ _ _ _ _ => (pdts_one (pdt_not (pdt_chain od_le od_le pd_int (pdv 6) pd_int)))) (fun _ _ _ _ _ => (pdv 6))) (pd_lst pda_nil) (nomark _)) (pdw_or1 (pdt_cmp od_gt (pdv 3) pd_int (nomark _)))))) (pdss_one (pds_ret (pd_tup (pda_cons pd_str (pda_cons (pdv 3) pda_nil))))) pdss_nil)
      (pdss_one (pds_expr (pd_append (i := 1) rfl (by first | exact Or.inl rfl | exact Or.inr (Or.inl rfl) | exact Or.inr (Or.inr rfl)) (pdv 4)))))))
      (pdss_one (pds_ret (pd_tup (pda_cons pd_str (pda_cons (pd_callTy cd_tuple (by rfl) B.tuple (by decide +kernel) (pda_cons (pdv 1) pda_nil)) pda_nil))))))), fun ds Qd hl h => ?_⟩)
  obtain ⟨v, rfl, s, rfl, hs, ha, hQ⟩ := h
  walk_at "dl"
  by_cases he : s = ""
  · have e : partsL s = [] := if_pos he
    rw [e] at hQ
    refine (if_neg (by simpa using he)).mpr ⟨⟨by omega, by omega⟩, ?_⟩
    rw [show rgD 0 (Int.toNat ((0 : Nat) : Int)) = [] from rfl]
    unfold dLoop
    walk_at "dl"
    exact hQ
  have e : partsL s = Txt.split s " " := if_neg he
  refine (if_pos (by simpa using he)).mpr ⟨by decide +kernel, by omega, ?_⟩
  have hc := parts_cnt s
  have hpl : ∀ p ∈ partsL s, p.length ≤ 10000 ∧ asc p := fun p hp => ⟨by have := parts_len hp; omega, parts_asc ha hp⟩
  rw [← e]
  generalize partsL s = W at *
  rw [List.length_map]
  refine ⟨⟨by omega, by omega⟩, ?_⟩
  rw [rgD_eq, Int.toNat_natCast]
  refine loop_inv D.int (fun xs S => ∃ (i : Nat) (pre ws : List Str) (acc : List (List Int)) (x3 x4 : Option SV), xs = rgI i ws.length ∧ W = pre ++ ws ∧ pre.length = i ∧ Qd (bD (blkGo i acc ws)) n ∧ acc.length + ws.length ≤ 10001 ∧ S = ⟨[some (SV.p (.str s)), some (SV.ol (acc.map bI)), some (SV.p (.lst (W.map .str))), x3, x4, none, none], n⟩) ?_ ?_ _ _ ⟨0, [], W, [], none, none, rfl, rfl, rfl, hQ, by simp; omega, rfl⟩
  · rintro x xs S ⟨i, pre, ws, acc, x3, x4, e1, hW, hi, hf, hz, rfl⟩ K2 hK
    cases ws with
    | nil => cases e1
    | cons p ps =>
      rw [List.length_cons, rgI_cons] at e1
      obtain ⟨rfl, rfl⟩ := List.cons.inj e1
      have hix := ix_at hW hi
      obtain ⟨hp, hpa⟩ := hpl p (by rw [hW]; simp)
      rw [List.length_cons] at hz
      rw [blkGo_cons'] at hf
      have hi2 : i ≤ 10001 := by
        have : W.length = i + (ps.length + 1) := by rw [hW, List.length_append, hi, List.length_cons]
        omega
      have bad : blkBad i p = true → Qd (.tup [.str "bad", .int (i : Nat)]) n := fun hb => by
        rw [if_pos hb] at hf
        exact hf
      have good : blkBad i p = false → (acc.map bI).length < 16777216 ∧ K2 ⟨[some (SV.p (.str s)), some (SV.ol (acc.map bI ++ [bI (blkOf p)])), some (SV.p (.lst (W.map .str))), some (SV.p (.int (i : Nat))), some (SV.p (bI (blkOf p))), none, none], n⟩ := fun hb => by
        rw [if_neg (by rw [hb]; exact Bool.false_ne_true)] at hf
        exact ⟨by rw [List.length_map]; omega, hK _ ⟨i + 1, pre ++ [p], ps, acc ++ [blkOf p], _, _, rfl, one_more hW, by rw [List.length_append, hi]; rfl, hf, by rw [List.length_append]; simp; omega, by rw [List.map_append]; rfl⟩⟩
      have cnt := split_cnt p "-" (by decide +kernel)
      walk_at "dl"
      rw [hix]
      walk_at "dl"
      refine ⟨by decide +kernel, by omega, ?_⟩
      refine comp_on D.str (fun q => some (D.int (lawNum q))) (Txt.split p "-") [] (fun q hq => ⟨_, rfl, fun K hK => ?_⟩) (by simp; omega) ?_
      · walk_at "dl"
        refine ⟨_, rfl, q, rfl, ?_, split_asc hpa hq, fun _ => hK⟩
        have := split_len (y := "-") (by decide +kernel) hq
        omega
      rw [List.nil_append, fm_map]
      have e3 : (Txt.split p "-").map (fun q => D.int (lawNum q)) = (blkOf p).map .int := by
        unfold blkOf
        rw [List.map_map]
        rfl
      have bl : (blkOf p).length ≤ 10001 := by
        unfold blkOf
        rw [List.length_map]
        omega
      rw [e3]
      have hb : blkBad i p = (!okB (blkOf p) || decide (499 < i)) := rfl
      unfold bI at good
      generalize blkOf p = t at *
      unfold okB at hb
      rw [List.length_map]
      by_cases c1 : t.length = 3
      · rw [decide_eq_true c1, Bool.true_and] at hb
        refine (if_neg (by simp [c1])).mpr ?_
        refine comp_on D.int (fun i => if (!(decide (0 ≤ i) && decide (i ≤ 3000))) = true then some (D.int i) else none) t [] (fun j hj => ⟨_, rfl, fun K hK => ?_⟩) (by simp; omega) ?_
        · walk_at "dl"
          by_cases q1 : 0 ≤ j
          · rw [decide_eq_true q1] at hK
            refine (if_pos (decide_eq_true q1)).mpr ?_
            by_cases q2 : j ≤ 3000
            · rw [decide_eq_true q2] at hK ⊢
              exact hK
            · rw [decide_eq_false q2] at hK ⊢
              exact hK
          · rw [decide_eq_false q1] at hK
            exact (if_neg (by simpa using q1)).mpr hK
        rw [List.nil_append, fm_filter (fun i : Int => !(decide (0 ≤ i) && decide (i ≤ 3000))) D.int]
        rw [w_neL (k := 0) (Ok.ints _) (by omega), bad_is (fun i : Int => decide (0 ≤ i) && decide (i ≤ 3000))]
        refine ⟨_, rfl, _, rfl, ?_⟩
        cases c2 : t.all fun i => decide (0 ≤ i) && decide (i ≤ 3000) with
        | false =>
          rw [c2] at hb
          exact (if_pos rfl).mpr (bad hb)
        | true =>
          rw [c2] at hb
          refine (if_neg (by simp)).mpr ?_
          by_cases hi3 : 499 < i
          · exact (if_pos (by simp; omega)).mpr (bad (by rw [hb, decide_eq_true hi3]; rfl))
          · exact (if_neg (by simp; omega)).mpr (good (by rw [hb, decide_eq_false hi3]; rfl))
      · rw [decide_eq_false c1] at hb
        refine (if_pos (by simp; omega)).mpr (bad hb)
  · rintro S ⟨i, pre, ws, acc, x3, x4, e1, hW, hi, hf, hz, rfl⟩
    have e2 : ws = [] := by
      cases ws with
      | nil => rfl
      | cons p ps =>
        rw [List.length_cons, rgI_cons] at e1
        cases e1
    subst e2
    walk_at "dl"
    exact hf
end
end K5
set_option maxHeartbeats 1000000
namespace K5
open PySem PySem.Spec PyProof.Rows L2 DL
local macro_rules | `(tactic| walk_at "dl") => `(tactic| simp only [dSplit, dJoin, dRevS, dMet, w_str, w_strI, w_lenS, w_slS, w_addS', w_eqS, w_neS, dSeq, dRet, dDice, dSortI, dMaxI, dLstRg, dfDictT, dDGetT, dDPutT, dExtend, dExtT, dLenOl, dDst, dPopAt, dParFF, dParFP, dParPF, dAppend, otAt, dDGet2, dDGet, dDIn, dDPut, dCallG, dSpread, dLcD, dctAt, noOwn, gLenD, gdPair, itemD, dAsg, dIfS, dVar, dC, dOp, dB, dChain, dAnd, dOr, dNot, dAndV, dOrV, dNotV, dCall, dNil, dCons, dFn, dIf, dTup, dLst, dDrop, dNext, dNeg, dSl, dNoPart, dPart, dRaise, dYes, dTupI, dLstI, dStrI, dRg1, dRg2, dEnumL, dEnumT, dRevL, dRevT, dLc, setsD, wipeD, dPar, dPar3, dOwn, dfRep, dfLst, dfList, dfDict, dFor, dgTup, dgCons, dgName, dgNil, dAsgG, dgSetIx, olAt, odAt, ent, froz,
  List.map_cons, List.map_nil, List.getElem?_cons_zero, List.getElem?_cons_succ, List.set_cons_zero, List.set_cons_succ, List.replicate, List.length_cons, List.length_nil, List.cons_append, List.nil_append, Nat.reduceAdd, Nat.reduceSub, Nat.reduceLeDiff,
  w_iteA, w_some, w_none, w_bl, w_bl2, w_int, w_lst, w_tup, w_eq, w_mulL, w_mulR, w_mod, w_div, Int.reduceLT, Int.reduceNeg, Int.reducePow, Int.reduceAdd, Int.reduceSub, Int.reduceMul, and_self, w_cons, w_set, w_lrange, w_lrange1, w_ltup, w_llst, w_par, w_par3, w_tupL, w_tupT, w_listL, w_listT, w_all1, w_all2, w_own0, w_ownP, w_g2T, w_addI, w_addL, w_addT, w_lenT, w_lenL, w_intI, w_intB, w_eqI, w_neI, w_eqB, w_neB, w_ixT, w_ixL, w_slL, w_slT, w_keyI, w_keyS, w_ex, w_two, w_three, if_true, if_false, Bool.false_eq_true, Bool.true_eq_false, Bool.not_true, Bool.not_false, eq_self, true_and, and_true])
section
variable {P : Program} {w : World} {K : PySem.W.Frag} {mg : MG} {base : Heap} {T : TT0}



def m__law_bent : MT := mt2 fun v u n Q E => v = .dice ∧ ∃ s : Str, u = .str s ∧ s.length ≤ 1000 ∧ asc s ∧ 3 ≤ n ∧ ∀ t : Str, t.length ≤ 2100 → asc t → Q (.str t) (n - 3)
theorem asc_of {s : Str} (h : s.cps.toList.all (fun c => decide (c < 128)) = true) : asc s := fun c hc => of_decide_eq_true (List.all_eq_true.mp h c hc)
abbrev s__law_bent : Stmt := topS 32
abbrev N__law_bent : List Str := ["dice", "text", "at", "sign"]
theorem sc__law_bent : FnScope N__law_bent ["dice", "text"] (defScope s__law_bent) := ⟨rfl, rfl, rfl, by decide +kernel, rfl, by decide +kernel, by decide +kernel⟩
theorem b__law_bent (kV doc pm : Value) (an : Option Addr) (cdv ct : Value) (us : List Value) (hl : us.length = (["dice", "text"] : List Str).length) : bindArgs (PySem.W.fnOf "_law_bent" "_law_bent" (defArgs s__law_bent) (defBody s__law_bent) (defScope s__law_bent) .none kV doc pm an cdv ct) ⟨us, []⟩ = pure ((["dice", "text"] : List Str).zip us) := match us, hl with | [_, _], _ => rfl
theorem ok__law_bent {f : Addr} {fd : FuncData} (F : Fun K "_law_bent" "_law_bent" s__law_bent f fd) (hm : mg "_law_bent" = some (.ref f)) (B : Bi mg)  (C__law_pick : CalD P w K mg base T CX0 2 "_law_pick" s__law_pick ["dice", "things"] m__law_pick) (C__law_roll : CalD P w K mg base T CX0 1 "_law_roll" s__law_roll ["dice", "total"] m__law_roll)  : CalD P w K mg base T CX0 3 "_law_bent" s__law_bent ["dice", "text"] m__law_bent := by
  refine okD F hm sc__law_bent ar2 (fun cdv A outer s G H n E ED hr => ⟨_, (pdss_cons (pds_par (i := 2) (j := 3) rfl sc__law_bent.nd rfl rfl (by decide) rfl rfl (pda_cons (pd_callZ C__law_roll lk0 (hr.mono (by decide)) (by rfl) b__law_roll (pda_cons (pdv 0) (pda_cons (pd_op od_add (pd_callB cd_len (by rfl) B.len (by decide +kernel) (pda_cons (pdv 1) pda_nil)) pd_int) pda_nil))) (pda_cons (pd_callZ C__law_pick lk0 (hr.mono (by decide)) (by rfl) b__law_pick (pda_cons (pdv 0) (pda_cons (pd_lst (pda_cons pd_str (pda_cons pd_str (pda_cons pd_str (pda_cons pd_str (pda_cons pd_str (pda_cons pd_str (pda_cons pd_str (pda_cons pd_str (pda_cons pd_str (pda_cons pd_str pda_nil))))))))))) pda_nil))) pda_nil)) (by rfl))
      (pdss_one (pds_ret (pd_callZ C__law_pick lk0 (hr.mono (by decide)) (by rfl) b__law_pick (pda_cons (pdv 0) (pda_cons (pd_lst (pda_cons (pd_op od_add (pd_op od_add (pd_slice (pdv 1) pdo_none (pdo_some (pdv 2))) (pdv 3)) (pd_slice (pdv 1) (pdo_some (pdv 2)) pdo_none)) (pda_cons (pd_op od_add (pd_op od_add (pd_slice (pdv 1) pdo_none (pdo_some (pdv 2))) (pdv 3)) (pd_slice (pdv 1) (pdo_some (pd_op od_add (pdv 2) pd_int)) pdo_none)) (pda_cons (pd_op od_add (pd_slice (pdv 1) pdo_none (pdo_some (pdv 2))) (pd_slice (pdv 1) (pdo_some (pd_op od_add (pdv 2) pd_int)) pdo_none)) (pda_cons (pd_slice (pdv 1) pdo_none (pdo_some (pdv 2))) (pda_cons (pd_op od_add (pd_op od_add (pdv 1) pd_str) (pdv 1)) (pda_cons (pd_revS (pdv 1)) pda_nil))))))) pda_nil)))))), fun ds Qd hl h => ?_⟩)
  obtain ⟨v, u, rfl, rfl, s, rfl, hs, ha, hn, hQ⟩ := h
  walk_at "dl"
  rw [w_lenS (by omega)]
  walk_at "dl"
  refine ⟨_, rfl, by omega, by omega, by omega, fun r r0 r1 _ => ?_⟩
  refine ⟨_, _, rfl, rfl, _, .inl rfl, by simp, by simp, by omega, fun d hd _ => ?_⟩
  obtain ⟨g, rfl, hg, hga⟩ : ∃ g : Str, d = .str g ∧ g.length ≤ 10 ∧ asc g := by
    simp only [List.mem_cons, List.not_mem_nil, or_false] at hd
    rcases hd with rfl | rfl | rfl | rfl | rfl | rfl | rfl | rfl | rfl | rfl <;> exact ⟨_, rfl, by decide +kernel, asc_of (by decide +kernel)⟩
  have lc := fun lo hi => cutS_length s lo hi
  have sl := fun lo hi => w_slS (x := s) (lo := lo) (hi := hi) (by omega)
  have l1 := lc none (some r)
  have l2 := lc (some r) none
  have l3 := lc (some (r + 1)) none
  have a1 := asc_cut ha none (some r)
  have a2 := asc_cut ha (some r) none
  have a3 := asc_cut ha (some (r + 1)) none
  refine ⟨r, rfl, _, sl _ _, _, w_addS' (by omega), r, rfl, _, sl _ _, _, w_addS' (by rw [len_app]; omega), r, rfl, _, sl _ _, _, w_addS' (by omega), _, rfl, _, rfl, _, sl _ _, _, w_addS' (by rw [len_app]; omega), r, rfl, _, sl _ _, _, rfl, _, rfl, _, sl _ _, _, w_addS' (by omega), r, rfl, _, sl _ _, ?_⟩
  have e1 : (" " : Str).length = 1 := by decide +kernel
  have as : asc (" " : Str) := asc_of (by decide +kernel)
  refine ⟨_, w_addS' (by omega), _, w_addS' (by rw [len_app]; omega), by omega, ?_⟩
  refine ⟨_, _, rfl, rfl, _, .inl rfl, by simp, by simp, by omega, fun d hd _ => ?_⟩
  have e3 : n - 1 - 1 - 1 = n - 3 := by omega
  rw [e3]
  simp only [List.mem_cons, List.not_mem_nil, or_false] at hd
  rcases hd with rfl | rfl | rfl | rfl | rfl | rfl
  · exact hQ _ (by rw [len_app, len_app]; omega) (asc_app (asc_app a1 hga) a2)
  · exact hQ _ (by rw [len_app, len_app]; omega) (asc_app (asc_app a1 hga) a3)
  · exact hQ _ (by rw [len_app]; omega) (asc_app a1 a3)
  · exact hQ _ (by omega) a1
  · exact hQ _ (by rw [len_app, len_app]; omega) (asc_app (asc_app ha as) ha)
  · exact hQ _ (by rw [revS_len]; omega) (asc_rev ha)
end
end K5
set_option maxHeartbeats 1000000
namespace K5
open PySem PySem.Spec PyProof.Rows L2 DL
open TL NumText
/-! ### what is shown -/
structure Shw (m : Nat) (d : D) : Prop where
  ok : d.py.showable = true
  len : d.py.shown.length ≤ m
theorem Shw.mono {m m' : Nat} {d : D} (h : Shw m d) (hm : m ≤ m') : Shw m' d := ⟨h.ok, Nat.le_trans h.len hm⟩
theorem Shw.int {i : Int} (h0 : 0 ≤ i) (h1 : i < 100000) : Shw 5 (.int i) := by
  constructor
  · rw [D.py, PyData.showable]
    exact decide_eq_true (log_small (by omega) (by omega))
  · rw [D.py, PyData.shown]
    exact toString_length_le (k := 5) h0 (by decide) (by simpa using h1)
theorem Shw.bad : Shw 6 (.str "bad") := ⟨by rw [D.py, PyData.showable], by rw [D.py, PyData.shown]; decide +kernel⟩
theorem Shw.read : Shw 6 (.str "read") := ⟨by rw [D.py, PyData.showable], by rw [D.py, PyData.shown]; decide +kernel⟩
theorem shw_all {m : Nat} : ∀ {l : List D}, (∀ d ∈ l, Shw m d) → PyData.showableAll (D.pys l) = true ∧ piled (PyData.shownAll (D.pys l)) ≤ (m + 2) * l.length
  | [], _ => ⟨by rw [D.pys, PyData.showableAll], by rw [D.pys, PyData.shownAll, piled_nil]; omega⟩
  | d :: l, h => by
    obtain ⟨a, b⟩ := shw_all (l := l) fun x hx => h x (List.mem_cons_of_mem _ hx)
    have hd := h d List.mem_cons_self
    constructor
    · rw [D.pys, PyData.showableAll, hd.ok, a]
      rfl
    · rw [D.pys, PyData.shownAll, piled_cons, List.length_cons, Nat.mul_add]
      have := hd.len
      omega
theorem Shw.tup {m : Nat} {l : List D} (h : ∀ d ∈ l, Shw m d) : Shw ((m + 2) * l.length + 2) (.tup l) := by
  obtain ⟨a, b⟩ := shw_all h
  constructor
  · rw [D.py, PyData.showable]
    exact a
  · rw [D.py, PyData.shown]
    have := fmt_text (PyData.shownAll (D.pys l))
    omega
theorem repr_go {k m : Nat} {l : List D} (h : Ok k (.tup l)) (hk : k ≤ 60) (s : Shw m (.tup l)) (hm : m ≤ 16777216) : gRepr [.tup l] = some (.str (D.tup l).py.shown) := by
  unfold gRepr
  exact if_pos ⟨h.plain, s.ok, PyData.hasDict_of_canLay _ h.lay, Nat.le_trans h.dep hk, Nat.le_trans s.len hm⟩
/-! ### what is read is small -/
theorem rowBad_val {i : Nat} {p : Str} (h : rowBad i p = false) : 0 ≤ valP p ∧ valP p ≤ 500 ∧ i ≤ 1000 := by
  unfold rowBad at h
  rw [Bool.or_eq_false_iff, decide_eq_false_iff_not] at h
  unfold valP
  by_cases hd : p = "."
  · rw [if_pos hd]
    omega
  · rw [if_neg hd]
    have h1 := h.1
    rw [decide_eq_true hd, Bool.true_and, Bool.not_eq_false', Bool.and_eq_true, decide_eq_true_eq, decide_eq_true_eq] at h1
    omega
def okR (m : Nat) : Nat ⊕ List Int → Prop
  | .inl i => i ≤ m
  | .inr l => l.length ≤ m ∧ ∀ i ∈ l, 0 ≤ i ∧ i ≤ 500
theorem rowGo_ok {m : Nat} : ∀ (ws : List Str) (i : Nat) (acc : List Int), i + ws.length ≤ m → acc.length = i → (∀ x ∈ acc, 0 ≤ x ∧ x ≤ 500) → okR m (rowGo i acc ws)
  | [], i, acc, h, h2, h3 => ⟨by simp at h; omega, h3⟩
  | p :: ps, i, acc, h, h2, h3 => by
    rw [List.length_cons] at h
    rw [rowGo]
    cases hb : rowBad i p with
    | true =>
      rw [if_pos rfl]
      show i ≤ m
      omega
    | false =>
      rw [if_neg Bool.false_ne_true]
      have := rowBad_val hb
      refine rowGo_ok ps (i + 1) _ (by omega) (by rw [List.length_append, h2]; rfl) fun x hx => ?_
      rcases List.mem_append.mp hx with hx | hx
      · exact h3 x hx
      · rw [List.mem_singleton.mp hx]
        omega
theorem okB_mem {l : List Int} (h : okB l = true) : l.length = 3 ∧ ∀ i ∈ l, 0 ≤ i ∧ i ≤ 3000 := by
  unfold okB at h
  rw [Bool.and_eq_true, decide_eq_true_eq, List.all_eq_true] at h
  refine ⟨h.1, fun i hi => ?_⟩
  have := h.2 i hi
  rw [Bool.and_eq_true, decide_eq_true_eq, decide_eq_true_eq] at this
  exact this
def okBs (m : Nat) : Nat ⊕ List (List Int) → Prop
  | .inl i => i ≤ m
  | .inr l => l.length ≤ m ∧ ∀ t ∈ l, okB t = true
theorem blkGo_ok {m : Nat} : ∀ (ws : List Str) (i : Nat) (acc : List (List Int)), i + ws.length ≤ m → acc.length = i → (∀ x ∈ acc, okB x = true) → okBs m (blkGo i acc ws)
  | [], i, acc, h, h2, h3 => ⟨by simp at h; omega, h3⟩
  | p :: ps, i, acc, h, h2, h3 => by
    rw [List.length_cons] at h
    rw [blkGo]
    cases hb : blkBad i p with
    | true =>
      rw [if_pos rfl]
      show i ≤ m
      omega
    | false =>
      rw [if_neg Bool.false_ne_true]
      unfold blkBad at hb
      rw [Bool.or_eq_false_iff] at hb
      have ht : okB (blkOf p) = true := by simpa using hb.1
      refine blkGo_ok ps (i + 1) _ (by omega) (by rw [List.length_append, h2]; rfl) fun x hx => ?_
      rcases List.mem_append.mp hx with hx | hx
      · exact h3 x hx
      · rw [List.mem_singleton.mp hx]
        exact ht
theorem okS {k : Nat} {s : Str} (h : s.cps.all (· < 0x110000) = true) : Ok k (.str s) := ⟨rfl, by rw [D.py, PyData.canLay0]; exact h, by simp [D.py, PyData.depth]⟩
theorem rD_repr {m : Nat} {x : Nat ⊕ List Int} (h : okR m x) (hm : m ≤ 90000) : ∃ s, gRepr [rD x] = some (.str s) := by
  cases x with
  | inl i =>
    have hi : i ≤ m := h
    refine ⟨_, repr_go (k := 1) (m := 26) (.tup fun d hd => ?_) (by omega) ((Shw.tup (m := 6) fun d hd => ?_).mono (by simp)) (by omega)⟩
    · simp only [List.mem_cons, List.not_mem_nil, or_false] at hd
      rcases hd with rfl | rfl
      · exact okS (by decide +kernel)
      · exact .int _
    · simp only [List.mem_cons, List.not_mem_nil, or_false] at hd
      rcases hd with rfl | rfl
      · exact .bad
      · exact (Shw.int (by omega) (by omega)).mono (by omega)
  | inr l =>
    obtain ⟨h1, h2⟩ := h
    have hs : Shw (7 * l.length + 2) (.tup (l.map D.int)) := by
      have := Shw.tup (m := 5) (l := l.map D.int) fun d hd => by
        obtain ⟨i, hi, rfl⟩ := List.mem_map.mp hd
        have := h2 i hi
        exact Shw.int (by omega) (by omega)
      rwa [List.length_map] at this
    refine ⟨_, repr_go (k := 2) (m := (7 * l.length + 8 + 2) * 2 + 2) (l := [.str "read", .tup (l.map .int)]) (.tup fun d hd => ?_) (by omega) (Shw.tup (m := 7 * l.length + 8) (l := [.str "read", .tup (l.map .int)]) fun d hd => ?_) (by omega)⟩
    · simp only [List.mem_cons, List.not_mem_nil, or_false] at hd
      rcases hd with rfl | rfl
      · exact okS (by decide +kernel)
      · exact Ok.tupI l
    · simp only [List.mem_cons, List.not_mem_nil, or_false] at hd
      rcases hd with rfl | rfl
      · exact Shw.read.mono (by omega)
      · exact hs.mono (by omega)
theorem bI_ok (k : Nat) (t : List Int) : Ok (k + 1) (bI t) := .tup (Ok.ints t)
theorem bIs_ok (l : List (List Int)) : Ok 2 (.tup (l.map bI)) := .tup fun d hd => by
  obtain ⟨t, _, rfl⟩ := List.mem_map.mp hd
  exact bI_ok 0 t
theorem bD_repr {m : Nat} {x : Nat ⊕ List (List Int)} (h : okBs m x) (hm : m ≤ 90000) : ∃ s, gRepr [bD x] = some (.str s) := by
  cases x with
  | inl i =>
    have hi : i ≤ m := h
    refine ⟨_, repr_go (k := 1) (m := 26) (.tup fun d hd => ?_) (by omega) ((Shw.tup (m := 6) fun d hd => ?_).mono (by simp)) (by omega)⟩
    · simp only [List.mem_cons, List.not_mem_nil, or_false] at hd
      rcases hd with rfl | rfl
      · exact okS (by decide +kernel)
      · exact .int _
    · simp only [List.mem_cons, List.not_mem_nil, or_false] at hd
      rcases hd with rfl | rfl
      · exact .bad
      · exact (Shw.int (by omega) (by omega)).mono (by omega)
  | inr l =>
    obtain ⟨h1, h2⟩ := h
    have hb : ∀ t ∈ l, Shw 23 (bI t) := fun t ht => by
      obtain ⟨c1, c2⟩ := okB_mem (h2 t ht)
      have := Shw.tup (m := 5) (l := t.map D.int) fun d hd => by
        obtain ⟨i, hi, rfl⟩ := List.mem_map.mp hd
        have := c2 i hi
        exact Shw.int (by omega) (by omega)
      rw [List.length_map, c1] at this
      exact this
    have hs : Shw (25 * l.length + 2) (.tup (l.map bI)) := by
      have := Shw.tup (m := 23) (l := l.map bI) fun d hd => by
        obtain ⟨t, ht, rfl⟩ := List.mem_map.mp hd
        exact hb t ht
      rwa [List.length_map] at this
    refine ⟨_, repr_go (k := 3) (m := (25 * l.length + 8 + 2) * 2 + 2) (l := [.str "read", .tup (l.map bI)]) (.tup fun d hd => ?_) (by omega) (Shw.tup (m := 25 * l.length + 8) (l := [.str "read", .tup (l.map bI)]) fun d hd => ?_) (by omega)⟩
    · simp only [List.mem_cons, List.not_mem_nil, or_false] at hd
      rcases hd with rfl | rfl
      · exact okS (by decide +kernel)
      · exact bIs_ok l
    · simp only [List.mem_cons, List.not_mem_nil, or_false] at hd
      rcases hd with rfl | rfl
      · exact Shw.read.mono (by omega)
      · exact hs.mono (by omega)
/-! ### what is written is read back -/
theorem join_mem {y : Str} {c : Nat} : ∀ {ps : List Str}, c ∈ tl (Txt.join y ps) → c ∈ tl y ∨ ∃ p ∈ ps, c ∈ tl p := by
  intro ps h
  rw [join_eq, tl_join] at h
  have key : ∀ L : List (List Nat), c ∈ joinL (tl y) L → c ∈ tl y ∨ ∃ p ∈ L, c ∈ p := by
    intro L
    induction L with
    | nil =>
      intro h
      cases h
    | cons a r ih =>
      cases r with
      | nil => exact fun h => .inr ⟨a, List.mem_cons_self, h⟩
      | cons b r =>
        intro h
        rcases List.mem_append.mp (show c ∈ a ++ (tl y ++ joinL (tl y) (b :: r)) from h) with h | h
        · exact .inr ⟨a, List.mem_cons_self, h⟩
        · rcases List.mem_append.mp h with h | h
          · exact .inl h
          · rcases ih h with h | ⟨p, hp, hc⟩
            · exact .inl h
            · exact .inr ⟨p, List.mem_cons_of_mem _ hp, hc⟩
  rcases key _ h with h | ⟨p, hp, hc⟩
  · exact .inl h
  · obtain ⟨q, hq, rfl⟩ := List.mem_map.mp hp
    exact .inr ⟨q, hq, hc⟩
theorem tl_sp : tl (" " : Str) = [32] := by decide +kernel
theorem tl_ds : tl ("-" : Str) = [45] := by decide +kernel
theorem tl_dot : tl ("." : Str) = [46] := by decide +kernel
theorem strN_sign {i : Int} (h : 0 ≤ i) {c : Nat} (hc : c ∈ tl (strN i)) : 48 ≤ c ∧ c ≤ 57 := by
  rw [strN_tl h] at hc
  exact numL_digits _ c hc
theorem numT_sign {i : Int} {c : Nat} (hc : c ∈ tl (numT i)) : c = 46 ∨ (48 ≤ c ∧ c ≤ 57) := by
  unfold numT at hc
  split at hc
  · exact .inr (strN_sign (by omega) hc)
  · rw [tl_dot] at hc
    exact .inl (List.mem_singleton.mp hc)
theorem blk_sign {t : List Int} (h : ∀ i ∈ t, 0 ≤ i) {c : Nat} (hc : c ∈ tl (blkText t)) : c = 45 ∨ (48 ≤ c ∧ c ≤ 57) := by
  rcases join_mem hc with hc | ⟨p, hp, hc⟩
  · rw [tl_ds] at hc
    exact .inl (List.mem_singleton.mp hc)
  · obtain ⟨i, hi, rfl⟩ := List.mem_map.mp hp
    exact .inr (strN_sign (h i hi) hc)
theorem row_asc (l : List Int) : asc (rowText l) := fun c hc => by
  rcases join_mem (show c ∈ tl (Txt.join " " (l.map numT)) from hc) with hc | ⟨p, hp, hc⟩
  · rw [tl_sp] at hc
    rw [List.mem_singleton.mp hc]
    decide
  · obtain ⟨i, hi, rfl⟩ := List.mem_map.mp hp
    have := numT_sign hc
    omega
theorem blks_asc {bs : List (List Int)} (h : ∀ t ∈ bs, okB t = true) : asc (blksText bs) := fun c hc => by
  rcases join_mem (show c ∈ tl (Txt.join " " (bs.map blkText)) from hc) with hc | ⟨p, hp, hc⟩
  · rw [tl_sp] at hc
    rw [List.mem_singleton.mp hc]
    decide
  · obtain ⟨t, ht, rfl⟩ := List.mem_map.mp hp
    have := blk_sign (fun i hi => ((okB_mem (h t ht)).2 i hi).1) hc
    omega
theorem split_none : Txt.split "" " " = [("" : Str)] := by decide +kernel
theorem parts_join {ws : List Str} (h : ∀ p ∈ ws, 32 ∉ tl p ∧ p ≠ "") : partsL (Txt.join " " ws) = ws := by
  unfold partsL
  by_cases hw : ws = []
  · subst hw
    exact if_pos (by decide +kernel)
  · have e : Txt.split (Txt.join " " ws) " " = ws := split_join tl_sp (by decide +kernel) hw fun p hp => (h p hp).1
    rw [if_neg, e]
    intro z
    rw [z, split_none] at e
    exact (h "" (by rw [← e]; simp)).2 rfl
theorem lawNum_strN {i : Int} (h : 0 ≤ i) (h1 : i < 10000) : lawNum (strN i) = i := by
  have ht := strN_tl h
  have hd : AllDigits (strN i).cps.toList := by
    rw [show (strN i).cps.toList = numL i.toNat from ht]
    exact numL_digits _
  have hl := strN_len h h1
  unfold lawNum
  rw [if_neg]
  · unfold numOf
    rw [show (strN i).cps.toList = numL i.toNat from ht, numL_val]
    omega
  · rintro (z | z | z | ⟨z1, z2⟩)
    · have := empty_iff.mp z
      rw [show (strN i).cps.toList = numL i.toNat from ht] at this
      exact numL_ne _ this
    · omega
    · rw [allFig_iff.mpr hd] at z
      cases z
    · rw [show (strN i).cps.toList = numL i.toNat from ht] at z2
      by_cases hz : i.toNat = 0
      · rw [len_tl, ht, hz, numL_lt (by omega)] at z1
        simp at z1
      · exact num_head _ (by omega) z2
theorem strN_ne {i : Int} (h : 0 ≤ i) : strN i ≠ "" := fun z => by
  have := empty_iff.mp z
  rw [show (strN i).cps.toList = numL i.toNat from strN_tl h] at this
  exact numL_ne _ this
theorem strN_dot {i : Int} (h : 0 ≤ i) : strN i ≠ "." := fun z => by
  have e : tl (strN i) = [46] := by rw [z, tl_dot]
  have := strN_sign h (c := 46) (by rw [e]; simp)
  omega
theorem numT_ok {i : Int} (h : 0 ≤ i) (h1 : i ≤ 500) : valP (numT i) = i ∧ ∀ k : Nat, k ≤ 1000 → rowBad k (numT i) = false := by
  unfold numT
  by_cases c : 0 < i
  · rw [if_pos c]
    have hd := strN_dot h
    have hn := lawNum_strN h (by omega)
    refine ⟨(if_neg hd).trans hn, fun k hk => ?_⟩
    unfold rowBad
    rw [hn, decide_eq_true (show 1 ≤ i by omega), decide_eq_true h1, decide_eq_false (show ¬ 1000 < k by omega)]
    simp
  · rw [if_neg c]
    refine ⟨(if_pos rfl).trans (by omega), fun k hk => ?_⟩
    unfold rowBad
    rw [decide_eq_false (show ¬ (1000 < k) by omega)]
    simp
theorem rowGo_back : ∀ (l : List Int) (i : Nat) (acc : List Int), (∀ x ∈ l, 0 ≤ x ∧ x ≤ 500) → i + l.length ≤ 1001 → rowGo i acc (l.map numT) = .inr (acc ++ l)
  | [], i, acc, _, _ => by
    rw [List.append_nil]
    rfl
  | x :: l, i, acc, h, hl => by
    rw [List.length_cons] at hl
    have hx := h x List.mem_cons_self
    obtain ⟨a, b⟩ := numT_ok hx.1 hx.2
    rw [List.map_cons, rowGo, b i (by omega), if_neg Bool.false_ne_true, a, rowGo_back l (i + 1) (acc ++ [x]) (fun y hy => h y (List.mem_cons_of_mem _ hy)) (by omega), List.append_assoc]
    rfl
theorem row_back {l : List Int} (h : ∀ x ∈ l, 0 ≤ x ∧ x ≤ 500) (hl : l.length ≤ 1001) : rowGo 0 [] (partsL (rowText l)) = .inr l := by
  have e : partsL (rowText l) = l.map numT := parts_join fun p hp => by
    obtain ⟨i, hi, rfl⟩ := List.mem_map.mp hp
    refine ⟨fun z => ?_, fun z => ?_⟩
    · have := numT_sign z
      omega
    · unfold numT at z
      split at z
      · exact strN_ne (by omega) z
      · exact absurd z (by decide +kernel)
  rw [e, rowGo_back l 0 [] h (by omega)]
  rfl
theorem blk_back {t : List Int} (h : okB t = true) : blkOf (blkText t) = t := by
  obtain ⟨c1, c2⟩ := okB_mem h
  have hne : t.map strN ≠ [] := fun z => by
    rw [List.map_eq_nil_iff.mp z] at c1
    cases c1
  unfold blkOf blkText
  rw [split_join tl_ds (by decide +kernel) hne fun p hp => ?_]
  · rw [List.map_map]
    have e : t.map (lawNum ∘ strN) = t.map id := List.map_congr_left fun i hi => by
      have := c2 i hi
      exact lawNum_strN this.1 (by omega)
    rw [e, List.map_id]
  · obtain ⟨i, hi, rfl⟩ := List.mem_map.mp hp
    intro z
    have := strN_sign (c2 i hi).1 z
    omega
theorem blkGo_back : ∀ (l : List (List Int)) (i : Nat) (acc : List (List Int)), (∀ x ∈ l, okB x = true) → i + l.length ≤ 500 → blkGo i acc (l.map blkText) = .inr (acc ++ l)
  | [], i, acc, _, _ => by
    rw [List.append_nil]
    rfl
  | x :: l, i, acc, h, hl => by
    rw [List.length_cons] at hl
    have hx := h x List.mem_cons_self
    have hb : blkBad i (blkText x) = false := by
      unfold blkBad
      rw [blk_back hx, hx, decide_eq_false (show ¬ 499 < i by omega)]
      rfl
    rw [List.map_cons, blkGo, hb, if_neg Bool.false_ne_true, blk_back hx, blkGo_back l (i + 1) (acc ++ [x]) (fun y hy => h y (List.mem_cons_of_mem _ hy)) (by omega), List.append_assoc]
    rfl
theorem blks_back {l : List (List Int)} (h : ∀ x ∈ l, okB x = true) (hl : l.length ≤ 500) : blkGo 0 [] (partsL (blksText l)) = .inr l := by
  have e : partsL (blksText l) = l.map blkText := parts_join fun p hp => by
    obtain ⟨t, ht, rfl⟩ := List.mem_map.mp hp
    obtain ⟨c1, c2⟩ := okB_mem (h t ht)
    refine ⟨fun z => ?_, fun z => ?_⟩
    · have := blk_sign (fun i hi => (c2 i hi).1) z
      omega
    · have e := blk_back (h t ht)
      rw [z] at e
      have e2 : blkOf "" = [-1] := by decide +kernel
      rw [e2] at e
      rw [← e] at c1
      cases c1
  rw [e, blkGo_back l 0 [] h (by omega)]
  rfl
theorem row_len {l : List Int} (h : ∀ x ∈ l, 0 ≤ x ∧ x ≤ 500) (hl : l.length ≤ 100) : (rowText l).length ≤ 500 := by
  have := join_len (y := " ") (l := l.map numT) (k := 4) fun x hx => by
    obtain ⟨i, hi, rfl⟩ := List.mem_map.mp hx
    exact numT_len (by have := h i hi; omega)
  have e1 : (" " : Str).length = 1 := by decide +kernel
  rw [List.length_map, e1] at this
  show (Txt.join " " (l.map numT)).length ≤ 500
  omega
theorem blks_len {l : List (List Int)} (h : ∀ x ∈ l, okB x = true) (hl : l.length ≤ 30) : (blksText l).length ≤ 500 := by
  have := join_len (y := " ") (l := l.map blkText) (k := 15) fun x hx => by
    obtain ⟨t, ht, rfl⟩ := List.mem_map.mp hx
    obtain ⟨c1, c2⟩ := okB_mem (h t ht)
    exact blk_len c1 fun i hi => by have := c2 i hi; omega
  have e1 : (" " : Str).length = 1 := by decide +kernel
  rw [List.length_map, e1] at this
  show (Txt.join " " (l.map blkText)).length ≤ 500
  omega
end K5
set_option maxHeartbeats 1000000
namespace K5
open PySem PySem.Spec PyProof.Rows L2 DL
local macro_rules | `(tactic| walk_at "dl") => `(tactic| simp only [dRep, dSplit, dJoin, dRevS, w_str, w_strI, w_lenS, w_slS, w_addS', w_eqS, w_neS, dSeq, dRet, dDice, dSortI, dMaxI, dLstRg, dfDictT, dDGetT, dDPutT, dExtend, dExtT, dLenOl, dDst, dPopAt, dParFF, dParFP, dParPF, dAppend, otAt, dDGet2, dDGet, dDIn, dDPut, dCallG, dSpread, dLcD, dctAt, noOwn, gLenD, gdPair, itemD, dAsg, dIfS, dVar, dC, dOp, dB, dChain, dAnd, dOr, dNot, dAndV, dOrV, dNotV, dCall, dNil, dCons, dFn, dIf, dTup, dLst, dDrop, dNext, dNeg, dSl, dNoPart, dPart, dRaise, dYes, dTupI, dLstI, dStrI, dRg1, dRg2, dEnumL, dEnumT, dRevL, dRevT, dLc, setsD, wipeD, dPar, dPar3, dOwn, dfRep, dfLst, dfList, dfDict, dFor, dgTup, dgCons, dgName, dgNil, dAsgG, dgSetIx, olAt, odAt, ent, froz,
  List.map_cons, List.map_nil, List.getElem?_cons_zero, List.getElem?_cons_succ, List.set_cons_zero, List.set_cons_succ, List.replicate, List.length_cons, List.length_nil, List.cons_append, List.nil_append, Nat.reduceAdd, Nat.reduceSub, Nat.reduceLeDiff,
  w_iteA, w_some, w_none, w_bl, w_bl2, w_int, w_lst, w_tup, w_eq, w_mulL, w_mulR, w_mod, w_div, Int.reduceLT, Int.reduceNeg, Int.reducePow, Int.reduceAdd, Int.reduceSub, Int.reduceMul, and_self, w_cons, w_set, w_lrange, w_lrange1, w_ltup, w_llst, w_par, w_par3, w_tupL, w_tupT, w_listL, w_listT, w_all1, w_all2, w_own0, w_ownP, w_g2T, w_addI, w_addL, w_addT, w_lenT, w_lenL, w_intI, w_intB, w_eqI, w_neI, w_eqB, w_neB, w_ixT, w_ixL, w_slL, w_slT, w_keyI, w_keyS, w_ex, w_two, w_three, if_true, if_false, Bool.false_eq_true, Bool.true_eq_false, Bool.not_true, Bool.not_false, eq_self, true_and, and_true])
section
variable {P : Program} {w : World} {K : PySem.W.Frag} {mg : MG} {base : Heap} {T : TT0}









theorem comp_inv {α : Type} (c : α → D) (I : List α → List D → Nat → Prop) {gd : D → Option (List (Nat × D))} {dt : DT} {de : DE} {sl0 : List (Option SV)} {Q : List D → Nat → Prop}
    (step : ∀ x xs acc n, I (x :: xs) acc n → acc.length < 16777216 ∧ ∃ l, gd (c x) = some l ∧ ∀ K : List D → Nat → Prop, (∀ acc' n', I xs acc' n' → K acc' n') → dt ⟨setsD sl0 l, n⟩ fun b S2 => S2.sl = setsD sl0 l ∧ if b = true then de S2 fun y S3 => S3.sl = setsD sl0 l ∧ K (acc ++ [y]) S3.n else K acc S2.n)
    (fin : ∀ acc n, I [] acc n → Q acc n) : ∀ (xs : List α) (acc : List D) (n : Nat), I xs acc n → dComp gd dt de sl0 (xs.map c) acc n Q
  | [], acc, n, h => fin acc n h
  | x :: xs, acc, n, h => by
    obtain ⟨h1, l, h2, h3⟩ := step x xs acc n h
    exact ⟨h1, l, h2, h3 (fun acc' n' => dComp gd dt de sl0 (xs.map c) acc' n' Q) fun acc' n' hi => comp_inv c I step fin xs acc' n' hi⟩
theorem met_to {x f w1 w2 : Str} {de : (Exc → Nat → Prop) → DE} {S : DS} {Q : D → DS → Prop} (d : D) (h : ∀ (E2 : Exc → Nat → Prop) (N : D → Nat → Prop), (∀ d', d = .tup [.str w2, d'] → E2 (x, f, d') S.n) → (∀ d', d = .tup [.str w1, d'] → N d' S.n) → de E2 ⟨noOwn S.sl, S.n⟩ fun d S2 => S2.sl = noOwn S.sl ∧ N d S2.n) (hQ : Q d S) : dMet x f w1 w2 de S Q :=
  h _ (fun d n => Q (.tup [.str w1, d]) ⟨S.sl, n⟩) (fun d' e => ⟨d', rfl, fun _ => by rw [← e]; exact hQ⟩) fun d' e => by rw [← e]; exact hQ
theorem ref_raise {x f ret : Str} {de : (Exc → Nat → Prop) → DE} {S : DS} {Q : D → DS → Prop} (d : D) (n1 : Nat)
    (hde : ∀ (R : D → Nat → Prop) (N : DS → Prop), R d n1 → de (fun ex n => ∃ d, ex = (x, f, d) ∧ R d n) ⟨noOwn S.sl, S.n⟩ (fun _ S2 => N S2)) (hQ : Q d ⟨S.sl, n1⟩) : dRef x f ret de S Q :=
  hde (fun d n => n ≤ S.n → Q d ⟨S.sl, n⟩) _ fun _ => hQ
theorem ref_r0 {x f ret : Str} {de : (Exc → Nat → Prop) → DE} {S : DS} {Q : D → DS → Prop} (d : D)
    (hde : ∀ (R : D → Nat → Prop) (N : DS → Prop), R d S.n → de (fun ex n => ∃ d, ex = (x, f, d) ∧ R d n) ⟨noOwn S.sl, S.n⟩ (fun _ S2 => N S2)) (hQ : Q d ⟨S.sl, S.n⟩) : dRef x f ret de S Q := ref_raise d S.n hde hQ
def BadT (d : D) : Prop := d.isv = true ∧ (d.isStr = false ∨ ∃ s : Str, d = .str s ∧ s.length = 10001)
theorem rr_bad {d : D} {n : Nat} {Q : D → Nat → Prop} {E : Exc → Nat → Prop} (h : BadT d) (hE : E ("BadText", "place", .int (-1)) n) : m_read_row [d] n Q E := by
  refine ⟨d, rfl, h.1, fun _ => hE, fun s e => ?_⟩
  rcases h.2 with h | ⟨s', h, hl⟩
  · rw [e] at h
    cases h
  · rw [e] at h
    cases h
    exact ⟨by omega, fun _ => hE, fun h => by omega⟩
theorem rb_bad {d : D} {n : Nat} {Q : D → Nat → Prop} {E : Exc → Nat → Prop} (h : BadT d) (hE : E ("BadText", "place", .int (-1)) n) : m_read_blocks [d] n Q E := by
  refine ⟨d, rfl, h.1, fun _ => hE, fun s e => ?_⟩
  rcases h.2 with h | ⟨s', h, hl⟩
  · rw [e] at h
    cases h
  · rw [e] at h
    cases h
    exact ⟨by omega, fun _ => hE, fun h => by omega⟩
theorem wr_bad {d : D} {n : Nat} {Q : D → Nat → Prop} {E : Exc → Nat → Prop} (h0 : vR d) (h : areRow d = false) (hE : E ("BadArgument", "name", .str "row") n) : m_write_row [d] n Q E :=
  ⟨d, rfl, h0, fun _ => hE, fun l e h2 => by rw [h] at h2; cases h2⟩
theorem wb_bad {d : D} {n : Nat} {Q : D → Nat → Prop} {E : Exc → Nat → Prop} (h0 : vB d) (h : areBl 3001 d = false) (hE : E ("BadArgument", "name", .str "blocks") n) : m_write_blocks [d] n Q E :=
  ⟨d, rfl, h0, fun _ => hE, fun l e h2 => by rw [h] at h2; cases h2⟩
theorem w_told : gEq (.lst [.tup [.str "bad", .int (-1)], .tup [.str "bad", .int (-1)]]) (.lst [.tup [.str "bad", .int (-1)], .tup [.str "bad", .int (-1)]]) = some (.bl true) := by
  have h1 : Ok 1 (.tup [.str "bad", .int (-1)]) := .tup fun d hd => by
    simp only [List.mem_cons, List.not_mem_nil, or_false] at hd
    rcases hd with rfl | rfl
    · exact okS (by decide +kernel)
    · exact .int _
  have h : Ok 2 (.lst [.tup [.str "bad", .int (-1)], .tup [.str "bad", .int (-1)]]) := .lst fun d hd => by
    simp only [List.mem_cons, List.not_mem_nil, or_false] at hd
    rcases hd with rfl | rfl <;> exact h1
  rw [w_eqO h h (by omega) (by omega) rfl, deq_refl h]
theorem w_rb : gEq (.lst [.str "row", .str "blocks"]) (.lst [.str "row", .str "blocks"]) = some (.bl true) := by
  have h : Ok 1 (.lst [.str "row", .str "blocks"]) := .lst fun d hd => by
    simp only [List.mem_cons, List.not_mem_nil, or_false] at hd
    rcases hd with rfl | rfl <;> exact okS (by decide +kernel)
  rw [w_eqO h h (by omega) (by omega) rfl, deq_refl h]
theorem fsWR : fsL [("write_row", m_write_row)] "write_row" = m_write_row := fsL_hd
theorem fsWB : fsL [("write_blocks", m_write_blocks)] "write_blocks" = m_write_blocks := fsL_hd
theorem fsRR : fsL [("read_row", m_read_row)] "read_row" = m_read_row := fsL_hd
theorem fsRB : fsL [("read_blocks", m_read_blocks)] "read_blocks" = m_read_blocks := fsL_hd
theorem areIn_ok {a b lo hi : Int} {l : List Int} (h : ∀ x ∈ l, lo ≤ x ∧ x ≤ hi) (h1 : a ≤ l.length) (h2 : (l.length : Int) ≤ b) : areIn a b lo hi (l.map .int) = true := by
  unfold areIn
  rw [List.length_map, decide_eq_true h1, decide_eq_true h2, List.all_map]
  show (l.all fun x => decide (lo ≤ x) && decide (x ≤ hi)) = true
  rw [List.all_eq_true]
  intro x hx
  have := h x hx
  rw [decide_eq_true this.1, decide_eq_true this.2]
  rfl
theorem wr_go {l : List Int} {n : Nat} {Q : D → Nat → Prop} {E : Exc → Nat → Prop} (h : ∀ x ∈ l, 0 ≤ x ∧ x ≤ 500) (hl : l.length ≤ 1001) (hQ : Q (.str (rowText l)) n) : m_write_row [.tup (l.map .int)] n Q E := by
  have hr : areRow (.tup (l.map .int)) = true := areIn_ok h (by omega) (by omega)
  refine ⟨_, rfl, ⟨rfl, fun xs e => ?_⟩, (fun e => by rw [hr] at e; cases e), fun l' e _ => ?_⟩
  · cases e
    exact ⟨fun x hx => by
      obtain ⟨i, _, rfl⟩ := List.mem_map.mp hx
      rfl, by rw [List.length_map]; omega⟩
  · have e2 : l'.map D.int = l.map D.int := (D.tup.inj e).symm
    have e3 : l' = l := by
      have : (l'.map D.int).map (fun d => match d with | .int i => i | _ => 0) = (l.map D.int).map (fun d => match d with | .int i => i | _ => 0) := by rw [e2]
      rw [List.map_map, List.map_map] at this
      have f : ((fun d : D => match d with | .int i => i | _ => 0) ∘ D.int) = id := rfl
      rw [f, List.map_id, List.map_id] at this
      exact this
    rw [e3]
    exact hQ
theorem int_inj : ∀ {a b : List Int}, a.map D.int = b.map D.int → a = b
  | [], [], _ => rfl
  | [], _ :: _, h => by cases h
  | _ :: _, [], h => by cases h
  | x :: a, y :: b, h => by
    obtain ⟨h1, h2⟩ := List.cons.inj h
    cases h1
    rw [int_inj h2]
theorem bI_inj : ∀ {a b : List (List Int)}, a.map bI = b.map bI → a = b
  | [], [], _ => rfl
  | [], _ :: _, h => by cases h
  | _ :: _, [], h => by cases h
  | x :: a, y :: b, h => by
    obtain ⟨h1, h2⟩ := List.cons.inj h
    rw [int_inj (D.tup.inj h1), bI_inj h2]
theorem blks_ok {l : List (List Int)} (h : ∀ x ∈ l, okB x = true) (hl : l.length ≤ 500) : areBl 3001 (.tup (l.map bI)) = true := by
  show (decide (((l.map bI).length : Int) ≤ 500) && (l.map bI).all (blB 3001)) = true
  rw [List.length_map, decide_eq_true (by omega), Bool.true_and, List.all_map, List.all_eq_true]
  intro t ht
  obtain ⟨c1, c2⟩ := okB_mem (h t ht)
  exact areIn_ok (a := 3) (b := 3) (lo := 0) (hi := 3001 - 1) (fun x hx => by have := c2 x hx; omega) (by omega) (by omega)
theorem vB_blks {l : List (List Int)} (h : ∀ x ∈ l, okB x = true) (hl : l.length ≤ 500) : vB (.tup (l.map bI)) := ⟨rfl, fun xs e => by
  cases e
  refine ⟨by rw [List.length_map]; omega, fun x hx => ?_⟩
  obtain ⟨t, ht, rfl⟩ := List.mem_map.mp hx
  refine ⟨rfl, fun ys e => ?_⟩
  cases e
  refine ⟨fun y hy => ?_, by rw [List.length_map, (okB_mem (h t ht)).1]; omega⟩
  obtain ⟨i, _, rfl⟩ := List.mem_map.mp hy
  rfl⟩
theorem wb_go {l : List (List Int)} {n : Nat} {Q : D → Nat → Prop} {E : Exc → Nat → Prop} (h : ∀ x ∈ l, okB x = true) (hl : l.length ≤ 500) (hQ : Q (.str (blksText l)) n) : m_write_blocks [.tup (l.map bI)] n Q E := by
  have hr := blks_ok h hl
  refine ⟨_, rfl, vB_blks h hl, (fun e => by rw [hr] at e; cases e), fun l' e _ => ?_⟩
  rw [← bI_inj (D.tup.inj e)]
  exact hQ
theorem rr_any {s : Str} {n : Nat} {Q : D → Nat → Prop} {E : Exc → Nat → Prop} (hs : s.length ≤ 10000) (h : eR E Q n (rowGo 0 [] (partsL s))) : m_read_row [.str s] n Q E :=
  ⟨_, rfl, rfl, (fun e => nomatch e), fun s' e => by cases e; exact ⟨by omega, fun h2 => by omega, fun _ => h⟩⟩
theorem rb_any {s : Str} {n : Nat} {Q : D → Nat → Prop} {E : Exc → Nat → Prop} (hs : s.length ≤ 10000) (h : eB E Q n (blkGo 0 [] (partsL s))) : m_read_blocks [.str s] n Q E :=
  ⟨_, rfl, rfl, (fun e => nomatch e), fun s' e => by cases e; exact ⟨by omega, fun h2 => by omega, fun _ => h⟩⟩
theorem rr_go {l : List Int} {n : Nat} {Q : D → Nat → Prop} {E : Exc → Nat → Prop} (h : ∀ x ∈ l, 0 ≤ x ∧ x ≤ 500) (hl : l.length ≤ 100) (hQ : Q (.tup (l.map .int)) n) : m_read_row [.str (rowText l)] n Q E := by
  have := row_len h hl
  refine rr_any (by omega) ?_
  rw [row_back h (by omega)]
  exact hQ
theorem rb_go {l : List (List Int)} {n : Nat} {Q : D → Nat → Prop} {E : Exc → Nat → Prop} (h : ∀ x ∈ l, okB x = true) (hl : l.length ≤ 30) (hQ : Q (.tup (l.map bI)) n) : m_read_blocks [.str (blksText l)] n Q E := by
  have := blks_len h hl
  refine rb_any (by omega) ?_
  rw [blks_back h (by omega)]
  exact hQ
theorem w_neBI {l : List (List Int)} : gNe (.tup (l.map bI)) (.tup (l.map bI)) = some (.bl false) := by
  rw [w_neO (bIs_ok l) (bIs_ok l) (by omega) (by omega) rfl, deq_refl (bIs_ok l)]
  rfl
theorem w_neRow {l : List Int} : gNe (.tup (l.map .int)) (.tup (l.map .int)) = some (.bl false) := by
  rw [w_neO (Ok.tupI l) (Ok.tupI l) (by omega) (by omega) rfl, deq_refl (Ok.tupI l)]
  rfl
theorem mul_long : ∃ s : Str, s.length = 10001 ∧ gMulS (.str "1") (.int 10001) = some (.str s) := by
  refine ⟨repS "1" (Int.toNat 10001), ?_, ?_⟩
  · rw [repS_len]
    rfl
  · unfold gMulS
    exact if_pos ⟨by omega, by omega, by decide +kernel, by decide +kernel, by decide +kernel⟩
abbrev s__law_right : Stmt := topS 33
abbrev N__law_right : List Str := ["dice", "turn", "row", "blocks", "one", "two", "told", "bad", "odd", "other", "some", "place", "number", "block"]
theorem sc__law_right : FnScope N__law_right ["dice"] (defScope s__law_right) := ⟨rfl, rfl, rfl, by decide +kernel, rfl, by decide +kernel, by decide +kernel⟩
theorem b__law_right (kV doc pm : Value) (an : Option Addr) (cdv ct : Value) (us : List Value) (hl : us.length = (["dice"] : List Str).length) : bindArgs (PySem.W.fnOf "_law_right" "_law_right" (defArgs s__law_right) (defBody s__law_right) (defScope s__law_right) .none kV doc pm an cdv ct) ⟨us, []⟩ = pure ((["dice"] : List Str).zip us) := match us, hl with | [_], _ => rfl
def m__law_right : MT := mt1 fun a n Q _ => a = .dice ∧ 1000 ≤ n ∧ ∀ n', n - 1000 ≤ n' → Q (.bl true) n'
theorem ok__law_right {f : Addr} (F : FunL K mg base T "_law_right" s__law_right f) (hm : mg "_law_right" = some (.ref f)) (B : Bi mg)  (C__law_roll : CalD P w K mg base T CX0 1 "_law_roll" s__law_roll ["dice", "total"] m__law_roll) (C__law_pick : CalD P w K mg base T CX0 2 "_law_pick" s__law_pick ["dice", "things"] m__law_pick) (C_write_blocks : CalD P w K mg base T (L2.CX P w) 4 "write_blocks" s_write_blocks ["blocks"] m_write_blocks) (C_write_row : CalD P w K mg base T (L2.CX P w) 4 "write_row" s_write_row ["row"] m_write_row) (C_read_row : CalD P w K mg base T (L2.CX P w) 4 "read_row" s_read_row ["text"] m_read_row) (C_read_blocks : CalD P w K mg base T (L2.CX P w) 4 "read_blocks" s_read_blocks ["text"] m_read_blocks) (C__law_bent : CalD P w K mg base T CX0 3 "_law_bent" s__law_bent ["dice", "text"] m__law_bent) (C__law_row_due : CalD P w K mg base T CX0 2 "_law_row_due" s__law_row_due ["text"] m__law_row_due) (C__law_blocks_due : CalD P w K mg base T CX0 2 "_law_blocks_due" s__law_blocks_due ["text"] m__law_blocks_due) (R__law_refused : RefD P w K mg "_law_refused" "BadArgument" "name" "") (M__law_met : MetD P w K mg "_law_met" "BadText" "place" "read" "bad")  : CalG P w K mg base T CX0 10 "_law_right" s__law_right ["dice"] m__law_right := by
  refine okDLG F hm sc__law_right ar1 (fun cdv A outer s G H n E ED hr hgd LA => ⟨_, (pdss_cons (pds_set (i := 2) sc__law_right.nd rfl (.inl rfl) (pd_callTy cd_tuple (by rfl) B.tuple (by decide +kernel) (pda_cons (pd_lc rfl sc__law_right.nd (pdi_range1 (by rfl) B.range (pda_cons (pd_callZ C__law_roll lk0 (hr.mono (by decide)) (by rfl) b__law_roll (pda_cons (pdv 0) (pda_cons pd_int pda_nil))) pda_nil)) (blkOk_by (own := [("turn", 1)]) (N := N__law_right) (sc := defScope s__law_right) (by decide +kernel)) (fun _ _ _ _ _ => pg_name (i := 1) sc__law_right.nd rfl (by first | exact .inl rfl | exact .inr rfl)) (fun _ _ _ _ _ => pdts_nil) (fun _ _ _ _ _ => (pd_callZ C__law_pick lk0 (hr.mono (by decide)) (by rfl) b__law_pick (pda_cons (pdv 0) (pda_cons (pd_lst (pda_cons pd_int (pda_cons pd_int (pda_cons pd_int (pda_cons (pd_callZ C__law_roll lk0 (hr.mono (by decide)) (by rfl) b__law_roll (pda_cons (pdv 0) (pda_cons pd_int pda_nil))) pda_nil))))) pda_nil))))) pda_nil)))
      (pdss_cons (pds_set (i := 3) sc__law_right.nd rfl (.inl rfl) (pd_callTy cd_tuple (by rfl) B.tuple (by decide +kernel) (pda_cons (pd_lc rfl sc__law_right.nd (pdi_range1 (by rfl) B.range (pda_cons (pd_callZ C__law_roll lk0 (hr.mono (by decide)) (by rfl) b__law_roll (pda_cons (pdv 0) (pda_cons pd_int pda_nil))) pda_nil)) (blkOk_by (own := [("turn", 1)]) (N := N__law_right) (sc := defScope s__law_right) (by decide +kernel)) (fun _ _ _ _ _ => pg_name (i := 1) sc__law_right.nd rfl (by first | exact .inl rfl | exact .inr rfl)) (fun _ _ _ _ _ => pdts_nil) (fun _ _ _ _ _ => (pd_callTy cd_tuple (by rfl) B.tuple (by decide +kernel) (pda_cons (pd_lc rfl sc__law_right.nd (pdi_range1 (by rfl) B.range (pda_cons pd_int pda_nil)) (blkOk_by (by rfl)) (fun _ _ _ _ _ => pg_name (i := 11) sc__law_right.nd rfl (by first | exact .inl rfl | exact .inr rfl)) (fun _ _ _ _ _ => pdts_nil) (fun _ _ _ _ _ => (pd_callZ C__law_pick lk0 (hr.mono (by decide)) (by rfl) b__law_pick (pda_cons (pdv 0) (pda_cons (pd_lst (pda_cons pd_int (pda_cons pd_int (pda_cons (pd_callZ C__law_roll lk0 (hr.mono (by decide)) (by rfl) b__law_roll (pda_cons (pdv 0) (pda_cons pd_int pda_nil))) pda_nil)))) pda_nil))))) pda_nil)))) pda_nil)))
      (pdss_cons (pds_par (i := 4) (j := 5) rfl sc__law_right.nd rfl rfl (by decide) rfl rfl (pda_cons (pd_callGK0 (k := 4) ["write_row"] (fsL [("write_row", m_write_row)]) (can_cons (C_write_row.canK (np := 0) (ks := ["row"]) (perm := [(false, 0)]) (by decide) (fun _ _ _ _ _ _ us ws hu hw => match us, ws, hu, hw with | [], [_], _, _ => rfl)) can_nil) lkN (hr.mono (by decide)) (pd_fn (by rfl) C_write_row.at_) (pda_kcons (pdv 2) pda_knil)) (pda_cons (pd_callZ C_write_blocks lkN (hr.mono (by decide)) (by rfl) b_write_blocks (pda_cons (pdv 3) pda_nil)) pda_nil)) (by rfl))
      (pdss_cons (pds_if (pdw_pt (pdw_or (pdt_cmp (od_ne (hu64 hr)) (pdv 4) (pd_join pd_str (pd_lc rfl sc__law_right.nd (pdi_tup (pdv 2)) (blkOk_by (own := [("number", 12)]) (N := N__law_right) (sc := defScope s__law_right) (by decide +kernel)) (fun _ _ _ _ _ => pg_name (i := 12) sc__law_right.nd rfl (by first | exact .inl rfl | exact .inr rfl)) (fun _ _ _ _ _ => pdts_nil) (fun _ _ _ _ _ => (pd_if (pdt_cmp (od_eq (hu64 hr)) (pdv 12) pd_int (nomark _)) pd_str (pd_callTy cd_strI (by rfl) B.str (by decide +kernel) (pda_cons (pdv 12) pda_nil)))))) (nomark _)) (pdw_or1 (pdt_cmp (od_ne (hu64 hr)) (pdv 5) (pd_join pd_str (pd_lc rfl sc__law_right.nd (pdi_tup (pdv 3)) (blkOk_by (own := [("block", 13)]) (N := N__law_right) (sc := defScope s__law_right) (by decide +kernel)) (fun _ _ _ _ _ => pg_name (i := 13) sc__law_right.nd rfl (by first | exact .inl rfl | exact .inr rfl)) (fun _ _ _ _ _ => pdts_nil) (fun _ _ _ _ _ => (pd_join pd_str (pd_lc rfl sc__law_right.nd (pdi_tup (pdv 13)) (blkOk_by (by rfl)) (fun _ _ _ _ _ => pg_name (i := 11) sc__law_right.nd rfl (by first | exact .inl rfl | exact .inr rfl)) (fun _ _ _ _ _ => pdts_nil) (fun _ _ _ _ _ => (pd_callTy cd_strI (by rfl) B.str (by decide +kernel) (pda_cons (pdv 11) pda_nil)))))))) (nomark _))))) (pdss_one (pds_ret pd_bl)) pdss_nil)
      (pdss_cons (pds_if (pdw_pt (pdw_or (pdt_cmp (od_ne (hu64 hr)) (pd_callZ C_read_row lkN (hr.mono (by decide)) (by rfl) b_read_row (pda_cons (pdv 4) pda_nil)) (pdv 2) (nomark _)) (pdw_or (pdt_cmp (od_ne (hu64 hr)) (pd_callGK0 (k := 4) ["read_blocks"] (fsL [("read_blocks", m_read_blocks)]) (can_cons (C_read_blocks.canK (np := 0) (ks := ["text"]) (perm := [(false, 0)]) (by decide) (fun _ _ _ _ _ _ us ws hu hw => match us, ws, hu, hw with | [], [_], _, _ => rfl)) can_nil) lkN (hr.mono (by decide)) (pd_fn (by rfl) C_read_blocks.at_) (pda_kcons (pdv 5) pda_knil)) (pdv 3) (nomark _)) (pdw_or (pdt_cmp (od_ne (hu64 hr)) (pd_callGK0 (k := 4) ["read_row"] (fsL [("read_row", m_read_row)]) (can_cons (C_read_row.canK (np := 0) (ks := ["text"]) (perm := [(false, 0)]) (by decide) (fun _ _ _ _ _ _ us ws hu hw => match us, ws, hu, hw with | [], [_], _, _ => rfl)) can_nil) lkN (hr.mono (by decide)) (pd_fn (by rfl) C_read_row.at_) (pda_kcons (pdv 4) pda_knil)) (pdv 2) (nomark _)) (pdw_or1 (pdt_cmp (od_ne (hu64 hr)) (pd_callGK0 (k := 4) ["write_blocks"] (fsL [("write_blocks", m_write_blocks)]) (can_cons (C_write_blocks.canK (np := 0) (ks := ["blocks"]) (perm := [(false, 0)]) (by decide) (fun _ _ _ _ _ _ us ws hu hw => match us, ws, hu, hw with | [], [_], _, _ => rfl)) can_nil) lkN (hr.mono (by decide)) (pd_fn (by rfl) C_write_blocks.at_) (pda_kcons (pdv 3) pda_knil)) (pdv 5) (nomark _))))))) (pdss_one (pds_ret pd_bl)) pdss_nil)
      (pdss_cons (pds_for PassesOwn.never rfl (pdi_range1 (by rfl) B.range (pda_cons pd_int pda_nil)) (pdg_name (i := 1) sc__law_right.nd rfl (.inl rfl)) (pdss_cons (pds_asg (pd_tup (pda_cons (pd_callZ C__law_bent lk0 (hr.mono (by decide)) (by rfl) b__law_bent (pda_cons (pdv 0) (pda_cons (pdv 4) pda_nil))) (pda_cons (pd_callZ C__law_bent lk0 (hr.mono (by decide)) (by rfl) b__law_bent (pda_cons (pdv 0) (pda_cons (pdv 5) pda_nil))) pda_nil))) (pdg_tup (n := 2) rfl (pdgs_cons (pdg_name (i := 10) sc__law_right.nd rfl (.inr rfl)) (pdgs_cons (pdg_name (i := 9) sc__law_right.nd rfl (.inr rfl)) pdgs_nil))))
      (pdss_cons (pds_if (pdt_cmp (od_ne (hu64 hr)) (pd_callB (cd_repr hgd (hu64 hr)) (by rfl) B.repr (by decide +kernel) (pda_cons (pd_met (k := 7) M__law_met LA (hr.mono (by decide)) (by rfl) (LamX.lamS_by (sc := defScope s__law_right) (by decide +kernel)) (de := _) (fun A outer s2 H2 E2 fL c' G2 H02 n2 ED2 hr2 L2 => (pd_callZ C_read_row (lkX L2 (passes_call (takes_of rfl rfl rfl rfl) fun _ _ _ _ h => h)) (hr2.mono (by decide)) (by rfl) b_read_row (pda_cons (pdv 10) pda_nil)))) pda_nil)) (pd_callB (cd_repr hgd (hu64 hr)) (by rfl) B.repr (by decide +kernel) (pda_cons (pd_callZ C__law_row_due lk0 (hr.mono (by decide)) (by rfl) b__law_row_due (pda_cons (pdv 10) pda_nil)) pda_nil)) (nomark _)) (pdss_one (pds_ret pd_bl)) pdss_nil)
      (pdss_one (pds_if (pdt_cmp (od_ne (hu64 hr)) (pd_callB (cd_repr hgd (hu64 hr)) (by rfl) B.repr (by decide +kernel) (pda_cons (pd_met (k := 7) M__law_met LA (hr.mono (by decide)) (by rfl) (LamX.lamS_by (sc := defScope s__law_right) (by decide +kernel)) (de := _) (fun A outer s2 H2 E2 fL c' G2 H02 n2 ED2 hr2 L2 => (pd_callZ C_read_blocks (lkX L2 (passes_call (takes_of rfl rfl rfl rfl) fun _ _ _ _ h => h)) (hr2.mono (by decide)) (by rfl) b_read_blocks (pda_cons (pdv 9) pda_nil)))) pda_nil)) (pd_callB (cd_repr hgd (hu64 hr)) (by rfl) B.repr (by decide +kernel) (pda_cons (pd_callZ C__law_blocks_due lk0 (hr.mono (by decide)) (by rfl) b__law_blocks_due (pda_cons (pdv 9) pda_nil)) pda_nil)) (nomark _)) (pdss_one (pds_ret pd_bl)) pdss_nil)))))
      (pdss_cons (pds_asg (pd_tup (pda_cons (pd_callZ C__law_pick lk0 (hr.mono (by decide)) (by rfl) b__law_pick (pda_cons (pdv 0) (pda_cons (pd_lst (pda_cons pd_non (pda_cons pd_int (pda_cons (pd_tup pda_nil) (pda_cons (pd_lst (pda_cons pd_str pda_nil)) (pda_cons pd_bl (pda_cons (pd_op od_mulS pd_str pd_int) pda_nil))))))) pda_nil))) (pda_cons (pd_callZ C__law_pick lk0 (hr.mono (by decide)) (by rfl) b__law_pick (pda_cons (pdv 0) (pda_cons (pd_lst (pda_cons pd_non (pda_cons (pd_lst (pda_cons pd_int pda_nil)) (pda_cons (pd_tup (pda_cons pd_int pda_nil)) (pda_cons (pd_tup (pda_cons (pd_neg pd_int) pda_nil)) (pda_cons (pd_tup (pda_cons pd_bl pda_nil)) (pda_cons (pd_tup (pda_cons (pd_tup (pda_cons pd_int (pda_cons pd_int pda_nil))) pda_nil)) (pda_cons (pd_tup (pda_cons (pd_tup (pda_cons pd_int (pda_cons pd_int (pda_cons pd_int pda_nil)))) pda_nil)) pda_nil)))))))) pda_nil))) pda_nil))) (pdg_tup (n := 2) rfl (pdgs_cons (pdg_name (i := 7) sc__law_right.nd rfl (.inr rfl)) (pdgs_cons (pdg_name (i := 8) sc__law_right.nd rfl (.inr rfl)) pdgs_nil))))
      (pdss_cons (pds_set (i := 6) sc__law_right.nd rfl (.inl rfl) (pd_lst (pda_cons (pd_met (k := 7) M__law_met LA (hr.mono (by decide)) (by rfl) (LamX.lamS_by (sc := defScope s__law_right) (by decide +kernel)) (de := _) (fun A outer s2 H2 E2 fL c' G2 H02 n2 ED2 hr2 L2 => (pd_callZ C_read_row (lkX L2 (passes_call (takes_of rfl rfl rfl rfl) fun _ _ _ _ h => h)) (hr2.mono (by decide)) (by rfl) b_read_row (pda_cons (pdv 7) pda_nil)))) (pda_cons (pd_met (k := 7) M__law_met LA (hr.mono (by decide)) (by rfl) (LamX.lamS_by (sc := defScope s__law_right) (by decide +kernel)) (de := _) (fun A outer s2 H2 E2 fL c' G2 H02 n2 ED2 hr2 L2 => (pd_callZ C_read_blocks (lkX L2 (passes_call (takes_of rfl rfl rfl rfl) fun _ _ _ _ h => h)) (hr2.mono (by decide)) (by rfl) b_read_blocks (pda_cons (pdv 7) pda_nil)))) pda_nil))))
      (pdss_one (pds_ret (pd_and (pd_cmp (od_eq (hu64 hr)) (pdv 6) (pd_rep (pda_cons (pd_tup (pda_cons pd_str (pda_cons (pd_neg pd_int) pda_nil))) pda_nil) pd_int) (nomark _)) (pd_one (pd_cmp (od_eq (hu64 hr)) (pd_lst (pda_cons (pd_refused (k := 7) R__law_refused LA (hr.mono (by decide)) (by rfl) (LamX.lamS_by (sc := defScope s__law_right) (by decide +kernel)) (de := _) (fun A outer s2 H2 E2 fL c' G2 H02 n2 ED2 hr2 L2 => (pd_callZ C_write_row (lkX L2 (passes_call (takes_of rfl rfl rfl rfl) fun _ _ _ _ h => h)) (hr2.mono (by decide)) (by rfl) b_write_row (pda_cons (pdv 8) pda_nil)))) (pda_cons (pd_refused (k := 7) R__law_refused LA (hr.mono (by decide)) (by rfl) (LamX.lamS_by (sc := defScope s__law_right) (by decide +kernel)) (de := _) (fun A outer s2 H2 E2 fL c' G2 H02 n2 ED2 hr2 L2 => (pd_callZ C_write_blocks (lkX L2 (passes_call (takes_of rfl rfl rfl rfl) fun _ _ _ _ h => h)) (hr2.mono (by decide)) (by rfl) b_write_blocks (pda_cons (pdv 8) pda_nil)))) pda_nil))) (pd_lst (pda_cons pd_str (pda_cons pd_str pda_nil))) (nomark _)))))))))))))), fun ds Qd hl h => ?_⟩)
  obtain ⟨a, rfl, rfl, hn, hQ⟩ := h
  walk_at "dl"
  refine ⟨_, rfl, by omega, by omega, by omega, fun r r0 r1 _ => ⟨_, rfl, ⟨by omega, by omega⟩, ?_⟩⟩
  rw [rgD_eq]
  refine comp_inv D.int (fun xs acc n' => ∃ l : List Int, acc = l.map .int ∧ (∀ x ∈ l, 0 ≤ x ∧ x ≤ 500) ∧ l.length + xs.length ≤ 8 ∧ n ≤ n' + 1 + 2 * (8 - xs.length)) ?_ ?_ _ _ _ ⟨[], rfl, (fun x hx => by cases hx), by rw [rgI_len]; simp; omega, by rw [rgI_len]; omega⟩
  · rintro x xs acc n' ⟨l, rfl, hl0, hl8, hn'⟩
    rw [List.length_cons] at hl8 hn'
    refine ⟨by rw [List.length_map]; omega, _, rfl, fun K hK => ?_⟩
    walk_at "dl"
    refine ⟨_, rfl, by omega, by omega, by omega, fun q q0 q1 _ => ?_⟩
    refine ⟨_, _, rfl, rfl, _, .inl rfl, by simp, by simp, by omega, fun d hd _ => ?_⟩
    obtain ⟨z, rfl, z0, z1⟩ : ∃ z : Int, d = .int z ∧ 0 ≤ z ∧ z ≤ 500 := by
      simp only [List.mem_cons, List.not_mem_nil, or_false] at hd
      rcases hd with rfl | rfl | rfl | rfl
      · exact ⟨_, rfl, by omega, by omega⟩
      · exact ⟨_, rfl, by omega, by omega⟩
      · exact ⟨_, rfl, by omega, by omega⟩
      · exact ⟨_, rfl, by omega, by omega⟩
    refine hK _ _ ⟨l ++ [z], by rw [List.map_append]; rfl, fun y hy => ?_, by rw [List.length_append]; simp; omega, by omega⟩
    rcases List.mem_append.mp hy with hy | hy
    · exact hl0 y hy
    · rw [List.mem_singleton.mp hy]
      omega
  rintro acc n1 ⟨l, rfl, hl0, hl8, hn1⟩
  rw [List.length_nil] at hl8 hn1
  refine ⟨_, rfl, by omega, by omega, by omega, fun r2 r20 r21 _ => ⟨_, rfl, ⟨by omega, by omega⟩, ?_⟩⟩
  rw [rgD_eq]
  refine comp_inv D.int (fun xs acc n' => ∃ bs : List (List Int), acc = bs.map bI ∧ (∀ x ∈ bs, okB x = true) ∧ bs.length + xs.length ≤ 4 ∧ n ≤ n' + 100 + 6 * (4 - xs.length)) ?_ ?_ _ _ _ ⟨[], rfl, (fun x hx => by cases hx), by rw [rgI_len]; simp; omega, by rw [rgI_len]; omega⟩
  · rintro x xs acc n' ⟨bs, rfl, hb0, hb8, hn'⟩
    rw [List.length_cons] at hb8 hn'
    refine ⟨by rw [List.length_map]; omega, _, rfl, fun K hK => ?_⟩
    walk_at "dl"
    rw [rgD_eq]
    refine ⟨⟨by omega, by omega⟩, ?_⟩
    refine comp_inv D.int (fun xs2 acc2 n2 => ∃ t : List Int, acc2 = t.map .int ∧ (∀ x ∈ t, 0 ≤ x ∧ x ≤ 3000) ∧ t.length + xs2.length = 3 ∧ n' ≤ n2 + 2 * (3 - xs2.length)) ?_ ?_ _ _ _ ⟨[], rfl, (fun x hx => by cases hx), by rw [rgI_len]; rfl, by rw [rgI_len]; omega⟩
    · rintro x2 xs2 acc2 n2 ⟨t, rfl, ht0, ht8, hn2⟩
      rw [List.length_cons] at ht8 hn2
      refine ⟨by rw [List.length_map]; omega, _, rfl, fun K2 hK2 => ?_⟩
      walk_at "dl"
      refine ⟨_, rfl, by omega, by omega, by omega, fun q q0 q1 _ => ?_⟩
      refine ⟨_, _, rfl, rfl, _, .inl rfl, by simp, by simp, by omega, fun d hd _ => ?_⟩
      obtain ⟨z, rfl, z0, z1⟩ : ∃ z : Int, d = .int z ∧ 0 ≤ z ∧ z ≤ 3000 := by
        simp only [List.mem_cons, List.not_mem_nil, or_false] at hd
        rcases hd with rfl | rfl | rfl
        · exact ⟨_, rfl, by omega, by omega⟩
        · exact ⟨_, rfl, by omega, by omega⟩
        · exact ⟨_, rfl, by omega, by omega⟩
      refine hK2 _ _ ⟨t ++ [z], by rw [List.map_append]; rfl, fun y hy => ?_, by rw [List.length_append]; simp; omega, by omega⟩
      rcases List.mem_append.mp hy with hy | hy
      · exact ht0 y hy
      · rw [List.mem_singleton.mp hy]
        omega
    rintro acc2 n2 ⟨t, rfl, ht0, ht8, hn2⟩
    rw [List.length_nil] at ht8 hn2
    have hok : okB t = true := by
      unfold okB
      rw [decide_eq_true (by omega), Bool.true_and, List.all_eq_true]
      intro i hi
      have := ht0 i hi
      rw [decide_eq_true this.1, decide_eq_true this.2]
      rfl
    refine hK _ _ ⟨bs ++ [t], by rw [List.map_append]; rfl, fun y hy => ?_, by rw [List.length_append]; simp; omega, by omega⟩
    rcases List.mem_append.mp hy with hy | hy
    · exact hb0 y hy
    · rw [List.mem_singleton.mp hy]
      exact hok
  rintro acc n2 ⟨bs, rfl, hb0, hb8, hn2⟩
  rw [List.length_nil] at hb8 hn2
  refine ⟨_, rfl, List.mem_cons_self, ?_⟩
  rw [fsWR]
  refine wr_go hl0 (by omega) fun _ => wb_go hb0 (by omega) fun _ => ?_
  have e1 : (" " : Str).length = 1 := by decide +kernel
  have e2 : ("-" : Str).length = 1 := by decide +kernel
  refine comp_on D.int (fun i => some (D.str (numT i))) l [] (fun i hi => ⟨_, rfl, fun K hK => ?_⟩) (by simp; omega) ?_
  · have hr := hl0 i hi
    walk_at "dl"
    unfold numT at hK
    by_cases c : i = 0
    · rw [if_neg (by omega)] at hK
      exact (if_pos (by simpa using c)).mpr hK
    · rw [if_pos (by omega)] at hK
      refine (if_neg (by simpa using c)).mpr ?_
      exact ⟨_, w_strI (log_small (by omega) (by omega)), hK⟩
  rw [fm_map, List.nil_append, all_strs]
  refine ⟨_, .inl rfl, ?_, _, rfl, _, rfl, ?_⟩
  · have hs := sum_le (fun x : Str => x.length) 4 (l := l.map numT) fun x hx' => by
      obtain ⟨i, hi, rfl⟩ := List.mem_map.mp hx'
      have := hl0 i hi
      exact numT_len (by omega)
    rw [e1]
    rw [List.length_map] at hs ⊢
    omega
  refine (if_neg (by rw [show Txt.join " " (l.map numT) = rowText l from rfl]; simp)).mpr ?_
  refine comp_on bI (fun t => some (D.str (blkText t))) bs [] (fun t hi => ⟨_, rfl, fun K hK => ?_⟩) (by simp; omega) ?_
  · obtain ⟨c1, c2⟩ := okB_mem (hb0 t hi)
    unfold bI
    walk_at "dl"
    refine comp_on D.int (fun i => some (D.str (strN i))) t [] (fun i hi => ⟨_, rfl, fun K hK => ?_⟩) (by simp; omega) ?_
    · have := c2 i hi
      walk_at "dl"
      exact ⟨_, w_strI (log_small (by omega) (by omega)), hK⟩
    · rw [fm_map, List.nil_append, all_strs]
      refine ⟨_, .inl rfl, ?_, hK⟩
      have hs := sum_le (fun x : Str => x.length) 4 (l := t.map strN) fun x hx' => by
        obtain ⟨i, hi, rfl⟩ := List.mem_map.mp hx'
        have := c2 i hi
        exact strN_len (by omega) (by omega)
      rw [e2]
      rw [List.length_map] at hs ⊢
      omega
  rw [fm_map, List.nil_append, all_strs]
  refine ⟨_, .inl rfl, ?_, _, rfl, _, rfl, ?_⟩
  · have hs := sum_le (fun x : Str => x.length) 15 (l := bs.map blkText) fun x hx' => by
      obtain ⟨t, ht, rfl⟩ := List.mem_map.mp hx'
      obtain ⟨c1, c2⟩ := okB_mem (hb0 t ht)
      exact blk_len c1 fun i hi => by have := c2 i hi; omega
    rw [e1]
    rw [List.length_map] at hs ⊢
    omega
  refine (if_neg (by rw [show Txt.join " " (bs.map blkText) = blksText bs from rfl]; simp)).mpr ?_
  refine rr_go hl0 (by omega) fun _ => ⟨_, w_neRow, _, rfl, (if_neg (by simp)).mpr ?_⟩
  refine ⟨_, rfl, List.mem_cons_self, ?_⟩
  rw [fsRB]
  refine rb_go hb0 (by omega) fun _ => ⟨_, w_neBI, _, rfl, (if_neg (by simp)).mpr ?_⟩
  refine ⟨_, rfl, List.mem_cons_self, ?_⟩
  rw [fsRR]
  refine rr_go hl0 (by omega) fun _ => ⟨_, w_neRow, _, rfl, (if_neg (by simp)).mpr ?_⟩
  refine ⟨_, rfl, List.mem_cons_self, ?_⟩
  rw [fsWB]
  refine wb_go hb0 (by omega) fun _ => ⟨_, rfl, _, rfl, (if_neg (by simp)).mpr ?_⟩
  have asR := row_asc l
  have asB := blks_asc hb0
  have lnR := row_len hl0 (by omega)
  have lnB := blks_len hb0 (by omega)
  generalize rowText l = one at *
  generalize blksText bs = two at *
  refine ⟨⟨by omega, by omega⟩, ?_⟩
  rw [rgD_eq]
  refine loop_inv D.int (fun xs S => ∃ (n' : Nat) (x1 x9 x10 : Option SV), xs.length ≤ 10 ∧ n ≤ n' + 200 + 6 * (10 - xs.length) ∧ S = ⟨[some (.p .dice), x1, some (.p (.tup (l.map .int))), some (.p (.tup (bs.map bI))), some (.p (.str one)), some (.p (.str two)), none, none, none, x9, x10, none, none, none], n'⟩) ?_ ?_ _ _ ⟨_, _, _, _, by rw [rgI_len]; decide, by rw [rgI_len]; omega, rfl⟩
  · rintro x xs S ⟨n', x1, x9, x10, hlen, hn', rfl⟩ K2 hK
    rw [List.length_cons] at hlen hn'
    walk_at "dl"
    refine ⟨_, _, rfl, rfl, one, rfl, by omega, asR, by omega, fun t ht hta _ => ?_⟩
    refine ⟨_, _, rfl, rfl, two, rfl, by omega, asB, by omega, fun u hu hua _ => ?_⟩
    have ct := parts_cnt t
    have cu := parts_cnt u
    have hx := rowGo_ok (m := 2101) (partsL t) 0 [] (by omega) rfl (fun x hx => by cases hx)
    have hy := blkGo_ok (m := 2101) (partsL u) 0 [] (by omega) rfl (fun x hx => by cases hx)
    have dueR : ∀ {n5 : Nat} {Q5 : D → Nat → Prop}, Q5 (rD (rowGo 0 [] (partsL t))) n5 → m__law_row_due [.str t] n5 Q5 ED0 := fun q => ⟨_, rfl, t, rfl, by omega, hta, q⟩
    have dueB : ∀ {n5 : Nat} {Q5 : D → Nat → Prop}, Q5 (bD (blkGo 0 [] (partsL u))) n5 → m__law_blocks_due [.str u] n5 Q5 ED0 := fun q => ⟨_, rfl, u, rfl, by omega, hua, q⟩
    have rr : ∀ {n5 : Nat} {Q5 : D → Nat → Prop} {E5 : Exc → Nat → Prop}, eR E5 Q5 n5 (rowGo 0 [] (partsL t)) → m_read_row [.str t] n5 Q5 E5 := fun q => rr_any (by omega) q
    have rb : ∀ {n5 : Nat} {Q5 : D → Nat → Prop} {E5 : Exc → Nat → Prop}, eB E5 Q5 n5 (blkGo 0 [] (partsL u)) → m_read_blocks [.str u] n5 Q5 E5 := fun q => rb_any (by omega) q
    generalize rowGo 0 [] (partsL t) = y1 at *
    generalize blkGo 0 [] (partsL u) = y2 at *
    obtain ⟨z1, hz1⟩ := rD_repr hx (by omega)
    obtain ⟨z2, hz2⟩ := bD_repr hy (by omega)
    refine met_to (rD y1) (fun E2 N hE hN => ?_) ?_
    · walk_at "dl"
      refine rr ?_
      cases y1 with
      | inl i => exact hE _ rfl
      | inr l' => exact fun _ => hN _ rfl
    refine ⟨_, hz1, dueR fun _ => ⟨_, hz1, _, rfl, _, rfl, (if_neg (by simp)).mpr ?_⟩⟩
    refine met_to (bD y2) (fun E2 N hE hN => ?_) ?_
    · walk_at "dl"
      refine rb ?_
      cases y2 with
      | inl i => exact hE _ rfl
      | inr l' => exact fun _ => hN _ rfl
    refine ⟨_, hz2, dueB fun _ => ⟨_, hz2, _, rfl, _, rfl, (if_neg (by simp)).mpr ?_⟩⟩
    dsimp only
    exact hK _ ⟨_, _, _, _, by omega, by omega, rfl⟩
  rintro S ⟨n', x1, x9, x10, hlen, hn', rfl⟩
  rw [List.length_nil] at hn'
  walk_at "dl"
  obtain ⟨long, hrep, hlong⟩ := mul_long
  refine ⟨_, hlong, ?_⟩
  refine ⟨_, _, rfl, rfl, _, .inl rfl, by simp, by simp, by omega, fun bad hb _ => ?_⟩
  refine ⟨_, _, rfl, rfl, _, .inl rfl, by simp, by simp, by omega, fun odd ho _ => ?_⟩
  have hbad : BadT bad := by
    simp only [List.mem_cons, List.not_mem_nil, or_false] at hb
    rcases hb with rfl | rfl | rfl | rfl | rfl | rfl
    · exact ⟨rfl, .inl rfl⟩
    · exact ⟨rfl, .inl rfl⟩
    · exact ⟨rfl, .inl rfl⟩
    · exact ⟨rfl, .inl rfl⟩
    · exact ⟨rfl, .inl rfl⟩
    · exact ⟨rfl, .inr ⟨_, rfl, hrep⟩⟩
  have hodd : vR odd ∧ areRow odd = false ∧ vB odd ∧ areBl 3001 odd = false := by
    simp only [List.mem_cons, List.not_mem_nil, or_false] at ho
    rcases ho with rfl | rfl | rfl | rfl | rfl | rfl | rfl
    · exact ⟨⟨rfl, fun xs e => by cases e⟩, rfl, ⟨rfl, fun xs e => by cases e⟩, rfl⟩
    · exact ⟨⟨rfl, fun xs e => by cases e⟩, rfl, ⟨rfl, fun xs e => by cases e⟩, rfl⟩
    · exact ⟨⟨rfl, fun xs e => by cases e; exact ⟨fun x hx => by rw [List.mem_singleton.mp hx]; rfl, by simp⟩⟩, rfl, ⟨rfl, fun xs e => by cases e; exact ⟨by simp, fun x hx => by rw [List.mem_singleton.mp hx]; exact ⟨rfl, fun ys e => by cases e⟩⟩⟩, rfl⟩
    · exact ⟨⟨rfl, fun xs e => by cases e; exact ⟨fun x hx => by rw [List.mem_singleton.mp hx]; rfl, by simp⟩⟩, rfl, ⟨rfl, fun xs e => by cases e; exact ⟨by simp, fun x hx => by rw [List.mem_singleton.mp hx]; exact ⟨rfl, fun ys e => by cases e⟩⟩⟩, rfl⟩
    · exact ⟨⟨rfl, fun xs e => by cases e; exact ⟨fun x hx => by rw [List.mem_singleton.mp hx]; rfl, by simp⟩⟩, rfl, ⟨rfl, fun xs e => by cases e; exact ⟨by simp, fun x hx => by rw [List.mem_singleton.mp hx]; exact ⟨rfl, fun ys e => by cases e⟩⟩⟩, rfl⟩
    · exact ⟨⟨rfl, fun xs e => by cases e; exact ⟨fun x hx => by rw [List.mem_singleton.mp hx]; rfl, by simp⟩⟩, rfl, ⟨rfl, fun xs e => by cases e; exact ⟨by simp, fun x hx => by
        rw [List.mem_singleton.mp hx]
        exact ⟨rfl, fun ys e => by
          cases e
          exact ⟨fun y hy => by
            simp only [List.mem_cons, List.not_mem_nil, or_false] at hy
            rcases hy with rfl | rfl <;> rfl, by simp⟩⟩⟩⟩, rfl⟩
    · exact ⟨⟨rfl, fun xs e => by cases e; exact ⟨fun x hx => by rw [List.mem_singleton.mp hx]; rfl, by simp⟩⟩, rfl, ⟨rfl, fun xs e => by cases e; exact ⟨by simp, fun x hx => by
        rw [List.mem_singleton.mp hx]
        exact ⟨rfl, fun ys e => by
          cases e
          exact ⟨fun y hy => by
            simp only [List.mem_cons, List.not_mem_nil, or_false] at hy
            rcases hy with rfl | rfl | rfl <;> rfl, by simp⟩⟩⟩⟩, rfl⟩
  refine met_to (.tup [.str "bad", .int (-1)]) (fun E2 N hE hN => ?_) ?_
  · walk_at "dl"
    exact rr_bad hbad (hE _ rfl)
  refine met_to (.tup [.str "bad", .int (-1)]) (fun E2 N hE hN => ?_) ?_
  · walk_at "dl"
    exact rb_bad hbad (hE _ rfl)
  walk_at "dl"
  refine ⟨by omega, by omega, _, w_told, _, rfl, (if_pos rfl).mpr ?_⟩
  obtain ⟨o1, o2, o3, o4⟩ := hodd
  refine ref_r0 (.str "row") (fun R N hR => ?_) ?_
  · walk_at "dl"
    exact wr_bad o1 o2 ⟨_, rfl, hR⟩
  refine ref_r0 (.str "blocks") (fun R N hR => ?_) ?_
  · walk_at "dl"
    exact wb_bad o3 o4 ⟨_, rfl, hR⟩
  exact ⟨_, w_rb, hQ _ (by show n - 1000 ≤ n' - 1 - 1; omega)⟩
end
end K5
set_option maxHeartbeats 1000000
namespace K5
open PySem PySem.Spec PyProof.Rows L2 DL
local macro_rules | `(tactic| walk_at "dl") => `(tactic| simp only [dRep, dSplit, dJoin, dRevS, w_str, w_strI, w_lenS, w_slS, w_addS', w_eqS, w_neS, dSeq, dRet, dDice, dSortI, dMaxI, dLstRg, dfDictT, dDGetT, dDPutT, dExtend, dExtT, dLenOl, dDst, dPopAt, dParFF, dParFP, dParPF, dAppend, otAt, dDGet2, dDGet, dDIn, dDPut, dCallG, dSpread, dLcD, dctAt, noOwn, gLenD, gdPair, itemD, dAsg, dIfS, dVar, dC, dOp, dB, dChain, dAnd, dOr, dNot, dAndV, dOrV, dNotV, dCall, dNil, dCons, dFn, dIf, dTup, dLst, dDrop, dNext, dNeg, dSl, dNoPart, dPart, dRaise, dYes, dTupI, dLstI, dStrI, dRg1, dRg2, dEnumL, dEnumT, dRevL, dRevT, dLc, setsD, wipeD, dPar, dPar3, dOwn, dfRep, dfLst, dfList, dfDict, dFor, dgTup, dgCons, dgName, dgNil, dAsgG, dgSetIx, olAt, odAt, ent, froz,
  List.map_cons, List.map_nil, List.getElem?_cons_zero, List.getElem?_cons_succ, List.set_cons_zero, List.set_cons_succ, List.replicate, List.length_cons, List.length_nil, List.cons_append, List.nil_append, Nat.reduceAdd, Nat.reduceSub, Nat.reduceLeDiff,
  w_iteA, w_some, w_none, w_bl, w_bl2, w_int, w_lst, w_tup, w_eq, w_mulL, w_mulR, w_mod, w_div, Int.reduceLT, Int.reduceNeg, Int.reducePow, Int.reduceAdd, Int.reduceSub, Int.reduceMul, and_self, w_cons, w_set, w_lrange, w_lrange1, w_ltup, w_llst, w_par, w_par3, w_tupL, w_tupT, w_listL, w_listT, w_all1, w_all2, w_own0, w_ownP, w_g2T, w_addI, w_addL, w_addT, w_lenT, w_lenL, w_intI, w_intB, w_eqI, w_neI, w_eqB, w_neB, w_ixT, w_ixL, w_slL, w_slT, w_keyI, w_keyS, w_ex, w_two, w_three, if_true, if_false, Bool.false_eq_true, Bool.true_eq_false, Bool.not_true, Bool.not_false, eq_self, true_and, and_true])
section
variable {P : Program} {w : World} {K : PySem.W.Frag} {mg : MG} {base : Heap} {T : TT0}




abbrev s_law : Stmt := topS 34
abbrev N_law : List Str := ["script", "spot"]
theorem sc_law : FnScope N_law ["script"] (defScope s_law) := ⟨rfl, rfl, rfl, by decide +kernel, rfl, by decide +kernel, by decide +kernel⟩
theorem b_law (kV doc pm : Value) (an : Option Addr) (cdv ct : Value) (us : List Value) (hl : us.length = (["script"] : List Str).length) : bindArgs (PySem.W.fnOf "law" "law" (defArgs s_law) (defBody s_law) (defScope s_law) .none kV doc pm an cdv ct) ⟨us, []⟩ = pure ((["script"] : List Str).zip us) := match us, hl with | [_], _ => rfl
def m_law : MT := mt1 fun a n Q _ => ∃ l : List Int, a = .lst (l.map .int) ∧ l.length ≤ 100 ∧ n = 10000 ∧ ∀ n', Q (.bl true) n'
theorem law_m (ns : List Int) (hl : ns.length ≤ 63) (_ : ∀ z ∈ ns, Builtin.Int.intBits z ≤ 1048576) : m_law [.lst (ns.map .int)] 10000 (fun d _ => d = .bl true) ED0 := ⟨_, rfl, ns, rfl, by omega, rfl, fun _ => rfl⟩
theorem w_bad0 : gEq (.tup [.str "bad", .int 0]) (.tup [.str "bad", .int 0]) = some (.bl true) := by
  have h1 : Ok 1 (.tup [.str "bad", .int 0]) := .tup fun d hd => by
    simp only [List.mem_cons, List.not_mem_nil, or_false] at hd
    rcases hd with rfl | rfl
    · exact okS (by decide +kernel)
    · exact .int _
  rw [w_eqO h1 h1 (by omega) (by omega) rfl, deq_refl h1]
theorem w_nil0 : gEq (.tup []) (.tup []) = some (.bl true) := by
  have h1 : Ok 1 (.tup []) := Ok.tupI []
  rw [w_eqO h1 h1 (by omega) (by omega) rfl, deq_refl h1]
theorem row_nil : rowGo 0 [] (partsL "") = .inr [] := rfl
theorem blk_01 : blkGo 0 [] (partsL "0-1") = .inl 0 := by decide +kernel
theorem ok_law {f : Addr} (F : FunL K mg base T "law" s_law f) (hm : mg "law" = some (.ref f)) (B : Bi mg)  (C__law_right : CalG P w K mg base T CX0 10 "_law_right" s__law_right ["dice"] m__law_right) (C__law_dice : CalD P w K mg base T CX0 1 "_law_dice" s__law_dice ["script", "spot"] m__law_dice) (C_read_blocks : CalD P w K mg base T (L2.CX P w) 4 "read_blocks" s_read_blocks ["text"] m_read_blocks) (C_read_row : CalD P w K mg base T (L2.CX P w) 4 "read_row" s_read_row ["text"] m_read_row) (M__law_met : MetD P w K mg "_law_met" "BadText" "place" "read" "bad")  : CalG P w K mg base T CX0 11 "law" s_law ["script"] m_law := by
  refine okDLG F hm sc_law ar1 (fun cdv A outer s G H n E ED hr hgd LA => ⟨_, (pdss_cons (pds_for PassesOwn.never rfl (pdi_range1 (by rfl) B.range (pda_cons (pd_callB (cd_max2 rfl) (by rfl) B.max (by decide +kernel) (pda_cons pd_int (pda_cons (pd_callB (cd_min2 rfl) (by rfl) B.min (by decide +kernel) (pda_cons pd_int (pda_cons (pd_callB cd_len (by rfl) B.len (by decide +kernel) (pda_cons (pdv 0) pda_nil)) pda_nil))) pda_nil))) pda_nil)) (pdg_name (i := 1) sc_law.nd rfl (.inl rfl)) (pdss_one (pds_if (pdt_not (pdt_val (pd_callFG C__law_right (hr.mono (by decide)) hgd (by rfl) b__law_right (pda_cons (pd_callZ C__law_dice lk0 (hr.mono (by decide)) (by rfl) b__law_dice (pda_cons (pdv 0) (pda_cons (pdv 1) pda_nil))) pda_nil)))) (pdss_one (pds_ret pd_bl)) pdss_nil)))
      (pdss_one (pds_ret (pd_and (pd_cmp (od_eq (hu64 hr)) (pd_callZ C_read_row lkN (hr.mono (by decide)) (by rfl) b_read_row (pda_cons pd_str pda_nil)) (pd_tup pda_nil) (nomark _)) (pd_one (pd_cmp (od_eq (hu64 hr)) (pd_met (k := 8) M__law_met LA (hr.mono (by decide)) (by rfl) (LamX.lamS_by (sc := defScope s_law) (by decide +kernel)) (de := _) (fun A outer s2 H2 E2 fL c' G2 H02 n2 ED2 hr2 L2 => (pd_callZ C_read_blocks (lkX L2 (passes_call (takes_of rfl rfl rfl rfl) fun _ _ _ _ h => h)) (hr2.mono (by decide)) (by rfl) b_read_blocks (pda_cons pd_str pda_nil)))) (pd_tup (pda_cons pd_str (pda_cons pd_int pda_nil))) (nomark _))))))), fun ds Qd hl h => ?_⟩)
  obtain ⟨a, rfl, l, rfl, hl2, rfl, hQ⟩ := h
  walk_at "dl"
  refine ⟨_, rfl, _, rfl, _, rfl, ?_⟩
  have hj : ∀ m : Int, 0 ≤ m → ∃ j : Int, (if (if m < 6 then m else 6) > 1 then (if m < 6 then m else 6) else 1) = j ∧ 1 ≤ j ∧ j ≤ 6 := fun m hm => ⟨_, rfl, by split <;> omega, by split <;> split <;> omega⟩
  obtain ⟨j, ej, j1, j4⟩ := hj ((List.map D.int l).length : Int) (by omega)
  rw [ej]
  refine ⟨⟨by omega, by omega⟩, ?_⟩
  rw [rgD_eq]
  refine loop_inv D.int (fun xs S => ∃ d1 n', xs.length ≤ 6 ∧ 10000 ≤ n' + 1000 * (6 - xs.length) ∧ n' ≤ 10000 ∧ (∀ t ∈ xs, 0 ≤ t ∧ t ≤ 1000) ∧ S = ⟨[some (.p (.lst (l.map .int))), d1], n'⟩) ?_ ?_ _ _ ⟨_, _, by simp [rgI]; omega, by omega, by omega, fun t ht => by
    have := rgI_mem.mp ht
    omega, rfl⟩
  · rintro x xs S ⟨d1, n', hl4, hn', hn2, hx, rfl⟩ K2 hK
    rw [List.length_cons] at hn' hl4
    have hx0 := hx x List.mem_cons_self
    walk_at "dl"
    refine ⟨_, _, rfl, l, x, rfl, hl2, rfl, hx0.1, hx0.2, by unfold Big; omega, fun _ => ?_⟩
    refine ⟨_, rfl, rfl, by omega, fun n3 hn3 hn4 => ?_⟩
    walk_at "dl"
    exact hK _ ⟨_, _, by omega, by omega, by omega, fun t ht => hx t (List.mem_cons_of_mem _ ht), rfl⟩
  · rintro S ⟨d1, n', _, _, _, _, rfl⟩
    walk_at "dl"
    refine rr_any (by decide +kernel) ?_
    rw [row_nil]
    refine fun _ => ⟨_, w_nil0, _, rfl, (if_pos rfl).mpr ?_⟩
    refine met_to (.tup [.str "bad", .int 0]) (fun E2 N hE hN => ?_) ?_
    · walk_at "dl"
      refine rb_any (by decide +kernel) ?_
      rw [blk_01]
      exact hE _ rfl
    exact ⟨_, w_bad0, hQ _⟩
end
end K5
set_option maxHeartbeats 0
namespace K5.E
open PySem PySem.Spec PyProof.Rows L2 DL
def topS (i : Nat) : Stmt := PySem.Challenge.pw_pairrows_k05_whole_texts.main.body.getD i (.Pass ⟨0, 0, 0, 0⟩)
def dOf (i : Nat) (x : Str) : He.DefD := ⟨(x, none), x, x, defArgs (topS i), defBody (topS i), defScope (topS i), [], []⟩
def fn : List He.DefD := ([dOf 5 "is_in", dOf 6 "are_in", dOf 7 "demand", dOf 12 "are_blocks", dOf 17 "parts_of", dOf 18 "integer_of", dOf 19 "write_row", dOf 20 "read_row", dOf 21 "write_blocks", dOf 22 "read_blocks", dOf 24 "_law_dice", dOf 25 "_law_roll", dOf 26 "_law_pick", dOf 27 "_law_refused", dOf 28 "_law_met", dOf 29 "_law_number", dOf 30 "_law_row_due", dOf 31 "_law_blocks_due", dOf 32 "_law_bent", dOf 33 "_law_right"] : List He.DefD) ++ ([dOf 34 "law"] : List He.DefD)
def fa : List He.Fa := ([.glo "is_in", .glo "are_in", .glo "demand", .glo "are_blocks", .glo "parts_of", .glo "integer_of", .glo "write_row", .glo "read_row", .glo "write_blocks", .glo "read_blocks", .glo "_law_dice", .glo "_law_roll", .glo "_law_pick", .glo "_law_refused", .glo "_law_met", .glo "_law_number", .glo "_law_row_due", .glo "_law_blocks_due", .glo "_law_bent", .glo "_law_right"] : List He.Fa) ++ ([.glo "law", .glo "BadArgument", .glo "BadText", .free "isinstance", .free "len", .free "all", .free "abs", .free "sum", .free "sorted", .free "int", .free "bool", .free "tuple", .free "list", .free "str", .free "max", .free "min", .free "repr", .free "range", .free "enumerate", .free "zip"] : List He.Fa) ++ ([.free "set", .free "super", .int "MOST_BLOCKS" 500, .int "MOST_SIGNS" 10000, .int "MOST" 500, .int "MOST_ROW" 1001, .int "MOST_ORDER" 3001, .str "FIGURES" "0123456789"] : List He.Fa)
def loose : List Str := (["PairError", "BadArgument", "BadText", "is_in", "are_in", "demand", "MOST", "MOST_ORDER", "MOST_BLOCKS", "are_blocks", "MOST_SIGNS", "MOST_ROW", "FIGURES", "parts_of", "integer_of", "write_row", "read_row", "write_blocks", "read_blocks", "_law_dice"] : List Str) ++ (["_law_roll", "_law_pick", "_law_refused", "_law_met", "_law_number", "_law_row_due", "_law_blocks_due", "_law_bent", "_law_right"] : List Str)
def tf : List He.Defn := [("_law_right", none), ("law", none)]
def clsB : Stmt → List Stmt := fun s => match s with
  | .ClassDef _ _ _ b _ _ _ _ _ _ _ => b
  | _ => []
def mS_BadArgument : Stmt := (clsB (topS 2)).getD 0 (.Pass ⟨0, 0, 0, 0⟩)
def q_BadArgument : DefQ := ⟨"BadArgument", "BadArgument.__init__", defArgs mS_BadArgument, defBody mS_BadArgument, defScope mS_BadArgument⟩
def mS_BadText : Stmt := (clsB (topS 3)).getD 0 (.Pass ⟨0, 0, 0, 0⟩)
def q_BadText : DefQ := ⟨"BadText", "BadText.__init__", defArgs mS_BadText, defBody mS_BadText, defScope mS_BadText⟩
def qs : List DefQ := [q_BadArgument, q_BadText]
def ex (K : PySem.W.Frag) : Bool := initB "BadArgument" "BadArgument.__init__" "/claim/cut.py" "name" K && (initB "BadText" "BadText.__init__" "/claim/cut.py" "place" K && (refB "BadArgument" "name" K && (refB "BadText" "place" K && (decide ((He.cT K ("_law_right", none)).2 ≠ (He.cT K ("law", none)).2)))))
abbrev R : PySem.W.OpenRow := PySem.W.OpenLaw.row PySem.Challenge.rw_pairrows_k05_whole_texts
abbrev hk : PySem.W.Hook := hookY 5 fa fn [] tf ex qs
def ob (s : PySem.W.SharedT) : AlY := obsY 5 fa fn [] tf ex qs (HandSHeadRun.getT s)
theorem ob_eq (s : PySem.W.SharedT) : ob s = hk.obs s.abs := obsY_eq (HandSHeadRun.getT_eq s)
theorem run (w : World) : HandSHeadRun.RunEq R (PySem.W.view R.prog [34]) hk ob 4000 loose w := by
  intro os
  kernel_rfl
end K5.E
set_option maxHeartbeats 0
namespace K5.E
open PySem PySem.Spec PyProof.Rows L2 DL
section
variable {w : World} {K : PySem.W.Frag} {mg : MG} {h base : Heap}
abbrev P0 : Program := PySem.Challenge.rw_pairrows_k05_whole_texts.prog
abbrev Sy (w : World) (h : Heap) (K : PySem.W.Frag) : Prop := He.SaysX fa fn [] tf ex w h K
theorem rz_BadArgument (X : K.In h) (G : h.Ns mainGlobals mg) (c : Sy w h K) (q : (qs.map fun d => qObs K d.cls) = qs.map DefQ.val) : RaiseC P0 w K mg base "BadArgument" "name" := by
  have qe : qObs K q_BadArgument.cls = q_BadArgument.val := by
    have e2 : (qs.map fun d => qObs K d.cls)[0]? = (qs.map DefQ.val)[0]? := by rw [q]
    exact Option.some.inj e2
  have hx : initB "BadArgument" "BadArgument.__init__" "/claim/cut.py" "name" K = true := (He.ba c.more).1
  have T := initB_ok (P := P0) (d := q_BadArgument) (f := "name") (file := "/claim/cut.py") qe hx (by rfl)
  obtain ⟨fd, o1, o2⟩ := init_ok (w := w) (mg := mg) (base := base) (x := "self") (y := "name") (pl := _) T ⟨rfl, rfl, rfl, by decide +kernel, rfl, rfl, by decide, rfl, rfl, ⟨_, rfl, rfl⟩, by rfl, by decide, by decide⟩ (He.free_ok X G (c.t.d.fact 41 (f := .free "super") rfl)) (fun _ _ _ _ _ _ _ us hl => match us, hl with | [_, _], _ => rfl) (fun env he => by cases env; cases he; rfl) (fun env he => by cases env; cases he; rfl)
  exact ⟨_, _, fd, _, T.oex, T.ini, T.tyI, o1, o2, He.glo_ok X G (c.t.d.fact 21 (f := .glo "BadArgument") rfl)⟩
theorem rz_BadText (X : K.In h) (G : h.Ns mainGlobals mg) (c : Sy w h K) (q : (qs.map fun d => qObs K d.cls) = qs.map DefQ.val) : RaiseC P0 w K mg base "BadText" "place" := by
  have qe : qObs K q_BadText.cls = q_BadText.val := by
    have e2 : (qs.map fun d => qObs K d.cls)[1]? = (qs.map DefQ.val)[1]? := by rw [q]
    exact Option.some.inj e2
  have hx : initB "BadText" "BadText.__init__" "/claim/cut.py" "place" K = true := (He.ba (He.ba c.more).2).1
  have T := initB_ok (P := P0) (d := q_BadText) (f := "place") (file := "/claim/cut.py") qe hx (by rfl)
  obtain ⟨fd, o1, o2⟩ := init_ok (w := w) (mg := mg) (base := base) (x := "self") (y := "place") (pl := _) T ⟨rfl, rfl, rfl, by decide +kernel, rfl, rfl, by decide, rfl, rfl, ⟨_, rfl, rfl⟩, by rfl, by decide, by decide⟩ (He.free_ok X G (c.t.d.fact 41 (f := .free "super") rfl)) (fun _ _ _ _ _ _ _ us hl => match us, hl with | [_, _], _ => rfl) (fun env he => by cases env; cases he; rfl) (fun env he => by cases env; cases he; rfl)
  exact ⟨_, _, fd, _, T.oex, T.ini, T.tyI, o1, o2, He.glo_ok X G (c.t.d.fact 22 (f := .glo "BadText") rfl)⟩
theorem bi (X : K.In h) (G : h.Ns mainGlobals mg) (c : Sy w h K) : Bi mg := ⟨He.free_ok X G (c.t.d.fact 23 (f := .free "isinstance") rfl), He.free_ok X G (c.t.d.fact 24 (f := .free "len") rfl), He.free_ok X G (c.t.d.fact 25 (f := .free "all") rfl), He.free_ok X G (c.t.d.fact 26 (f := .free "abs") rfl), He.free_ok X G (c.t.d.fact 27 (f := .free "sum") rfl), He.free_ok X G (c.t.d.fact 28 (f := .free "sorted") rfl), He.free_ok X G (c.t.d.fact 29 (f := .free "int") rfl), He.free_ok X G (c.t.d.fact 30 (f := .free "bool") rfl), He.free_ok X G (c.t.d.fact 31 (f := .free "tuple") rfl), He.free_ok X G (c.t.d.fact 32 (f := .free "list") rfl), He.free_ok X G (c.t.d.fact 33 (f := .free "str") rfl), He.free_ok X G (c.t.d.fact 34 (f := .free "max") rfl), He.free_ok X G (c.t.d.fact 35 (f := .free "min") rfl), He.free_ok X G (c.t.d.fact 36 (f := .free "repr") rfl), He.free_ok X G (c.t.d.fact 37 (f := .free "range") rfl), He.free_ok X G (c.t.d.fact 38 (f := .free "enumerate") rfl), He.free_ok X G (c.t.d.fact 39 (f := .free "zip") rfl), He.free_ok X G (c.t.d.fact 40 (f := .free "set") rfl)⟩
theorem rf__law_refused (X : K.In h) (G : h.Ns mainGlobals mg) (c : Sy w h K) : RefD P0 w K mg "_law_refused" "BadArgument" "name" "" := by
  have hx : refB "BadArgument" "name" K = true := (He.ba (He.ba (He.ba c.more).2).2).1
  obtain ⟨x1, x2⟩ := He.ba hx
  obtain ⟨x3, x4⟩ := He.ba x2
  obtain ⟨fd, F⟩ := c.t.d.def_ 13 (d := dOf 27 "_law_refused") rfl
  obtain ⟨⟨oc, od, dV, kV, doc, pm, an, cdv, ct, osl, rfl, lk, hcd, hd, hk⟩, kp⟩ := F
  have e : dV = .none := hd.elim (·.2) fun h => absurd rfl h.1
  subst e
  exact ⟨_, _, "call", "e", _, _, _, _, _, _, _, _, _, _, _, _, _, _, oc, kV, doc, pm, cdv, ct, an, od, osl, He.glo_ok X G (c.t.d.fact 13 (f := .glo "_law_refused") rfl), kp, lk, hcd, .all (fun us hl => match us, hl with | [_], _ => rfl), ⟨rfl, rfl, rfl, by decide +kernel, rfl, by decide +kernel, by decide +kernel⟩, .inl (by rfl), rfl, He.glo_ok X G (c.t.d.fact 21 (f := .glo "BadArgument") rfl), by decide, by decide, rfl, xfB_ok x1, He.eqO_ok x3, by decide, by decide, by decide, by decide, of_decide_eq_true x4⟩
theorem rm__law_met (X : K.In h) (G : h.Ns mainGlobals mg) (c : Sy w h K) : MetD P0 w K mg "_law_met" "BadText" "place" "read" "bad" := by
  have hx : refB "BadText" "place" K = true := (He.ba (He.ba (He.ba (He.ba c.more).2).2).2).1
  obtain ⟨x1, x2⟩ := He.ba hx
  obtain ⟨x3, x4⟩ := He.ba x2
  obtain ⟨fd, F⟩ := c.t.d.def_ 14 (d := dOf 28 "_law_met") rfl
  obtain ⟨⟨oc, od, dV, kV, doc, pm, an, cdv, ct, osl, rfl, lk, hcd, hd, hk⟩, kp⟩ := F
  have e : dV = .none := hd.elim (·.2) fun h => absurd rfl h.1
  subst e
  exact ⟨_, _, "call", "e", _, _, _, _, _, _, _, _, _, _, _, _, _, _, _, _, _, _, _, oc, kV, doc, pm, cdv, ct, an, od, osl, He.glo_ok X G (c.t.d.fact 14 (f := .glo "_law_met") rfl), kp, lk, hcd, .all (fun us hl => match us, hl with | [_], _ => rfl), ⟨rfl, rfl, rfl, by decide +kernel, rfl, by decide +kernel, by decide +kernel⟩, .inl (by rfl), rfl, He.glo_ok X G (c.t.d.fact 22 (f := .glo "BadText") rfl), by decide, by decide, rfl, xfB_ok x1, He.eqO_ok x3, by decide, by decide, by decide, by decide, of_decide_eq_true x4⟩
theorem law_ok (X : K.In h) (G : h.Ns mainGlobals mg) (c : Sy w h K) (q : (qs.map fun d => qObs K d.cls) = qs.map DefQ.val) (Gb : base.Ns mainGlobals mg) (TB : ∀ p ∈ tf, LamX.TabB base mg (He.cT K p).1 (He.cT K p).2) :
    CalG P0 w K mg base (tbs K tf) CX0 11 "law" s_law ["script"] m_law := by
  have B : Bi mg := bi X G c
  have rz_BadArgument : RaiseC P0 w K mg base "BadArgument" "name" := rz_BadArgument X G c q
  have rz_BadText : RaiseC P0 w K mg base "BadText" "place" := rz_BadText X G c q
  have rf__law_refused := rf__law_refused X G c
  have rm__law_met := rm__law_met X G c
  have k_FIGURES : ∃ t, mg "FIGURES" = some (.str "0123456789" t) := He.str_ok X G (c.t.d.fact 47 (f := .str "FIGURES" "0123456789") rfl)
  have k_MOST_BLOCKS : ∃ t, mg "MOST_BLOCKS" = some (.int 500 t) := He.int_ok X G (c.t.d.fact 42 (f := .int "MOST_BLOCKS" 500) rfl)
  have k_MOST_SIGNS : ∃ t, mg "MOST_SIGNS" = some (.int 10000 t) := He.int_ok X G (c.t.d.fact 43 (f := .int "MOST_SIGNS" 10000) rfl)
  have k_MOST : ∃ t, mg "MOST" = some (.int 500 t) := He.int_ok X G (c.t.d.fact 44 (f := .int "MOST" 500) rfl)
  have k_MOST_ROW : ∃ t, mg "MOST_ROW" = some (.int 1001 t) := He.int_ok X G (c.t.d.fact 45 (f := .int "MOST_ROW" 1001) rfl)
  have k_MOST_ORDER : ∃ t, mg "MOST_ORDER" = some (.int 3001 t) := He.int_ok X G (c.t.d.fact 46 (f := .int "MOST_ORDER" 3001) rfl)
  obtain ⟨fd_is_in, F_is_in⟩ := c.t.d.def_ 0 (d := dOf 5 "is_in") rfl
  have c_is_in := ok_is_in (P := P0) (w := w) (K := K) (mg := mg) (base := base) (T := tbs K tf) (fun_of F_is_in) (He.glo_ok X G (c.t.d.fact 0 (f := .glo "is_in") rfl)) B
  obtain ⟨fd_are_in, F_are_in⟩ := c.t.d.def_ 1 (d := dOf 6 "are_in") rfl
  have c_are_in := ok_are_in (P := P0) (w := w) (K := K) (mg := mg) (base := base) (T := tbs K tf) (fun_of F_are_in) (He.glo_ok X G (c.t.d.fact 1 (f := .glo "are_in") rfl)) B c_is_in
  obtain ⟨fd_demand, F_demand⟩ := c.t.d.def_ 2 (d := dOf 7 "demand") rfl
  have c_demand := ok_demand (P := P0) (w := w) (K := K) (mg := mg) (base := base) (T := tbs K tf) (fun_of F_demand) (He.glo_ok X G (c.t.d.fact 2 (f := .glo "demand") rfl)) B rz_BadArgument
  obtain ⟨fd_are_blocks, F_are_blocks⟩ := c.t.d.def_ 3 (d := dOf 12 "are_blocks") rfl
  have c_are_blocks := ok_are_blocks (P := P0) (w := w) (K := K) (mg := mg) (base := base) (T := tbs K tf) (fun_of F_are_blocks) (He.glo_ok X G (c.t.d.fact 3 (f := .glo "are_blocks") rfl)) B k_MOST_BLOCKS c_are_in
  obtain ⟨fd__law_dice, F__law_dice⟩ := c.t.d.def_ 10 (d := dOf 24 "_law_dice") rfl
  have c__law_dice := ok__law_dice (P := P0) (w := w) (K := K) (mg := mg) (base := base) (T := tbs K tf) (fun_of F__law_dice) (He.glo_ok X G (c.t.d.fact 10 (f := .glo "_law_dice") rfl)) B
  obtain ⟨fd__law_roll, F__law_roll⟩ := c.t.d.def_ 11 (d := dOf 25 "_law_roll") rfl
  have c__law_roll := ok__law_roll (P := P0) (w := w) (K := K) (mg := mg) (base := base) (T := tbs K tf) (fun_of F__law_roll) (He.glo_ok X G (c.t.d.fact 11 (f := .glo "_law_roll") rfl)) B
  obtain ⟨fd__law_pick, F__law_pick⟩ := c.t.d.def_ 12 (d := dOf 26 "_law_pick") rfl
  have c__law_pick := ok__law_pick (P := P0) (w := w) (K := K) (mg := mg) (base := base) (T := tbs K tf) (fun_of F__law_pick) (He.glo_ok X G (c.t.d.fact 12 (f := .glo "_law_pick") rfl)) B c__law_roll
  obtain ⟨fd_parts_of, F_parts_of⟩ := c.t.d.def_ 4 (d := dOf 17 "parts_of") rfl
  have c_parts_of := ok_parts_of (P := P0) (w := w) (K := K) (mg := mg) (base := base) (T := tbs K tf) (fun_of F_parts_of) (He.glo_ok X G (c.t.d.fact 4 (f := .glo "parts_of") rfl)) B k_MOST_SIGNS rz_BadText
  obtain ⟨fd_integer_of, F_integer_of⟩ := c.t.d.def_ 5 (d := dOf 18 "integer_of") rfl
  have c_integer_of := ok_integer_of (P := P0) (w := w) (K := K) (mg := mg) (base := base) (T := tbs K tf) (fun_of F_integer_of) (He.glo_ok X G (c.t.d.fact 5 (f := .glo "integer_of") rfl)) B k_FIGURES
  obtain ⟨fd__law_number, F__law_number⟩ := c.t.d.def_ 15 (d := dOf 29 "_law_number") rfl
  have c__law_number := ok__law_number (P := P0) (w := w) (K := K) (mg := mg) (base := base) (T := tbs K tf) (fun_of F__law_number) (He.glo_ok X G (c.t.d.fact 15 (f := .glo "_law_number") rfl)) B
  obtain ⟨fd_write_row, F_write_row⟩ := c.t.d.def_ 6 (d := dOf 19 "write_row") rfl
  have c_write_row := ok_write_row (P := P0) (w := w) (K := K) (mg := mg) (base := base) (T := tbs K tf) (fun_of F_write_row) (He.glo_ok X G (c.t.d.fact 6 (f := .glo "write_row") rfl)) B k_MOST k_MOST_ROW c_demand c_are_in
  obtain ⟨fd_write_blocks, F_write_blocks⟩ := c.t.d.def_ 8 (d := dOf 21 "write_blocks") rfl
  have c_write_blocks := ok_write_blocks (P := P0) (w := w) (K := K) (mg := mg) (base := base) (T := tbs K tf) (fun_of F_write_blocks) (He.glo_ok X G (c.t.d.fact 8 (f := .glo "write_blocks") rfl)) B k_MOST_ORDER c_demand c_are_blocks
  obtain ⟨fd_read_row, F_read_row⟩ := c.t.d.def_ 7 (d := dOf 20 "read_row") rfl
  have c_read_row := ok_read_row (P := P0) (w := w) (K := K) (mg := mg) (base := base) (T := tbs K tf) (fun_of F_read_row) (He.glo_ok X G (c.t.d.fact 7 (f := .glo "read_row") rfl)) B k_MOST k_MOST_ROW c_parts_of c_integer_of rz_BadText
  obtain ⟨fd_read_blocks, F_read_blocks⟩ := c.t.d.def_ 9 (d := dOf 22 "read_blocks") rfl
  have c_read_blocks := ok_read_blocks (P := P0) (w := w) (K := K) (mg := mg) (base := base) (T := tbs K tf) (fun_of F_read_blocks) (He.glo_ok X G (c.t.d.fact 9 (f := .glo "read_blocks") rfl)) B k_MOST_BLOCKS k_MOST_ORDER c_parts_of c_integer_of c_are_in rz_BadText
  obtain ⟨fd__law_row_due, F__law_row_due⟩ := c.t.d.def_ 16 (d := dOf 30 "_law_row_due") rfl
  have c__law_row_due := ok__law_row_due (P := P0) (w := w) (K := K) (mg := mg) (base := base) (T := tbs K tf) (fun_of F__law_row_due) (He.glo_ok X G (c.t.d.fact 16 (f := .glo "_law_row_due") rfl)) B c__law_number
  obtain ⟨fd__law_blocks_due, F__law_blocks_due⟩ := c.t.d.def_ 17 (d := dOf 31 "_law_blocks_due") rfl
  have c__law_blocks_due := ok__law_blocks_due (P := P0) (w := w) (K := K) (mg := mg) (base := base) (T := tbs K tf) (fun_of F__law_blocks_due) (He.glo_ok X G (c.t.d.fact 17 (f := .glo "_law_blocks_due") rfl)) B c__law_number
  obtain ⟨fd__law_bent, F__law_bent⟩ := c.t.d.def_ 18 (d := dOf 32 "_law_bent") rfl
  have c__law_bent := ok__law_bent (P := P0) (w := w) (K := K) (mg := mg) (base := base) (T := tbs K tf) (fun_of F__law_bent) (He.glo_ok X G (c.t.d.fact 18 (f := .glo "_law_bent") rfl)) B c__law_pick c__law_roll
  obtain ⟨fd__law_right, F__law_right⟩ := c.t.d.def_ 19 (d := dOf 33 "_law_right") rfl
  have HT__law_right : ((He.cT K ("_law_right", none)).2, (("_law_right" : Str) ++ ".<locals>.") ++ "<lambda>") ∈ tbs K tf := List.mem_map.mpr ⟨("_law_right", none), by decide, rfl⟩
  have NE__law_right : (He.cT K ("_law_right", none)).2 ≠ (He.cT K ("law", none)).2 := fun z => of_decide_eq_true (show decide ((He.cT K ("_law_right", none)).2 ≠ (He.cT K ("law", none)).2) = true from (He.ba (He.ba (He.ba (He.ba c.more).2).2).2).2) z
  have HU__law_right : ∀ p ∈ tbs K tf, p.1 = (He.cT K ("_law_right", none)).2 → p.2 = (("_law_right" : Str) ++ ".<locals>.") ++ "<lambda>" := fun p hp hq => by
    obtain ⟨z, hz, e⟩ := List.mem_map.mp hp
    rcases List.mem_cons.mp hz with hz | hz
    · rw [hz] at e
      rw [← e]
    · rw [List.mem_singleton.mp hz] at e
      rw [← e] at hq
      exact absurd hq.symm NE__law_right
  have c__law_right := ok__law_right (P := P0) (w := w) (K := K) (mg := mg) (base := base) (T := tbs K tf) (funL_of F__law_right (TB ("_law_right", none) (by decide)) HT__law_right HU__law_right) (He.glo_ok X G (c.t.d.fact 19 (f := .glo "_law_right") rfl)) B c__law_roll c__law_pick c_write_blocks c_write_row c_read_row c_read_blocks c__law_bent c__law_row_due c__law_blocks_due rf__law_refused rm__law_met
  obtain ⟨fd_law, F_law⟩ := c.t.d.def_ 20 (d := dOf 34 "law") rfl
  have HT_law : ((He.cT K ("law", none)).2, (("law" : Str) ++ ".<locals>.") ++ "<lambda>") ∈ tbs K tf := List.mem_map.mpr ⟨("law", none), by decide, rfl⟩
  have NE_law : (He.cT K ("law", none)).2 ≠ (He.cT K ("_law_right", none)).2 := fun z => of_decide_eq_true (show decide ((He.cT K ("_law_right", none)).2 ≠ (He.cT K ("law", none)).2) = true from (He.ba (He.ba (He.ba (He.ba c.more).2).2).2).2) z.symm
  have HU_law : ∀ p ∈ tbs K tf, p.1 = (He.cT K ("law", none)).2 → p.2 = (("law" : Str) ++ ".<locals>.") ++ "<lambda>" := fun p hp hq => by
    obtain ⟨z, hz, e⟩ := List.mem_map.mp hp
    rcases List.mem_cons.mp hz with hz | hz
    · rw [hz] at e
      rw [← e] at hq
      exact absurd hq.symm NE_law
    · rw [List.mem_singleton.mp hz] at e
      rw [← e]
  exact ok_law (P := P0) (w := w) (K := K) (mg := mg) (base := base) (T := tbs K tf) (funL_of F_law (TB ("law", none) (by decide)) HT_law HU_law) (He.glo_ok X G (c.t.d.fact 20 (f := .glo "law") rfl)) B c__law_right c__law_dice c_read_blocks c_read_row rm__law_met
end
end K5.E
open PySem PySem.W PySem.Calls PyProof.Rows
theorem PySem.Challenge.cw_pairrows_k05_whole_texts_holds : PySem.Challenge.rw_pairrows_k05_whole_texts.Holds := by
  w_on; o_law
  refine HandSHeadRun.head_any (r := OpenLaw.row PySem.Challenge.rw_pairrows_k05_whole_texts) (q := view (OpenLaw.row PySem.Challenge.rw_pairrows_k05_whole_texts).prog [34]) (H := K5.E.hk) (ob := K5.E.ob) (M := 4000) (loose := K5.E.loose) (d := HandSHeadRun.topDef (OpenLaw.row PySem.Challenge.rw_pairrows_k05_whole_texts).prog 34) (kwd := []) K5.E.ob_eq
    (by kernel_rfl) (fun s => by kernel_rfl) K5.E.run (by kernel_rfl) (by kernel_rfl) (by kernel_rfl) (by rfl) (by first | assumption | decide +kernel) (by decide +kernel) ⟨rfl, rfl, rfl, rfl, rfl, by decide +kernel⟩ ?hw ?hc
  case hw => w_witness2
  case hc =>
    refine DL.walk_ofG (l := PySem.Challenge.rw_pairrows_k05_whole_texts) (n := 63) (k := 11) (x := "script") (CX := fun _ => L2.CX0) rfl (by decide) (by kernel_rfl) ⟨rfl, by decide, by decide⟩ ?F (fun _ _ _ _ _ z => z)
    intro w mg fa h Y G hmg0
    obtain ⟨K, KX, c, q⟩ := Y
    have hmg : mg ("law" : PySem.Str) = some (.ref fa) := by
      have e : (HandSHeadRun.topDef (OpenLaw.row PySem.Challenge.rw_pairrows_k05_whole_texts).prog 34).name = ("law" : PySem.Str) := by kernel_rfl
      rw [← e]
      exact hmg0
    have e := hmg.symm.trans (He.glo_ok KX G (c.t.d.fact 20 (f := .glo "law") rfl))
    cases e
    obtain ⟨fd, F⟩ := c.t.d.def_ 20 (d := K5.E.dOf 34 "law") rfl
    have b := L2.FunD.bindsA (ps := ["script"]) F fun _ _ _ _ _ _ us hl => match us, hl with | [_], _ => rfl
    exact ⟨K, KX, DL.law_atG (N0 := 10000) (m := K5.m_law) (st := K5.s_law) KX c hmg (DL.fun_of F) (fun s v => b s [v] rfl) (fun ns hl hb => K5.law_m ns hl hb) fun base KB hg TB => K5.E.law_ok KX G c q hg TB⟩
