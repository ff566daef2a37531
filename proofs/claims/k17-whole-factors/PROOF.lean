import PyProof.Rows.All
import Wide.All
import OpenK.AllK
import Wide.FinOn
import HandS.ForMost
import HandS.Exc
import HandS.ExcOwn
import HandS.WordsExc
import HandS.Defaults
import HandS.Lambda
import HandS.Star
import HandS.IsInst
import HandS.Style
import HandS.Rev
import HandS.Wide
import HandS.Zip
import PySem.Challenge.RW_fieldmaps_k17_whole_factors_by_witness
import KE.KStateDown
import KE.KNestM
import HandS.Head0
import HandS.Head1
import HandS.Head2
import HandS.HeadEnd
import HandS.HeadHook1
import HandS.HeadHook2
import KE.GoesEnum
import KE.GoesMore
import HandS.OwnEq
import HandS.More
import HandS.IterVal
import HandS.GenOver
import HandS.GenList
import KE.SortKeyHeap
import HandS.TryOnly
import HandS.Deep
import HandS.EndTab
set_option Elab.async false
set_option linter.all false
set_option maxRecDepth 100000
set_option maxHeartbeats 0
set_option autoImplicit false
namespace FM
open PySem PySem.Spec PyProof.Rows L2 LamX
/-! ## The layer: data by value -/
structure FldD where
  p : Int
  n : Int
  q : Int
  m : List Int
/-- data -/
inductive D where
  | non
  | bl (b : Bool)
  | int (i : Int)
  | tup (xs : List D)
  | lst (xs : List D)
  | fld (F : FldD)
  | pol (F : FldD) (row : List (List Int))
  /-- an object that is known by its place -/
  | adr (a : Addr)
  /-- a list that stays as it is: whole numbers -/
  | scr (xs : List Int)
def tI (xs : List Int) : D := .tup (xs.map .int)
def tII (rows : List (List Int)) : D := .tup (rows.map tI)
/-- the classes' places, the tables of code objects that lambdas use -/
structure Lc where
  CF : Addr
  CP : Addr
  T : List (Addr × Str)
mutual
inductive Is (L : Lc) (G : Hp) : D → V → Prop
  | non : Is L G .non .non
  | bl (b : Bool) : Is L G (.bl b) (.bl b)
  | int (i : Int) : Is L G (.int i) (.int i)
  | tup {a : Addr} {xs : List D} {vs : List V} (e : G a = some (.tup vs)) (r : IsL L G xs vs) : Is L G (.tup xs) (.ref a)
  | lst {a : Addr} {xs : List D} {vs : List V} (e : G a = some (.lst vs)) (r : IsL L G xs vs) : Is L G (.lst xs) (.ref a)
  | fld {a dx am : Addr} {F : FldD} (e : G a = some (.ins L.CF dx [("modulus", .ref am), ("p", .int F.p), ("n", .int F.n), ("q", .int F.q)])) (em : G am = some (.tup (F.m.map V.int))) : Is L G (.fld F) (.ref a)
  | pol {a dx : Addr} {F : FldD} {row : List (List Int)} {vf vr : V} (e : G a = some (.ins L.CP dx [("field", vf), ("row", vr)])) (hf : Is L G (.fld F) vf) (hr : Is L G (tII row) vr) : Is L G (.pol F row) (.ref a)
  | adr (a : Addr) : Is L G (.adr a) (.ref a)
  | scr {a : Addr} {o : Obj} {xs : List Int} (e : G a = some (.frz o (.lst (xs.map V.int)))) : Is L G (.scr xs) (.ref a)
inductive IsL (L : Lc) (G : Hp) : List D → List V → Prop
  | nil : IsL L G [] []
  | cons {d : D} {v : V} {ds : List D} {vs : List V} (h : Is L G d v) (r : IsL L G ds vs) : IsL L G (d :: ds) (v :: vs)
end
abbrev Sub (G G' : Hp) : Prop := ∀ a o, G a = some o → G' a = some o
section
variable {L : Lc} {G G' : Hp}
mutual
theorem Is.mono (h : Sub G G') : ∀ {d : D} {v : V}, Is L G d v → Is L G' d v
  | _, _, .non => .non
  | _, _, .bl b => .bl b
  | _, _, .int i => .int i
  | _, _, .tup e r => .tup (h _ _ e) (IsL.mono h r)
  | _, _, .lst e r => .lst (h _ _ e) (IsL.mono h r)
  | _, _, .fld e em => .fld (h _ _ e) (h _ _ em)
  | _, _, .pol e hf hr => .pol (h _ _ e) (Is.mono h hf) (Is.mono h hr)
  | _, _, .adr a => .adr a
  | _, _, .scr e => .scr (h _ _ e)
theorem IsL.mono (h : Sub G G') : ∀ {ds : List D} {vs : List V}, IsL L G ds vs → IsL L G' ds vs
  | _, _, .nil => .nil
  | _, _, .cons a r => .cons (Is.mono h a) (IsL.mono h r)
end
theorem IsL.length : ∀ {ds : List D} {vs : List V}, IsL L G ds vs → ds.length = vs.length
  | _, _, .nil => rfl
  | _, _, .cons _ r => congrArg Nat.succ r.length
theorem IsL.get : ∀ {ds : List D} {vs : List V} {i : Nat} {d : D}, IsL L G ds vs → ds[i]? = some d → ∃ v, vs[i]? = some v ∧ Is L G d v
  | _, _, 0, _, .cons a _, e => by simp at e; subst e; exact ⟨_, rfl, a⟩
  | _, _, i + 1, d, .cons _ r, e => by
    obtain ⟨v, h1, h2⟩ := IsL.get (i := i) (d := d) r (by simpa using e)
    exact ⟨v, by simpa using h1, h2⟩
  | _, _, 0, _, .nil, e => by simp at e
  | _, _, _ + 1, _, .nil, e => by simp at e
theorem IsL.getV : ∀ {ds : List D} {vs : List V} {i : Nat} {v : V}, IsL L G ds vs → vs[i]? = some v → ∃ d, ds[i]? = some d ∧ Is L G d v
  | _, _, 0, _, .cons a _, e => by simp at e; subst e; exact ⟨_, rfl, a⟩
  | _, _, i + 1, d, .cons _ r, e => by
    obtain ⟨v, h1, h2⟩ := IsL.getV (i := i) (v := d) r (by simpa using e)
    exact ⟨v, by simpa using h1, h2⟩
  | _, _, 0, _, .nil, e => by simp at e
  | _, _, _ + 1, _, .nil, e => by simp at e
theorem IsL.append : ∀ {ds es : List D} {vs ws : List V}, IsL L G ds vs → IsL L G es ws → IsL L G (ds ++ es) (vs ++ ws)
  | _, _, _, _, .nil, s => s
  | _, _, _, _, .cons a r, s => .cons a (r.append s)
theorem IsL.take : ∀ {ds : List D} {vs : List V} (n : Nat), IsL L G ds vs → IsL L G (ds.take n) (vs.take n)
  | _, _, 0, _ => .nil
  | _, _, _ + 1, .nil => .nil
  | _, _, n + 1, .cons a r => .cons a (r.take n)
theorem IsL.drop : ∀ {ds : List D} {vs : List V} (n : Nat), IsL L G ds vs → IsL L G (ds.drop n) (vs.drop n)
  | _, _, 0, r => r
  | _, _, _ + 1, .nil => .nil
  | _, _, n + 1, .cons _ r => r.drop n
theorem IsL.set {d : D} {v : V} (h : Is L G d v) : ∀ {ds : List D} {vs : List V} (i : Nat), IsL L G ds vs → IsL L G (ds.set i d) (vs.set i v)
  | _, _, _, .nil => .nil
  | _, _, 0, .cons _ r => .cons h r
  | _, _, i + 1, .cons a r => .cons a (IsL.set h i r)
theorem IsL.reverse : ∀ {ds : List D} {vs : List V}, IsL L G ds vs → IsL L G ds.reverse vs.reverse
  | _, _, .nil => .nil
  | _, _, .cons a r => by
    rw [List.reverse_cons, List.reverse_cons]
    exact r.reverse.append (.cons a .nil)
theorem IsL.dropLast : ∀ {ds : List D} {vs : List V}, IsL L G ds vs → IsL L G ds.dropLast vs.dropLast
  | _, _, .nil => .nil
  | _, _, .cons _ .nil => .nil
  | _, _, .cons a (.cons b r) => .cons a (IsL.dropLast (.cons b r))
theorem IsL.ints : ∀ {ns : List Int} {vs : List V}, IsL L G (ns.map .int) vs → vs = ns.map V.int
  | [], _, .nil => rfl
  | n :: ns, _, .cons a r => by
    cases a
    rw [IsL.ints r]
    rfl
theorem isL_ints : ∀ (ns : List Int), IsL L G (ns.map .int) (ns.map V.int)
  | [] => .nil
  | n :: ns => .cons (.int n) (isL_ints ns)
theorem IsL.replicate {d : D} {v : V} (h : Is L G d v) : ∀ n : Nat, IsL L G (List.replicate n d) (List.replicate n v)
  | 0 => .nil
  | n + 1 => .cons h (IsL.replicate h n)
end

/-- no table is told -/
def NoT (G : Hp) : Prop := ∀ a ps, G a ≠ some (.tbl ps)
theorem NoT.upd {G : Hp} (n : NoT G) {l : Addr} {o : HO} (ho : ∀ ps, o ≠ .tbl ps) : NoT (upd G l o) := fun a ps e => by
  by_cases q : a = l
  · subst q
    rw [upd_same] at e
    exact ho ps (Option.some.inj e)
  · rw [upd_ne q] at e
    exact n a ps e
/-- the heap grows: G (what is told as data) and H (all that is tracked) -/
structure Grow (L : Lc) (G H G' H' : Hp) : Prop where
  gg : Sub G G'
  hh : ExtN H H'
  gh : Sub G' H'
  fr : ∀ a, G a = none → H a ≠ none → G' a = none
  tb : Tabs L.T H → Tabs L.T H'
  nt : NoT G → NoT G'
  tt : ∀ x ps, H x = some (.tbl ps) → ∃ ps', H' x = some (.tbl ps')
section
variable {L : Lc} {G H G' H' G1 H1 G2 H2 : Hp}
theorem Grow.refl (s : Sub G H) : Grow L G H G H := ⟨fun _ _ h => h, fun _ _ h _ => h, s, fun _ h _ => h, fun t => t, fun n => n, fun _ ps h => ⟨ps, h⟩⟩
theorem Grow.ne (a : Grow L G H G1 H1) {x : Addr} (h : H x ≠ none) : H1 x ≠ none := by
  cases e : H x with
  | none => exact absurd e h
  | some o =>
    by_cases ho : ∃ ps, o = .tbl ps
    · obtain ⟨ps, rfl⟩ := ho
      obtain ⟨ps', q⟩ := a.tt x ps e
      rw [q]
      exact fun z => by cases z
    · rw [a.hh x o e fun ps z => ho ⟨ps, z⟩]
      exact fun z => by cases z
theorem Grow.trans (a : Grow L G H G1 H1) (b : Grow L G1 H1 G2 H2) : Grow L G H G2 H2 where
  gg := fun x o h => b.gg x o (a.gg x o h)
  hh := a.hh.trans b.hh
  gh := b.gh
  fr := fun x h1 h2 => b.fr x (a.fr x h1 h2) (a.ne h2)
  tb := fun t => b.tb (a.tb t)
  nt := fun n => b.nt (a.nt n)
  tt := fun x ps h => by
    obtain ⟨p1, h1⟩ := a.tt x ps h
    exact b.tt x p1 h1
theorem upd_sub {H : Hp} {p : Addr} {o : HO} (h : H p = none) : Sub H (upd H p o) := fun a u e => by rw [upd_ne (ne_of_none e h)]; exact e
theorem sub_none (s : Sub G H) {p : Addr} (h : H p = none) : G p = none := by
  cases e : G p with
  | none => rfl
  | some o => rw [s _ _ e] at h; cases h
/-- a new object, told as data -/
theorem Grow.new (s : Sub G H) {p : Addr} {o : HO} (h : H p = none) (ho : ∀ ps, o ≠ .tbl ps := by intro _ z; cases z) : Grow L G H (upd G p o) (upd H p o) where
  gg := upd_sub (sub_none s h)
  hh := fun a u e _ => upd_sub h a u e
  gh := fun a u e => by
    by_cases q : a = p
    · subst q; rw [upd_same] at e ⊢; exact e
    · rw [upd_ne q] at e ⊢; exact s _ _ e
  fr := fun a h1 h2 => by
    by_cases q : a = p
    · subst q; exact absurd h h2
    · rw [upd_ne q]; exact h1
  tb := fun t => t.ext (upd_sub h)
  nt := fun n => n.upd ho
  tt := fun x ps e => ⟨ps, upd_sub h _ _ e⟩
/-- a new object, not told -/
theorem Grow.more (s : Sub G H) {p : Addr} {o : HO} (h : H p = none) : Grow L G H G (upd H p o) where
  gg := fun _ _ e => e
  hh := fun a u e _ => upd_sub h a u e
  gh := fun a u e => upd_sub h _ _ (s _ _ e)
  fr := fun a h1 h2 => h1
  tb := fun t => t.ext (upd_sub h)
  nt := fun n => n
  tt := fun x ps e => ⟨ps, upd_sub h _ _ e⟩
end
/-- the tables of code objects: tracked, not told -/
structure TbG (L : Lc) (H G : Hp) : Prop where
  t : Tabs L.T H
  n : NoT G
theorem Grow.tg {L : Lc} {G H G' H' : Hp} (g : Grow L G H G' H') (t : TbG L H G) : TbG L H' G' := ⟨g.tb t.t, g.nt t.n⟩
theorem TbG.ext {L : Lc} {H H' G : Hp} (t : TbG L H G) (e : ∀ b o, H b = some o → H' b = some o) : TbG L H' G := ⟨t.t.ext e, t.n⟩
theorem TbG.upd {L : Lc} {H G : Hp} {l : Addr} {o : HO} (t : TbG L H G) (ho : ∀ ps, o ≠ .tbl ps) : TbG L H (L2.upd G l o) := ⟨t.t, t.n.upd ho⟩
/-! ## states by value -/
inductive Sl where
  /-- nothing is said -/
  | any
  | val (d : D)
  /-- a list that the def alone holds, by this name alone -/
  | own (xs : List D)
  /-- an instance in the making -/
  | inst (C : Addr × Addr) (fs : List (Str × D))
abbrev SlS := List Sl
def Owns (S : SlS) (i : Nat) : Prop := ∃ s, S[i]? = some s ∧ ((∃ xs, s = .own xs) ∨ ∃ C fs, s = .inst C fs)
structure RepV (L : Lc) (S : SlS) (σ : L2.St) (H G : Hp) : Prop where
  len : S.length = σ.length
  sub : Sub G H
  tabs : TbG L H G
  val : ∀ (i : Nat) (d : D), S[i]? = some (.val d) → ∃ v, σ[i]? = some (some v) ∧ Is L G d v
  own : ∀ (i : Nat) (xs : List D), S[i]? = some (.own xs) → ∃ l vs, σ[i]? = some (some (.ref l)) ∧ H l = some (.lst vs) ∧ G l = none ∧ IsL L G xs vs
  inst : ∀ (i : Nat) (C : Addr × Addr) (fs : List (Str × D)), S[i]? = some (.inst C fs) → ∃ l dx vs, σ[i]? = some (some (.ref l)) ∧ H l = some (.ins C.2 dx vs) ∧ G l = none ∧ IsL L G (fs.map (·.2)) (vs.map (·.2)) ∧ vs.map (·.1) = fs.map (·.1) ∧ l = C.1
  dist : ∀ (i j : Nat) (l : Addr), Owns S i → Owns S j → σ[i]? = some (some (.ref l)) → σ[j]? = some (some (.ref l)) → i = j
section
variable {L : Lc} {S : SlS} {σ : L2.St} {G H G' H' : Hp}
theorem RepV.grow (R : RepV L S σ H G) (g : Grow L G H G' H') : RepV L S σ H' G' where
  len := R.len
  sub := g.gh
  tabs := g.tg R.tabs
  val := fun i d e => by
    obtain ⟨v, h1, h2⟩ := R.val i d e
    exact ⟨v, h1, h2.mono g.gg⟩
  own := fun i xs e => by
    obtain ⟨l, vs, h1, h2, h3, h4⟩ := R.own i xs e
    exact ⟨l, vs, h1, g.hh _ _ h2 (fun _ z => by cases z), g.fr l h3 (by rw [h2]; exact fun z => by cases z), h4.mono g.gg⟩
  inst := fun i C fs e => by
    obtain ⟨l, dx, vs, h1, h2, h3, h4, h5⟩ := R.inst i C fs e
    exact ⟨l, dx, vs, h1, g.hh _ _ h2 (fun _ z => by cases z), g.fr l h3 (by rw [h2]; exact fun z => by cases z), h4.mono g.gg, h5⟩
  dist := R.dist
end
/-- an expression's value -/
def TD (L : Lc) (S : SlS) (d : D) : TE := fun σ H Q => ∃ G, RepV L S σ H G ∧ ∀ G' H' v, Grow L G H G' H' → Is L G' d v → Q v H'
def EvE (L : Lc) (X : Cx) (e : Expr) (S : SlS) (d : D) : Prop := PE X e (TD L S d)
/-- a test's -/
def TB (L : Lc) (S : SlS) (b : Bool) : TT := fun σ H Q => ∃ G, RepV L S σ H G ∧ ∀ G' H', Grow L G H G' H' → Q b H'
def EvT (L : Lc) (X : Cx) (e : Expr) (S : SlS) (b : Bool) : Prop := PT X e (TB L S b)
/-- an argument list's -/
def TL (L : Lc) (S : SlS) (ds : List D) : TA := fun σ H Q => ∃ G, RepV L S σ H G ∧ ∀ G' H' vs, Grow L G H G' H' → IsL L G' ds vs → Q vs H'
def EvA (L : Lc) (X : Cx) (es : List Expr) (S : SlS) (ds : List D) : Prop := PA X es (TL L S ds)
theorem PE.imp {X : Cx} {e : Expr} {t t' : TE} (h : PE X e t) (k : ∀ σ H Q, t' σ H Q → t σ H Q) : PE X e t' := ⟨fun pins s σ H Q I q => h.run pins s σ H Q I (k σ H Q q)⟩
theorem PT.imp {X : Cx} {e : Expr} {t t' : TT} (h : PT X e t) (k : ∀ σ H Q, t' σ H Q → t σ H Q) : PT X e t' := ⟨fun pins s σ H Q I q => h.run pins s σ H Q I (k σ H Q q)⟩
theorem PA.imp {X : Cx} {e : List Expr} {t t' : TA} (h : PA X e t) (k : ∀ σ H Q, t' σ H Q → t σ H Q) : PA X e t' := ⟨fun pos pins s σ H Q I q => h.run pos pins s σ H Q I (k σ H Q q)⟩
theorem PS.imp {X : Cx} {e : Stmt} {t t' : TS} (h : PS X e t) (k : ∀ D σ H, t' D σ H → t D σ H) : PS X e t' := ⟨fun pins s σ H D I q => h.run pins s σ H D I (k D σ H q)⟩
theorem PSs.imp {X : Cx} {e : List Stmt} {t t' : TS} (h : PSs X e t) (k : ∀ D σ H, t' D σ H → t D σ H) : PSs X e t' := ⟨fun pins s σ H D I q => h.run pins s σ H D I (k D σ H q)⟩
section
variable {L : Lc} {X : Cx} {S : SlS}
/-! ### expressions -/
theorem ev_var (i : Nat) {d : D} {x : Str} {pos : Pos} (hs : S[i]? = some (.val d) := by rfl) (hN : X.N[i]? = some x := by rfl) (hv : Vis X.env.scope x := by first | exact Or.inl rfl | exact Or.inr (Or.inl rfl) | exact Or.inr (Or.inr rfl)) (hd : (x == ("__debug__" : Str)) = false := by decide)
    (hcd : (x == ("__classdict__" : Str)) = false := by decide) : EvE L X (.Name x pos) S d :=
  PE.imp (pe_var hN hv hd hcd) fun σ H Q ⟨G, R, k⟩ => by
    obtain ⟨v, h1, h2⟩ := R.val i d hs
    exact ⟨v, h1, k G H v (.refl R.sub) h2⟩
theorem ev_int {i : Int} {j pos} : EvE L X (.Constant (.int i) j pos) S (.int i) := PE.imp pe_int fun σ H Q ⟨G, R, k⟩ => k G H _ (.refl R.sub) (.int i)
theorem ev_bl {b : Bool} {j pos} : EvE L X (.Constant (.bool b) j pos) S (.bl b) := PE.imp pe_bl fun σ H Q ⟨G, R, k⟩ => k G H _ (.refl R.sub) (.bl b)
theorem ev_non {j pos} : EvE L X (.Constant .none j pos) S .non := PE.imp pe_non fun σ H Q ⟨G, R, k⟩ => k G H _ (.refl R.sub) .non
/-- two expressions, an operator by values -/
theorem ev_op {a b : Expr} {op : Operator} {pos : Pos} {d1 d2 d : D} {r : R2} (ho : OpR X (binaryOp op) r) (ha : EvE L X a S d1) (hb : EvE L X b S d2)
    (k : ∀ (G H : Hp) (v1 v2 : V) (Q : VK), Sub G H → Is L G d1 v1 → Is L G d2 v2 → (∀ G' H' v, Grow L G H G' H' → Is L G' d v → Q v H') → r v1 v2 H Q) : EvE L X (.BinOp a op b pos) S d :=
  PE.imp (pe_op ho ha hb) fun σ H Q ⟨G, R, q⟩ => ⟨G, R, fun G1 H1 v1 g1 i1 => ⟨G1, R.grow g1, fun G2 H2 v2 g2 i2 => k G2 H2 v1 v2 Q g2.gh (i1.mono g2.gg) i2 fun G3 H3 v g3 i3 => q G3 H3 v ((g1.trans g2).trans g3) i3⟩⟩
theorem ev_cmp {a b : Expr} {op : CmpOp} {pos : Pos} {d1 d2 d : D} {r : R2} (ho : OpR X (compareOp op) r) (ha : EvE L X a S d1) (hb : EvE L X b S d2) (hm : behindInMarks op b = false)
    (k : ∀ (G H : Hp) (v1 v2 : V) (Q : VK), Sub G H → Is L G d1 v1 → Is L G d2 v2 → (∀ G' H' v, Grow L G H G' H' → Is L G' d v → Q v H') → r v1 v2 H Q) : EvE L X (.Compare a [op] [b] pos) S d :=
  PE.imp (pe_cmpR ho ha hb hm) fun σ H Q ⟨G, R, q⟩ => ⟨G, R, fun G1 H1 v1 g1 i1 => ⟨G1, R.grow g1, fun G2 H2 v2 g2 i2 => k G2 H2 v1 v2 Q g2.gh (i1.mono g2.gg) i2 fun G3 H3 v g3 i3 => q G3 H3 v ((g1.trans g2).trans g3) i3⟩⟩
end
end FM
set_option autoImplicit false
namespace FM
open PySem PySem.Spec PyProof.Rows L2 LamX
theorem never_ss {X : Cx} (sts : List Stmt) : PSs X sts (fun _ _ _ => False) := ⟨fun _ _ _ _ _ _ h => h.elim⟩
theorem never_e {X : Cx} (e : Expr) : PE X e (fun _ _ _ => False) := ⟨fun _ _ _ _ _ _ h => h.elim⟩
theorem never_w {X : Cx} (e : Expr) : PW X e (fun _ _ _ => False) := ⟨fun _ _ _ _ _ _ _ h => h.elim⟩
theorem PW.imp {X : Cx} {e : Expr} {t t' : TT} (h : PW X e t) (k : ∀ σ H Q, t' σ H Q → t σ H Q) : PW X e t' := ⟨fun wh pins s σ H Q I q => h.run wh pins s σ H Q I (k σ H Q q)⟩
theorem PI.imp {X : Cx} {tg e : Expr} {t t' : TI} (h : PI X tg e t) (k : ∀ σ H Q, t' σ H Q → t σ H Q) : PI X tg e t' := ⟨fun pins s σ H Q I q => h.run pins s σ H Q I (k σ H Q q)⟩
theorem PO.imp {X : Cx} {e : Option Expr} {t t' : TO} (h : PO X e t) (k : ∀ σ H Q, t' σ H Q → t σ H Q) : PO X e t' := ⟨fun pins s σ H Q I q => h.run pins s σ H Q I (k σ H Q q)⟩
theorem small_le {n : Nat} (h : n ≤ 100000) : n ≤ sizeLine := Nat.le_trans h (by decide)
theorem small_lt {n : Nat} (h : n ≤ 100000) : n < sizeLine := Nat.lt_of_le_of_lt h (by decide)
theorem tabs_keep {T : List (Addr × Str)} {H H' : Hp} (t : Tabs T H) (e : ∀ b o, H b = some o → (∀ vs, o ≠ .lst vs) → (∀ C dx fs, o ≠ .ins C dx fs) → H' b = some o) : Tabs T H' := fun p hp => by
  obtain ⟨ps, h1, h2, h3⟩ := t p hp
  refine ⟨ps, e _ _ h1 (fun _ z => by cases z) (fun _ _ _ z => by cases z), h2, fun pos cv hc => ?_⟩
  obtain ⟨c, e1, e2⟩ := h3 pos cv hc
  exact ⟨c, e1, e _ _ e2 (fun _ z => by cases z) (fun _ _ _ z => by cases z)⟩
section
variable {L : Lc} {X : Cx} {S : SlS}
/-! ### numbers -/
theorem is_int {G : Hp} {i : Int} {v : V} (h : Is L G (.int i) v) : v = .int i := by cases h; rfl
theorem is_bl {G : Hp} {i : Bool} {v : V} (h : Is L G (.bl i) v) : v = .bl i := by cases h; rfl
section
variable {a b : Expr} {pos : Pos} {i j : Int}
theorem ev_add (ha : EvE L X a S (.int i)) (hb : EvE L X b S (.int j)) : EvE L X (.BinOp a .Add b pos) S (.int (i + j)) :=
  ev_op op_add ha hb fun G H v1 v2 Q s h1 h2 q => ⟨i, j, is_int h1, is_int h2, q G H _ (.refl s) (.int _)⟩
theorem ev_sub (ha : EvE L X a S (.int i)) (hb : EvE L X b S (.int j)) : EvE L X (.BinOp a .Sub b pos) S (.int (i - j)) :=
  ev_op op_sub ha hb fun G H v1 v2 Q s h1 h2 q => ⟨i, j, is_int h1, is_int h2, q G H _ (.refl s) (.int _)⟩
theorem ev_mul (ha : EvE L X a S (.int i)) (hb : EvE L X b S (.int j)) (hc : CMul i j) : EvE L X (.BinOp a .Mult b pos) S (.int (i * j)) :=
  ev_op op_mul ha hb fun G H v1 v2 Q s h1 h2 q => ⟨i, j, is_int h1, is_int h2, hc, q G H _ (.refl s) (.int _)⟩
theorem ev_mulW (ha : EvE L X a S (.int i)) (hb : EvE L X b S (.int j)) (hc : CMulW i j) : EvE L X (.BinOp a .Mult b pos) S (.int (i * j)) :=
  ev_op op_mulW ha hb fun G H v1 v2 Q s h1 h2 q => ⟨i, j, is_int h1, is_int h2, hc, q G H _ (.refl s) (.int _)⟩
theorem ev_mod (ha : EvE L X a S (.int i)) (hb : EvE L X b S (.int j)) (hc : 0 < j) : EvE L X (.BinOp a .Mod b pos) S (.int (i % j)) :=
  ev_op op_mod ha hb fun G H v1 v2 Q s h1 h2 q => ⟨i, j, is_int h1, is_int h2, hc, q G H _ (.refl s) (.int _)⟩
theorem ev_fdiv (ha : EvE L X a S (.int i)) (hb : EvE L X b S (.int j)) (hc : CDiv i j) : EvE L X (.BinOp a .FloorDiv b pos) S (.int (i / j)) :=
  ev_op op_fdiv ha hb fun G H v1 v2 Q s h1 h2 q => ⟨i, j, is_int h1, is_int h2, hc, q G H _ (.refl s) (.int _)⟩
theorem ev_fdivW (ha : EvE L X a S (.int i)) (hb : EvE L X b S (.int j)) (hc : CDivW i j) : EvE L X (.BinOp a .FloorDiv b pos) S (.int (i / j)) :=
  ev_op op_fdivW ha hb fun G H v1 v2 Q s h1 h2 q => ⟨i, j, is_int h1, is_int h2, hc, q G H _ (.refl s) (.int _)⟩
theorem ev_pow (ha : EvE L X a S (.int i)) (hb : EvE L X b S (.int j)) (hc : CPow i j) : EvE L X (.BinOp a .Pow b pos) S (.int (i ^ j.toNat)) :=
  ev_op op_pow ha hb fun G H v1 v2 Q s h1 h2 q => ⟨i, j, is_int h1, is_int h2, hc, q G H _ (.refl s) (.int _)⟩
theorem ev_neg (ha : EvE L X a S (.int i)) : EvE L X (.UnaryOp .USub a pos) S (.int (-i)) :=
  PE.imp (pe_un un_neg ha) fun σ H Q ⟨G, R, q⟩ => ⟨G, R, fun G1 H1 v g1 i1 => ⟨i, is_int i1, q G1 H1 _ g1 (.int _)⟩⟩
theorem ev_lt (ha : EvE L X a S (.int i)) (hb : EvE L X b S (.int j)) : EvE L X (.Compare a [.Lt] [b] pos) S (.bl (decide (i < j))) :=
  ev_cmp op_lt ha hb (nomark _) fun G H v1 v2 Q s h1 h2 q => ⟨i, j, is_int h1, is_int h2, q G H _ (.refl s) (.bl _)⟩
theorem ev_gt (ha : EvE L X a S (.int i)) (hb : EvE L X b S (.int j)) : EvE L X (.Compare a [.Gt] [b] pos) S (.bl (decide (j < i))) :=
  ev_cmp op_gt ha hb (nomark _) fun G H v1 v2 Q s h1 h2 q => ⟨i, j, is_int h1, is_int h2, q G H _ (.refl s) (.bl _)⟩
theorem dec_int : decide (V.int i = V.int j) = decide (i = j) := by
  by_cases h : i = j
  · rw [decide_eq_true h, decide_eq_true (by rw [h])]
  · rw [decide_eq_false h, decide_eq_false (fun z => h (V.int.inj z))]
theorem ev_eqI (ha : EvE L X a S (.int i)) (hb : EvE L X b S (.int j)) : EvE L X (.Compare a [.Eq] [b] pos) S (.bl (decide (i = j))) :=
  ev_cmp op_eq ha hb (nomark _) fun G H v1 v2 Q s h1 h2 q => by
    rw [is_int h1, is_int h2]
    exact ⟨rfl, by rw [dec_int]; exact q G H _ (.refl s) (.bl _)⟩
end
/-! ### tests -/
theorem evt_cmp {a b : Expr} {op : CmpOp} {pos : Pos} {d1 d2 : D} {k : Bool} {r : R2} (ho : OpR X (compareOp op) r) (ha : EvE L X a S d1) (hb : EvE L X b S d2) (hm : behindInMarks op b = false)
    (hk : ∀ (G H : Hp) (v1 v2 : V) (Q : VK), Sub G H → Is L G d1 v1 → Is L G d2 v2 → (∀ G' H', Grow L G H G' H' → Q (.bl k) H') → r v1 v2 H Q) : EvT L X (.Compare a [op] [b] pos) S k :=
  PT.imp (pt_cmpR ho ha hb hm) fun σ H Q ⟨G, R, q⟩ => ⟨G, R, fun G1 H1 v1 g1 i1 => ⟨G1, R.grow g1, fun G2 H2 v2 g2 i2 => hk G2 H2 v1 v2 _ g2.gh (i1.mono g2.gg) i2 fun G3 H3 g3 => ⟨k, rfl, q G3 H3 ((g1.trans g2).trans g3)⟩⟩⟩
section
variable {a b : Expr} {pos : Pos} {i j : Int}
theorem evt_lt (ha : EvE L X a S (.int i)) (hb : EvE L X b S (.int j)) : EvT L X (.Compare a [.Lt] [b] pos) S (decide (i < j)) :=
  evt_cmp op_lt ha hb (nomark _) fun G H v1 v2 Q s h1 h2 q => ⟨i, j, is_int h1, is_int h2, q G H (.refl s)⟩
theorem evt_le (ha : EvE L X a S (.int i)) (hb : EvE L X b S (.int j)) : EvT L X (.Compare a [.LtE] [b] pos) S (decide (i ≤ j)) :=
  evt_cmp op_le ha hb (nomark _) fun G H v1 v2 Q s h1 h2 q => ⟨i, j, is_int h1, is_int h2, q G H (.refl s)⟩
theorem evt_gt (ha : EvE L X a S (.int i)) (hb : EvE L X b S (.int j)) : EvT L X (.Compare a [.Gt] [b] pos) S (decide (j < i)) :=
  evt_cmp op_gt ha hb (nomark _) fun G H v1 v2 Q s h1 h2 q => ⟨i, j, is_int h1, is_int h2, q G H (.refl s)⟩
theorem evt_ge (ha : EvE L X a S (.int i)) (hb : EvE L X b S (.int j)) : EvT L X (.Compare a [.GtE] [b] pos) S (decide (j ≤ i)) :=
  evt_cmp op_ge ha hb (nomark _) fun G H v1 v2 Q s h1 h2 q => ⟨i, j, is_int h1, is_int h2, q G H (.refl s)⟩
theorem evt_eq (ha : EvE L X a S (.int i)) (hb : EvE L X b S (.int j)) : EvT L X (.Compare a [.Eq] [b] pos) S (decide (i = j)) :=
  evt_cmp op_eq ha hb (nomark _) fun G H v1 v2 Q s h1 h2 q => by
    rw [is_int h1, is_int h2]
    exact ⟨rfl, by rw [dec_int]; exact q G H (.refl s)⟩
theorem evt_ne (ha : EvE L X a S (.int i)) (hb : EvE L X b S (.int j)) : EvT L X (.Compare a [.NotEq] [b] pos) S (!decide (i = j)) :=
  evt_cmp op_ne ha hb (nomark _) fun G H v1 v2 Q s h1 h2 q => by
    rw [is_int h1, is_int h2]
    exact ⟨rfl, by rw [dec_int]; exact q G H (.refl s)⟩
end
theorem evt_val {e : Expr} {k : Bool} (h : EvE L X e S (.bl k)) (he : ∀ whole, isTrue e X.env whole = (do let v ← whole; standAt e.pos; holding [v] (truthy v)) := by intro _; rfl) : EvT L X e S k :=
  PT.imp (pt_val h he) fun σ H Q ⟨G, R, q⟩ => ⟨G, R, fun G1 H1 v g1 i1 => ⟨k, is_bl i1, q G1 H1 g1⟩⟩
theorem evt_not {a : Expr} {pos : Pos} {k : Bool} (h : EvT L X a S k) : EvT L X (.UnaryOp .Not a pos) S (!k) :=
  PT.imp (pt_not h) fun σ H Q ⟨G, R, q⟩ => ⟨G, R, fun G1 H1 g1 => q G1 H1 g1⟩
def EvW (L : Lc) (X : Cx) (e : Expr) (S : SlS) (b : Bool) : Prop := PW X e (TB L S b)
theorem EvW.t {e : Expr} {k : Bool} (h : EvW L X e S k) : EvT L X e S k := PW.pt h
theorem evw_and1 {a : Expr} {pos : Pos} {k : Bool} (h : EvT L X a S k) : EvW L X (.BoolOp .And [a] pos) S k := pw_and1 h
theorem evw_or1 {a : Expr} {pos : Pos} {k : Bool} (h : EvT L X a S k) : EvW L X (.BoolOp .Or [a] pos) S k := pw_or1 h
theorem evw_and {a b : Expr} {rest : List Expr} {pos : Pos} {k j : Bool} (h : EvT L X a S k) (h2 : k = true → EvW L X (.BoolOp .And (b :: rest) pos) S j) : EvW L X (.BoolOp .And (a :: b :: rest) pos) S (k && j) := by
  cases k with
  | true => exact PW.imp (pw_and h (h2 rfl)) fun σ H Q ⟨G, R, q⟩ => ⟨G, R, fun G1 H1 g1 => iteT ⟨G1, R.grow g1, fun G2 H2 g2 => q G2 H2 (g1.trans g2)⟩⟩
  | false => exact PW.imp (pw_and h (never_w _)) fun σ H Q ⟨G, R, q⟩ => ⟨G, R, fun G1 H1 g1 => iteF (q G1 H1 g1)⟩
theorem evw_or {a b : Expr} {rest : List Expr} {pos : Pos} {k j : Bool} (h : EvT L X a S k) (h2 : k = false → EvW L X (.BoolOp .Or (b :: rest) pos) S j) : EvW L X (.BoolOp .Or (a :: b :: rest) pos) S (k || j) := by
  cases k with
  | false => exact PW.imp (pw_or h (h2 rfl)) fun σ H Q ⟨G, R, q⟩ => ⟨G, R, fun G1 H1 g1 => iteF ⟨G1, R.grow g1, fun G2 H2 g2 => q G2 H2 (g1.trans g2)⟩⟩
  | true => exact PW.imp (pw_or h (never_w _)) fun σ H Q ⟨G, R, q⟩ => ⟨G, R, fun G1 H1 g1 => iteT (q G1 H1 g1)⟩
theorem ev_one {op} {a : Expr} {pos : Pos} {d : D} (h : EvE L X a S d) : EvE L X (.BoolOp op [a] pos) S d := pe_one h
theorem ev_and {a b : Expr} {rest : List Expr} {pos : Pos} {k j : Bool} (h : EvE L X a S (.bl k)) (h2 : k = true → EvE L X (.BoolOp .And (b :: rest) pos) S (.bl j)) : EvE L X (.BoolOp .And (a :: b :: rest) pos) S (.bl (k && j)) := by
  cases k with
  | true => exact PE.imp (pe_and h (h2 rfl)) fun σ H Q ⟨G, R, q⟩ => ⟨G, R, fun G1 H1 v g1 i1 => ⟨true, is_bl i1, iteT ⟨G1, R.grow g1, fun G2 H2 v2 g2 i2 => q G2 H2 v2 (g1.trans g2) i2⟩⟩⟩
  | false => exact PE.imp (pe_and h (never_e _)) fun σ H Q ⟨G, R, q⟩ => ⟨G, R, fun G1 H1 v g1 i1 => ⟨false, is_bl i1, iteF (q G1 H1 _ g1 (.bl _))⟩⟩
theorem ev_not {a : Expr} {pos : Pos} {k : Bool} (h : EvE L X a S (.bl k)) : EvE L X (.UnaryOp .Not a pos) S (.bl (!k)) :=
  PE.imp (pe_not h) fun σ H Q ⟨G, R, q⟩ => ⟨G, R, fun G1 H1 v g1 i1 => ⟨k, is_bl i1, q G1 H1 _ g1 (.bl _)⟩⟩
theorem ev_ifT {c a b : Expr} {pos : Pos} {d : D} (hc : EvT L X c S true) (ha : EvE L X a S d) : EvE L X (.IfExp c a b pos) S d :=
  PE.imp (pe_ifExp hc ha (never_e b)) fun σ H Q ⟨G, R, q⟩ => ⟨G, R, fun G1 H1 g1 => iteT ⟨G1, R.grow g1, fun G2 H2 v2 g2 i2 => q G2 H2 v2 (g1.trans g2) i2⟩⟩
theorem ev_ifF {c a b : Expr} {pos : Pos} {d : D} (hc : EvT L X c S false) (hb : EvE L X b S d) : EvE L X (.IfExp c a b pos) S d :=
  PE.imp (pe_ifExp hc (never_e a) hb) fun σ H Q ⟨G, R, q⟩ => ⟨G, R, fun G1 H1 g1 => iteF ⟨G1, R.grow g1, fun G2 H2 v2 g2 i2 => q G2 H2 v2 (g1.trans g2) i2⟩⟩
theorem ev_if {c a b : Expr} {pos : Pos} {d : D} {k : Bool} (hc : EvT L X c S k) (ha : k = true → EvE L X a S d) (hb : k = false → EvE L X b S d) : EvE L X (.IfExp c a b pos) S d := by
  cases k with
  | true => exact ev_ifT hc (ha rfl)
  | false => exact ev_ifF hc (hb rfl)
/-- a < b < c as a test: 0 <= k < n -/
theorem evt_chain {a b c : Expr} {pos : Pos} {i j l : Int} (ha : EvE L X a S (.int i)) (hb : EvE L X b S (.int j)) (hc : EvE L X c S (.int l)) (hm : lastMarks [CmpOp.LtE, CmpOp.Lt] [b, c] = false := by rfl) : EvT L X (.Compare a [.LtE, .Lt] [b, c] pos) S (decide (i ≤ j) && decide (j < l)) := by
  refine PT.imp (pt_chain op_le op_lt ha hb hc hm) fun σ H Q ⟨G, R, q⟩ => ⟨G, R, fun G1 H1 v1 g1 i1 => ⟨G1, R.grow g1, fun G2 H2 v2 g2 i2 => ⟨i, j, is_int i1, is_int i2, decide (i ≤ j), rfl, ?_⟩⟩⟩
  by_cases h : i ≤ j
  · rw [decide_eq_true h] at q ⊢
    exact iteT ⟨G2, (R.grow g1).grow g2, fun G3 H3 v3 g3 i3 => ⟨j, l, is_int i2, is_int i3, _, rfl, by rw [Bool.true_and] at q; exact q G3 H3 ((g1.trans g2).trans g3)⟩⟩
  · rw [decide_eq_false h] at q ⊢
    exact iteF ⟨false, rfl, by rw [Bool.false_and] at q; exact q G2 H2 (g1.trans g2)⟩
/-! ### argument lists -/
theorem eva_nil : EvA L X [] S [] := PA.imp pa_nil fun σ H Q ⟨G, R, q⟩ => q G H [] (.refl R.sub) .nil
theorem eva_cons {e : Expr} {es : List Expr} {d : D} {ds : List D} (ha : EvE L X e S d) (hr : EvA L X es S ds) (hs : starEach (e :: es) X.env = (false, eval e X.env) :: starEach es X.env := by rfl) : EvA L X (e :: es) S (d :: ds) :=
  PA.imp (pa_cons ha hr hs) fun σ H Q ⟨G, R, q⟩ => ⟨G, R, fun G1 H1 v g1 i1 => ⟨G1, R.grow g1, fun G2 H2 vs g2 i2 => q G2 H2 (v :: vs) (g1.trans g2) (.cons (i1.mono g2.gg) i2)⟩⟩
theorem ev_tup {es : List Expr} {ds : List D} {x1 : Nat} {pos : Pos} (h : EvA L X es S ds) (hz : ds.length ≤ 100000 := by first | decide | simp) : EvE L X (.Tuple es x1 pos) S (.tup ds) :=
  PE.imp (pe_tup h) fun σ H Q ⟨G, R, q⟩ => ⟨G, R, fun G1 H1 vs g1 i1 => ⟨by rw [← i1.length]; exact small_le hz, fun p hp => q _ _ _ (g1.trans (Grow.new g1.gh hp)) (.tup upd_same (i1.mono (upd_sub (sub_none g1.gh hp))))⟩⟩
/-! ### sequences, told or one's own -/
def seqO : Bool → List V → HO
  | true, vs => .lst vs
  | false, vs => .tup vs
def TQ (L : Lc) (S : SlS) (k : Bool) (xs : List D) : TE := fun σ H Q => ∃ G, RepV L S σ H G ∧ ∀ G' H' a vs, Grow L G H G' H' → H' a = some (seqO k vs) → IsL L G' xs vs → Q (.ref a) H'
def EvQ (L : Lc) (X : Cx) (e : Expr) (S : SlS) (k : Bool) (xs : List D) : Prop := PE X e (TQ L S k xs)
def dseq : Bool → List D → D
  | true, xs => .lst xs
  | false, xs => .tup xs
theorem evq_of {e : Expr} {xs : List D} {k : Bool} (h : EvE L X e S (dseq k xs)) : EvQ L X e S k xs :=
  PE.imp h fun σ H Q ⟨G, R, q⟩ => ⟨G, R, fun G1 H1 v g1 i1 => by
    cases k with
    | true => cases i1 with | lst e r => exact q G1 H1 _ _ g1 (g1.gh _ _ e) r
    | false => cases i1 with | tup e r => exact q G1 H1 _ _ g1 (g1.gh _ _ e) r⟩
theorem evq_t {e : Expr} {xs : List D} (h : EvE L X e S (.tup xs)) : EvQ L X e S false xs := evq_of (k := false) h
theorem evq_l {e : Expr} {xs : List D} (h : EvE L X e S (.lst xs)) : EvQ L X e S true xs := evq_of (k := true) h
theorem evq_own (i : Nat) {xs : List D} {x : Str} {pos : Pos} (hs : S[i]? = some (.own xs) := by rfl) (hN : X.N[i]? = some x := by rfl) (hv : Vis X.env.scope x := by first | exact Or.inl rfl | exact Or.inr (Or.inl rfl) | exact Or.inr (Or.inr rfl)) (hd : (x == ("__debug__" : Str)) = false := by decide)
    (hcd : (x == ("__classdict__" : Str)) = false := by decide) : EvQ L X (.Name x pos) S true xs :=
  PE.imp (pe_var hN hv hd hcd) fun σ H Q ⟨G, R, q⟩ => by
    obtain ⟨l, vs, h1, h2, h3, h4⟩ := R.own i xs hs
    exact ⟨.ref l, h1, q G H l vs (.refl R.sub) h2 h4⟩
/-- a new list -/
def TN (L : Lc) (S : SlS) (xs : List D) : TE := fun σ H Q => ∃ G, RepV L S σ H G ∧ ∀ G' H' p vs, Grow L G H G' H' → H p = none → H' p = some (.lst vs) → G' p = none → IsL L G' xs vs → Q (.ref p) H'
def EvN (L : Lc) (X : Cx) (e : Expr) (S : SlS) (xs : List D) : Prop := PE X e (TN L S xs)
theorem Grow.tell {G H G' H' : Hp} {p : Addr} {o : HO} (g : Grow L G H G' H') (hp : H p = none) (hp' : H' p = some o) (gp : G' p = none) (ho : ∀ ps, o ≠ .tbl ps := by intro _ z; cases z) : Grow L G H (upd G' p o) H' where
  gg := fun a u e => upd_sub gp a u (g.gg a u e)
  hh := g.hh
  gh := fun a u e => by
    by_cases q : a = p
    · subst q; rw [upd_same] at e; rw [hp']; exact e
    · rw [upd_ne q] at e; exact g.gh _ _ e
  fr := fun a h1 h2 => by
    by_cases q : a = p
    · subst q; exact absurd hp h2
    · rw [upd_ne q]; exact g.fr a h1 h2
  tb := g.tb
  nt := fun n => (g.nt n).upd ho
  tt := g.tt
theorem ev_new {e : Expr} {xs : List D} (h : EvN L X e S xs) : EvE L X e S (.lst xs) :=
  PE.imp h fun σ H Q ⟨G, R, q⟩ => ⟨G, R, fun G' H' p vs g hp hp' gp i => q _ H' _ (g.tell hp hp' gp) (.lst upd_same (i.mono (upd_sub gp)))⟩
theorem evq_n {e : Expr} {xs : List D} (h : EvN L X e S xs) : EvQ L X e S true xs :=
  PE.imp h fun σ H Q ⟨G, R, q⟩ => ⟨G, R, fun G' H' p vs g hp hp' gp i => q G' H' p vs g hp' i⟩
theorem seqLT {G : Hp} {k : Bool} {a : Addr} {vs : List V} {K : PySem.W.Frag} (h : G a = some (seqO k vs)) : SqL K G a vs ∨ SqT K G a vs := by
  cases k with
  | true => exact .inl (SqL.of h)
  | false => exact .inr (SqT.of h)
section
variable {e a b : Expr} {pos p : Pos} {xs ys : List D} {k : Bool}
/-- len(xs) -/
theorem ev_len (hm : X.mg "len" = none) (h : EvQ L X e S k xs) (hg : Gl X "len" := by rfl) (he : starEach (e :: []) X.env = (false, eval e X.env) :: starEach [] X.env := by rfl) : EvE L X (.Call (.Name "len" p) [e] [] pos) S (.int xs.length) :=
  PE.imp (pe_callB call_len_seq hg hm PySem.boot_len (pa_cons h pa_nil he) (by decide) (by decide) he (by rfl)) fun σ H Q ⟨G, R, q⟩ => ⟨G, R, fun G' H' a vs g ha i => ⟨a, vs, rfl, seqLT ha, by rw [← i.length]; exact q G' H' _ g (.int _)⟩⟩
theorem ix_len {α β : Type} {xs : List α} {vs : List β} {i : Int} (h : xs.length = vs.length) : ixN xs.length i = ixN vs.length i := by rw [h]
theorem at_get {G : Hp} {xs : List D} {vs : List V} {i : Int} {d : D} (r : IsL L G xs vs) (h : atI xs i = some d) : ∃ v, atI vs i = some v ∧ Is L G d v := by
  unfold atI at h ⊢
  rw [r.length] at h
  cases e : ixN vs.length i with
  | none => rw [e] at h; cases h
  | some j => rw [e] at h; exact r.get h
/-- xs[i] -/
theorem ev_ix {i : Int} {d : D} (h : EvQ L X a S k xs) (hb : EvE L X b S (.int i)) (hd : atI xs i = some d) (hs : PlainIx b := by exact fun _ _ => rfl) : EvE L X (.Subscript a b pos) S d :=
  PE.imp (pe_ix ix_seq h hb hs) fun σ H Q ⟨G, R, q⟩ => ⟨G, R, fun G1 H1 l vs g1 hl i1 => ⟨G1, R.grow g1, fun G2 H2 v2 g2 i2 => by
    obtain ⟨v, e1, e2⟩ := at_get i1 hd
    have e3 := is_int i2
    cases k with
    | true => exact .inl ⟨l, vs, i, v, rfl, e3, SqL.of (g2.hh _ _ hl (fun _ z => by cases z)), e1, q G2 H2 v (g1.trans g2) (e2.mono g2.gg)⟩
    | false => exact .inr (.inl ⟨l, vs, i, v, rfl, e3, SqT.of (g2.hh _ _ hl (fun _ z => by cases z)), e1, q G2 H2 v (g1.trans g2) (e2.mono g2.gg)⟩)⟩⟩
theorem atN {α : Type} {xs : List α} {i : Nat} {x : α} (h : xs[i]? = some x) : atI xs (i : Int) = some x := atI_nat h
/-- [e1, ..] -/
theorem evn_lst {es : List Expr} {ds : List D} (h : EvA L X es S ds) (hz : ds.length ≤ 100000 := by first | decide | simp) : EvN L X (.List es pos) S ds :=
  PE.imp (pe_lst h) fun σ H Q ⟨G, R, q⟩ => ⟨G, R, fun G1 H1 vs g1 i1 => ⟨by rw [← i1.length]; exact small_le hz, fun p hp => q G1 _ p vs (g1.trans (Grow.more g1.gh hp)) (by
    cases e : H p with
    | none => rfl
    | some o => exact absurd hp (g1.ne (by rw [e]; exact fun z => by cases z))) upd_same (sub_none g1.gh hp) i1⟩⟩
theorem Grow.back {G H G' H' : Hp} (g : Grow L G H G' H') {p : Addr} (h : H' p = none) : H p = none := by
  cases e : H p with
  | none => rfl
  | some o => exact absurd h (g.ne (by rw [e]; exact fun z => by cases z))
theorem boot_list : bootBuiltins "list" = some (.type "list") := by decide +kernel
theorem boot_tuple : bootBuiltins "tuple" = some (.type "tuple") := by decide +kernel
/-- list(xs) -/
theorem evn_list (hm : X.mg "list" = none) (h : EvQ L X e S k xs) (hg : Gl X "list" := by rfl) (he : starEach (e :: []) X.env = (false, eval e X.env) :: starEach [] X.env := by rfl) : EvN L X (.Call (.Name "list" p) [e] [] pos) S xs :=
  PE.imp (pe_callTy call_list_of hg hm boot_list (pa_cons h pa_nil he) (by decide) (by decide) he (by rfl)) fun σ H Q ⟨G, R, q⟩ => ⟨G, R, fun G' H' a vs g ha i => ⟨a, vs, rfl, seqLT ha, fun l hl => q G' _ l vs (g.trans (Grow.more g.gh hl)) (g.back hl) upd_same (sub_none g.gh hl) i⟩⟩
/-- tuple(xs), xs a list -/
theorem ev_tupleL (hm : X.mg "tuple" = none) (h : EvQ L X e S true xs) (hg : Gl X "tuple" := by rfl) (he : starEach (e :: []) X.env = (false, eval e X.env) :: starEach [] X.env := by rfl) : EvE L X (.Call (.Name "tuple" p) [e] [] pos) S (.tup xs) :=
  PE.imp (pe_callTy call_tuple_of hg hm boot_tuple (pa_cons h pa_nil he) (by decide) (by decide) he (by rfl)) fun σ H Q ⟨G, R, q⟩ => ⟨G, R, fun G' H' a vs g ha i => ⟨a, vs, rfl, .inl ⟨SqL.of ha, fun l hl => q _ _ _ (g.trans (Grow.new g.gh hl)) (.tup upd_same (i.mono (upd_sub (sub_none g.gh hl))))⟩⟩⟩
/-- tuple(t), t a tuple that is told -/
theorem ev_tupleT (hm : X.mg "tuple" = none) (h : EvE L X e S (.tup xs)) (hg : Gl X "tuple" := by rfl) (he : starEach (e :: []) X.env = (false, eval e X.env) :: starEach [] X.env := by rfl) : EvE L X (.Call (.Name "tuple" p) [e] [] pos) S (.tup xs) :=
  PE.imp (pe_callTy call_tuple_of hg hm boot_tuple (pa_cons h pa_nil he) (by decide) (by decide) he (by rfl)) fun σ H Q ⟨G, R, q⟩ => ⟨G, R, fun G' H' v g i => by
    cases i with
    | tup e r => exact ⟨_, _, rfl, .inr ⟨SqT.of (g.gh _ _ e), q G' H' _ g (.tup e r)⟩⟩⟩
/-- xs + ys, lists -/
theorem evn_cat (h1 : EvQ L X a S true xs) (h2 : EvQ L X b S true ys) (hz : xs.length + ys.length ≤ 100000) : EvN L X (.BinOp a .Add b pos) S (xs ++ ys) :=
  PE.imp (pe_op op_cat h1 h2) fun σ H Q ⟨G, R, q⟩ => ⟨G, R, fun G1 H1 l vs g1 hl i1 => ⟨G1, R.grow g1, fun G2 H2 m ws g2 hm i2 =>
    ⟨l, m, vs, ws, rfl, rfl, g2.hh _ _ hl (fun _ z => by cases z), hm, by rw [← i1.length, ← i2.length]; exact small_le hz, fun p hp => q G2 _ p _ ((g1.trans g2).trans (Grow.more g2.gh hp)) ((g1.trans g2).back hp) upd_same (sub_none g2.gh hp) ((i1.mono g2.gg).append i2)⟩⟩⟩
/-- [x] * n -/
theorem flat_one {α : Type} (x : α) : ∀ n : Nat, (List.replicate n [x]).flatten = List.replicate n x
  | 0 => rfl
  | n + 1 => by
    rw [List.replicate_succ, List.flatten_cons, flat_one x n]
    rfl
theorem evn_rep {d : D} {n : Int} (h1 : EvQ L X a S true [d]) (h2 : EvE L X b S (.int n)) (hz : -100000 ≤ n ∧ n ≤ 100000) : EvN L X (.BinOp a .Mult b pos) S (List.replicate n.toNat d) :=
  PE.imp (pe_op op_rep h1 h2) fun σ H Q ⟨G, R, q⟩ => ⟨G, R, fun G1 H1 l vs g1 hl i1 => ⟨G1, R.grow g1, fun G2 H2 w g2 i2 => by
    cases i1 with
    | cons h r =>
      cases r
      refine ⟨l, n, _, rfl, is_int i2, g2.hh _ _ hl (fun _ z => by cases z), by omega, by omega, ?_, fun p hp => ?_⟩
      · show 1 * n.toNat ≤ sizeLine
        exact small_le (by omega)
      · rw [flat_one]
        exact q G2 _ p _ ((g1.trans g2).trans (Grow.more g2.gh hp)) ((g1.trans g2).back hp) upd_same (sub_none g2.gh hp) (IsL.replicate (h.mono g2.gg) _)⟩⟩
/-- xs[lo:hi] -/
def cutD {α : Type} (xs : List α) (lo hi : Option Int) : List α := (xs.drop (HT.sIx xs.length 0 lo)).take (HT.sIx xs.length xs.length hi - HT.sIx xs.length 0 lo)
def TP' (L : Lc) (S : SlS) (o : Option Int) : TO := fun σ H Q => ∃ G, RepV L S σ H G ∧ ∀ G' H', Grow L G H G' H' → Q o H'
def EvO (L : Lc) (X : Cx) (e : Option Expr) (S : SlS) (o : Option Int) : Prop := PO X e (TP' L S o)
theorem evo_none : EvO L X none S none := PO.imp po_none fun σ H Q ⟨G, R, q⟩ => q G H (.refl R.sub)
theorem evo_some {i : Int} (h : EvE L X e S (.int i)) : EvO L X (some e) S (some i) := PO.imp (po_some h) fun σ H Q ⟨G, R, q⟩ => ⟨G, R, fun G1 H1 v g1 i1 => ⟨i, is_int i1, q G1 H1 g1⟩⟩
theorem evn_slice {lo hi : Option Expr} {o1 o2 : Option Int} {p2 : Pos} (h : EvQ L X a S true xs) (h1 : EvO L X lo S o1) (h2 : EvO L X hi S o2) : EvN L X (.Subscript a (.Slice lo hi none p2) pos) S (cutD xs o1 o2) :=
  PE.imp (pe_slice sl_list h h1 h2) fun σ H Q ⟨G, R, q⟩ => ⟨G, R, fun G1 H1 l vs g1 hl i1 => ⟨G1, R.grow g1, fun G2 H2 g2 => ⟨G2, (R.grow g1).grow g2, fun G3 H3 g3 =>
    ⟨l, vs, rfl, SqL.of (g3.hh _ _ (g2.hh _ _ hl (fun _ z => by cases z)) (fun _ z => by cases z)), fun p hp => q G3 _ p _ (((g1.trans g2).trans g3).trans (Grow.more g3.gh hp)) (((g1.trans g2).trans g3).back hp) upd_same (sub_none g3.gh hp) (by
      unfold cutV cutD
      rw [i1.length]
      exact (((i1.mono g2.gg).mono g3.gg).drop _).take _)⟩⟩⟩⟩
end
end
/-! ### the program's classes and defs -/
structure ClsT (K : PySem.W.Frag) (L : Lc) : Prop where
  cF : Cls K L.CF
  cP : Cls K L.CP
  nm : NoAttr K L.CF "modulus"
  np : NoAttr K L.CF "p"
  nn : NoAttr K L.CF "n"
  nq : NoAttr K L.CF "q"
  nf : NoAttr K L.CP "field"
  nr : NoAttr K L.CP "row"
def dmod (F : FldD) : D := tI F.m
section
variable {L : Lc} {X : Cx} {S : SlS} {e o : Expr} {es : List Expr} {pos p apos : Pos} {F : FldD} {row : List (List Int)} {ds : List D} {r : D}
theorem ev_fld_m (T : ClsT X.K L) (h : EvE L X e S (.fld F)) (hb : attributeBase e "modulus" X.env (eval e X.env) = eval e X.env := by rfl) : EvE L X (.Attribute e "modulus" pos) S (tI F.m) :=
  PE.imp (pe_fld h hb) fun σ H Q ⟨G, R, q⟩ => ⟨G, R, fun G1 H1 v g1 i1 => by
    cases i1 with
    | fld e em => exact ⟨_, _, _, _, _, rfl, g1.gh _ _ e, T.cF, T.nm, rfl, q G1 H1 _ g1 (.tup em (isL_ints _))⟩⟩
theorem ev_fld_p (T : ClsT X.K L) (h : EvE L X e S (.fld F)) (hb : attributeBase e "p" X.env (eval e X.env) = eval e X.env := by rfl) : EvE L X (.Attribute e "p" pos) S (.int F.p) :=
  PE.imp (pe_fld h hb) fun σ H Q ⟨G, R, q⟩ => ⟨G, R, fun G1 H1 v g1 i1 => by
    cases i1 with
    | fld e em => exact ⟨_, _, _, _, _, rfl, g1.gh _ _ e, T.cF, T.np, rfl, q G1 H1 _ g1 (.int _)⟩⟩
theorem ev_fld_n (T : ClsT X.K L) (h : EvE L X e S (.fld F)) (hb : attributeBase e "n" X.env (eval e X.env) = eval e X.env := by rfl) : EvE L X (.Attribute e "n" pos) S (.int F.n) :=
  PE.imp (pe_fld h hb) fun σ H Q ⟨G, R, q⟩ => ⟨G, R, fun G1 H1 v g1 i1 => by
    cases i1 with
    | fld e em => exact ⟨_, _, _, _, _, rfl, g1.gh _ _ e, T.cF, T.nn, rfl, q G1 H1 _ g1 (.int _)⟩⟩
theorem ev_fld_q (T : ClsT X.K L) (h : EvE L X e S (.fld F)) (hb : attributeBase e "q" X.env (eval e X.env) = eval e X.env := by rfl) : EvE L X (.Attribute e "q" pos) S (.int F.q) :=
  PE.imp (pe_fld h hb) fun σ H Q ⟨G, R, q⟩ => ⟨G, R, fun G1 H1 v g1 i1 => by
    cases i1 with
    | fld e em => exact ⟨_, _, _, _, _, rfl, g1.gh _ _ e, T.cF, T.nq, rfl, q G1 H1 _ g1 (.int _)⟩⟩
theorem ev_pol_f (T : ClsT X.K L) (h : EvE L X e S (.pol F row)) (hb : attributeBase e "field" X.env (eval e X.env) = eval e X.env := by rfl) : EvE L X (.Attribute e "field" pos) S (.fld F) :=
  PE.imp (pe_fld h hb) fun σ H Q ⟨G, R, q⟩ => ⟨G, R, fun G1 H1 v g1 i1 => by
    cases i1 with
    | pol e hf hr => exact ⟨_, _, _, _, _, rfl, g1.gh _ _ e, T.cP, T.nf, rfl, q G1 H1 _ g1 hf⟩⟩
theorem ev_pol_r (T : ClsT X.K L) (h : EvE L X e S (.pol F row)) (hb : attributeBase e "row" X.env (eval e X.env) = eval e X.env := by rfl) : EvE L X (.Attribute e "row" pos) S (tII row) :=
  PE.imp (pe_fld h hb) fun σ H Q ⟨G, R, q⟩ => ⟨G, R, fun G1 H1 v g1 i1 => by
    cases i1 with
    | pol e hf hr => exact ⟨_, _, _, _, _, rfl, g1.gh _ _ e, T.cP, T.nr, rfl, q G1 H1 _ g1 hr⟩⟩
/-- a promise by values -/
def spD (L : Lc) (R : List D → D → Prop) : Sp := fun vs H Q _ => ∃ G ds r, Sub G H ∧ TbG L H G ∧ IsL L G ds vs ∧ R ds r ∧ ∀ G' H' v, Grow L G H G' H' → Is L G' r v → Q v H'
/-- a def of the module, called by its name -/
structure FnC (P : Program) (w : World) (K : PySem.W.Frag) (mg : Str → Option Value) (base : Heap) (L : Lc) (x : Str) (k : Nat) (ps : List Str) (R : List D → D → Prop) : Prop where
  ex : ∃ f fd, mg x = some (.ref f) ∧ PySem.W.keepIn K (.ref f) = true ∧ Binds K fd ps [] ∧ FnOk P w K mg base CX0 k f fd ps (spD L R)
/-- a method -/
structure MtC (P : Program) (w : World) (K : PySem.W.Frag) (mg : Str → Option Value) (base : Heap) (L : Lc) (C : Addr) (m : Str) (k : Nat) (ps : List Str) (R : List D → D → Prop) : Prop where
  ex : ∃ f fd, Meth K C m f ∧ Binds K fd ps [] ∧ FnOk P w K mg base CX0 k f fd ps (spD L R)
theorem FnC.mono {P : Program} {w : World} {K : PySem.W.Frag} {mg : Str → Option Value} {base : Heap} {x : Str} {j k : Nat} {ps : List Str} {R : List D → D → Prop} (F : FnC P w K mg base L x j ps R) (h : j ≤ k) : FnC P w K mg base L x k ps R := by
  obtain ⟨f, fd, h1, h2, h3, h4⟩ := F.ex
  exact ⟨f, fd, h1, h2, h3, h4.mono h⟩
theorem ev_call {x : Str} {k : Nat} {ps : List Str} {R : List D → D → Prop} (F : FnC X.prog X.w X.K X.mg X.base L x k ps R) (hr : Room k X.A) (ha : EvA L X (e :: es) S ds) (hR : R ds r) (hg : Gl X x := by rfl)
    (hdb : (x == ("__debug__" : Str)) = false := by decide) (he : starEach (e :: es) X.env = (false, eval e X.env) :: starEach es X.env := by rfl) (hpl : (backTo pos (starEach es X.env)).any (·.1) = false := by rfl) :
    EvE L X (.Call (.Name x p) (e :: es) [] pos) S r := by
  obtain ⟨f, fd, h1, h2, h3, h4⟩ := F.ex
  refine PE.imp (pe_call h4 hr hg h1 h2 h3 .nil pass0 ha hdb he hpl) fun σ H Q ⟨G, Rr, q⟩ => ⟨G, Rr, fun G1 H1 vs g1 i1 => ?_⟩
  show spD L R (vs ++ []) H1 Q E0
  rw [List.append_nil]
  exact ⟨G1, ds, r, g1.gh, g1.tg Rr.tabs, i1, hR, fun G2 H2 v g2 i2 => q G2 H2 v (g1.trans g2) i2⟩
/-- the receiver's object -/
def fldN : List Str := ["modulus", "p", "n", "q"]
def polN : List Str := ["field", "row"]
theorem lk_none {α : Type} {m : Str} : ∀ {l : List (Str × α)}, m ∉ l.map (·.1) → l.lookup m = none
  | [], _ => rfl
  | (a, b) :: l, h => by
    have h1 : (m == a) = false := by
      cases q : (m == a) with
      | false => rfl
      | true => exact absurd (by rw [beq_iff_eq.mp q]; exact List.mem_cons_self) h
    rw [List.lookup_cons, h1]
    exact lk_none fun z => h (List.mem_cons_of_mem _ z)
theorem ev_methF {m : Str} {k : Nat} {ps : List Str} {R : List D → D → Prop} {pl : Sem Bool} (T : ClsT X.K L) (M : MtC X.prog X.w X.K X.mg X.base L L.CF m k ps R) (hr : Room k X.A) (ho : EvE L X o S (.fld F)) (ha : EvA L X (e :: es) S ds) (hR : R (.fld F :: ds) r) (hm : m ∉ fldN := by decide +kernel)
    (hst : starEach (e :: es) X.env = (false, eval e X.env) :: starEach es X.env := by rfl) (hpl : (backTo pos (starEach es X.env)).any (·.1) = false := by rfl)
    (ht : eval (.Call (.Attribute o m apos) (e :: es) [] pos) X.env = (do
      let ov ← eval o X.env
      standAt apos.atName
      let (f, first) ← holding [ov] (getMethod ov m pl)
      callWith pos f first (backTo pos (starEach (e :: es) X.env)) (backToKw pos (keywordEach [] X.env))) := by rfl) : EvE L X (.Call (.Attribute o m apos) (e :: es) [] pos) S r := by
  obtain ⟨f, fd, h1, h3, h4⟩ := M.ex
  refine PE.imp (pe_meth ho T.cF h1 h4 hr h3 .nil pass0 ha hst hpl ht) fun σ H Q ⟨G, Rr, q⟩ => ⟨G, Rr, fun G1 H1 v g1 i1 => ?_⟩
  cases i1 with
  | fld e1 em =>
    refine ⟨_, _, _, rfl, g1.gh _ _ e1, lk_none hm, G1, Rr.grow g1, fun G2 H2 vs g2 i2 => ?_⟩
    show spD L R (_ :: (vs ++ [])) H2 Q E0
    rw [List.append_nil]
    exact ⟨G2, _, r, g2.gh, g2.tg (g1.tg Rr.tabs), .cons (.fld (g2.gg _ _ e1) (g2.gg _ _ em)) i2, hR, fun G3 H3 v g3 i3 => q G3 H3 v ((g1.trans g2).trans g3) i3⟩
theorem ev_methP {m : Str} {k : Nat} {ps : List Str} {R : List D → D → Prop} {pl : Sem Bool} (T : ClsT X.K L) (M : MtC X.prog X.w X.K X.mg X.base L L.CP m k ps R) (hr : Room k X.A) (ho : EvE L X o S (.pol F row)) (ha : EvA L X (e :: es) S ds) (hR : R (.pol F row :: ds) r) (hm : m ∉ polN := by decide +kernel)
    (hst : starEach (e :: es) X.env = (false, eval e X.env) :: starEach es X.env := by rfl) (hpl : (backTo pos (starEach es X.env)).any (·.1) = false := by rfl)
    (ht : eval (.Call (.Attribute o m apos) (e :: es) [] pos) X.env = (do
      let ov ← eval o X.env
      standAt apos.atName
      let (f, first) ← holding [ov] (getMethod ov m pl)
      callWith pos f first (backTo pos (starEach (e :: es) X.env)) (backToKw pos (keywordEach [] X.env))) := by rfl) : EvE L X (.Call (.Attribute o m apos) (e :: es) [] pos) S r := by
  obtain ⟨f, fd, h1, h3, h4⟩ := M.ex
  refine PE.imp (pe_meth ho T.cP h1 h4 hr h3 .nil pass0 ha hst hpl ht) fun σ H Q ⟨G, Rr, q⟩ => ⟨G, Rr, fun G1 H1 v g1 i1 => ?_⟩
  cases i1 with
  | pol e1 hf hrr =>
    refine ⟨_, _, _, rfl, g1.gh _ _ e1, lk_none hm, G1, Rr.grow g1, fun G2 H2 vs g2 i2 => ?_⟩
    show spD L R (_ :: (vs ++ [])) H2 Q E0
    rw [List.append_nil]
    exact ⟨G2, _, r, g2.gh, g2.tg (g1.tg Rr.tabs), .cons (.pol (g2.gg _ _ e1) (hf.mono g2.gg) (hrr.mono g2.gg)) i2, hR, fun G3 H3 v g3 i3 => q G3 H3 v ((g1.trans g2).trans g3) i3⟩
theorem ev_methF0 {m : Str} {k : Nat} {ps : List Str} {R : List D → D → Prop} {pl : Sem Bool} (T : ClsT X.K L) (M : MtC X.prog X.w X.K X.mg X.base L L.CF m k ps R) (hr : Room k X.A) (ho : EvE L X o S (.fld F)) (hR : R [.fld F] r) (hm : m ∉ fldN := by decide +kernel)
    (ht : eval (.Call (.Attribute o m apos) [] [] pos) X.env = (do
      let ov ← eval o X.env
      standAt apos.atName
      let (f, first) ← holding [ov] (getMethod ov m pl)
      callWith pos f first (backTo pos (starEach [] X.env)) (backToKw pos (keywordEach [] X.env))) := by rfl) : EvE L X (.Call (.Attribute o m apos) [] [] pos) S r := by
  obtain ⟨f, fd, h1, h3, h4⟩ := M.ex
  refine PE.imp (pe_meth0 ho T.cF h1 h4 hr h3 .nil pass0 ht) fun σ H Q ⟨G, Rr, q⟩ => ⟨G, Rr, fun G1 H1 v g1 i1 => ?_⟩
  cases i1 with
  | fld e1 em => exact ⟨_, _, _, rfl, g1.gh _ _ e1, lk_none hm, G1, _, r, g1.gh, g1.tg Rr.tabs, .cons (.fld e1 em) .nil, hR, fun G3 H3 v g3 i3 => q G3 H3 v (g1.trans g3) i3⟩
theorem ev_methP0 {m : Str} {k : Nat} {ps : List Str} {R : List D → D → Prop} {pl : Sem Bool} (T : ClsT X.K L) (M : MtC X.prog X.w X.K X.mg X.base L L.CP m k ps R) (hr : Room k X.A) (ho : EvE L X o S (.pol F row)) (hR : R [.pol F row] r) (hm : m ∉ polN := by decide +kernel)
    (ht : eval (.Call (.Attribute o m apos) [] [] pos) X.env = (do
      let ov ← eval o X.env
      standAt apos.atName
      let (f, first) ← holding [ov] (getMethod ov m pl)
      callWith pos f first (backTo pos (starEach [] X.env)) (backToKw pos (keywordEach [] X.env))) := by rfl) : EvE L X (.Call (.Attribute o m apos) [] [] pos) S r := by
  obtain ⟨f, fd, h1, h3, h4⟩ := M.ex
  refine PE.imp (pe_meth0 ho T.cP h1 h4 hr h3 .nil pass0 ht) fun σ H Q ⟨G, Rr, q⟩ => ⟨G, Rr, fun G1 H1 v g1 i1 => ?_⟩
  cases i1 with
  | pol e1 hf hrr => exact ⟨_, _, _, rfl, g1.gh _ _ e1, lk_none hm, G1, _, r, g1.gh, g1.tg Rr.tabs, .cons (.pol e1 hf hrr) .nil, hR, fun G3 H3 v g3 i3 => q G3 H3 v (g1.trans g3) i3⟩
end
end FM
set_option autoImplicit false
namespace FM
open PySem PySem.Spec PyProof.Rows L2 LamX
/-! ## statements -/
structure Bs where
  H : Hp
  G : Hp
structure Rep (L : Lc) (B : Bs) (S : SlS) (σ : L2.St) (H G : Hp) : Prop where
  r : RepV L S σ H G
  g : Grow L B.G B.H G H
  o : ∀ (i : Nat) (l : Addr), Owns S i → σ[i]? = some (some (.ref l)) → B.H l = none
theorem Rep.grow {L : Lc} {B : Bs} {S : SlS} {σ : L2.St} {H G H' G' : Hp} (R : Rep L B S σ H G) (g : Grow L G H G' H') : Rep L B S σ H' G' := ⟨R.r.grow g, R.g.trans g, R.o⟩
inductive Out where
  | nx (S : SlS)
  | bk (S : SlS)
  | ct (S : SlS)
  | ret (d : D)
def TOe (L : Lc) (B : Bs) (G : Hp) (D : Ends) : Out → Prop
  | .nx S' => ∀ σ' H' G', Sub G G' → Rep L B S' σ' H' G' → D.nx σ' H'
  | .bk S' => ∀ σ' H' G', Sub G G' → Rep L B S' σ' H' G' → D.bk σ' H'
  | .ct S' => ∀ σ' H' G', Sub G G' → Rep L B S' σ' H' G' → D.ct σ' H'
  | .ret d => ∀ G' H' v, Grow L B.G B.H G' H' → Is L G' d v → D.rt v H'
def TOs (L : Lc) (S : SlS) (o : Out) : TS := fun D σ H => ∃ B G, Rep L B S σ H G ∧ TOe L B G D o
def EvS (L : Lc) (X : Cx) (st : Stmt) (S : SlS) (o : Out) : Prop := PS X st (TOs L S o)
def EvB (L : Lc) (X : Cx) (sts : List Stmt) (S : SlS) (o : Out) : Prop := PSs X sts (TOs L S o)
section
variable {L : Lc} {X : Cx} {S S' : SlS} {o : Out} {st : Stmt} {rest : List Stmt}
theorem TOe.sub {B : Bs} {G G' : Hp} {D : Ends} (s : Sub G G') : ∀ {o : Out}, TOe L B G D o → TOe L B G' D o
  | .nx _, h => fun σ' H' G2 s2 => h σ' H' G2 fun a u e => s2 a u (s a u e)
  | .bk _, h => fun σ' H' G2 s2 => h σ' H' G2 fun a u e => s2 a u (s a u e)
  | .ct _, h => fun σ' H' G2 s2 => h σ' H' G2 fun a u e => s2 a u (s a u e)
  | .ret _, h => h
theorem evb_one (h : EvS L X st S o) : EvB L X [st] S o := pss_one h
theorem evb_nil : EvB L X [] S (.nx S) := PSs.imp pss_nil fun D σ H ⟨B, G, R, q⟩ => q σ H G (fun _ _ e => e) R
theorem evb_cons (h : EvS L X st S (.nx S')) (h2 : EvB L X rest S' o) : EvB L X (st :: rest) S o :=
  PSs.imp (pss_cons h h2) fun D σ H ⟨B, G, R, q⟩ => ⟨B, G, R, fun σ' H' G' s R' => ⟨B, G', R', q.sub s⟩⟩
theorem evb_ret {d : D} (h : EvS L X st S (.ret d)) : EvB L X (st :: rest) S (.ret d) :=
  PSs.imp (pss_cons h (never_ss rest)) fun D σ H ⟨B, G, R, q⟩ => ⟨B, G, R, q⟩
theorem evb_brk (h : EvS L X st S (.bk S')) : EvB L X (st :: rest) S (.bk S') :=
  PSs.imp (pss_cons h (never_ss rest)) fun D σ H ⟨B, G, R, q⟩ => ⟨B, G, R, q⟩
theorem evs_ret {e : Expr} {pos : Pos} {d : D} (h : EvE L X e S d) : EvS L X (.Return (some e) pos) S (.ret d) :=
  PS.imp (ps_ret h) fun D σ H ⟨B, G, R, q⟩ => ⟨G, R.r, fun G' H' v g i => q G' H' v (R.g.trans g) i⟩
theorem evs_if {c : Expr} {a b : List Stmt} {pos : Pos} {k : Bool} (hc : EvT L X c S k) (h1 : k = true → EvB L X a S o) (h2 : k = false → EvB L X b S o) : EvS L X (.If c a b pos) S o := by
  cases k with
  | true => exact PS.imp (ps_if hc (h1 rfl) (never_ss b)) fun D σ H ⟨B, G, R, q⟩ => ⟨G, R.r, fun G' H' g => iteT ⟨B, G', R.grow g, q.sub g.gg⟩⟩
  | false => exact PS.imp (ps_if hc (never_ss a) (h2 rfl)) fun D σ H ⟨B, G, R, q⟩ => ⟨G, R.r, fun G' H' g => iteF ⟨B, G', R.grow g, q.sub g.gg⟩⟩
theorem evs_ifT {c : Expr} {a b : List Stmt} {pos : Pos} (hc : EvT L X c S true) (h1 : EvB L X a S o) : EvS L X (.If c a b pos) S o := evs_if hc (fun _ => h1) (fun z => by cases z)
theorem evs_ifF {c : Expr} {a b : List Stmt} {pos : Pos} (hc : EvT L X c S false) (h1 : EvB L X b S o) : EvS L X (.If c a b pos) S o := evs_if hc (fun z => by cases z) (fun _ => h1)
/-! ### slots -/
theorem owns_set {i j : Nat} {d : D} (h : Owns (S.set i (.val d)) j) : Owns S j ∧ i ≠ j := by
  obtain ⟨s, e, hs⟩ := h
  by_cases q : i = j
  · subst q
    by_cases hl : i < S.length
    · rw [List.getElem?_set_self hl] at e
      cases e
      rcases hs with ⟨_, z⟩ | ⟨_, _, z⟩ <;> cases z
    · rw [List.getElem?_eq_none (by rw [List.length_set]; omega)] at e
      cases e
  · rw [List.getElem?_set_ne q] at e
    exact ⟨⟨s, e, hs⟩, q⟩
theorem RepV.setv {σ : L2.St} {H G : Hp} {i : Nat} {d : D} {v : V} (R : RepV L S σ H G) (h : Is L G d v) : RepV L (S.set i (.val d)) (σ.set i (some v)) H G where
  len := by rw [List.length_set, List.length_set, R.len]
  sub := R.sub
  tabs := R.tabs
  val := fun j d' e => by
    by_cases q : i = j
    · subst q
      by_cases hl : i < S.length
      · rw [List.getElem?_set_self hl] at e
        cases e
        exact ⟨v, by rw [List.getElem?_set_self (by rw [← R.len]; exact hl)], h⟩
      · rw [List.getElem?_eq_none (by rw [List.length_set]; omega)] at e
        cases e
    · rw [List.getElem?_set_ne q] at e ⊢
      exact R.val j d' e
  own := fun j xs e => by
    obtain ⟨_, q⟩ := owns_set ⟨_, e, .inl ⟨xs, rfl⟩⟩
    rw [List.getElem?_set_ne q] at e ⊢
    exact R.own j xs e
  inst := fun j C fs e => by
    obtain ⟨_, q⟩ := owns_set ⟨_, e, .inr ⟨C, fs, rfl⟩⟩
    rw [List.getElem?_set_ne q] at e ⊢
    exact R.inst j C fs e
  dist := fun a b l ha hb e1 e2 => by
    obtain ⟨o1, q1⟩ := owns_set ha
    obtain ⟨o2, q2⟩ := owns_set hb
    rw [List.getElem?_set_ne q1] at e1
    rw [List.getElem?_set_ne q2] at e2
    exact R.dist a b l o1 o2 e1 e2
theorem Rep.setv {B : Bs} {σ : L2.St} {H G : Hp} {i : Nat} {d : D} {v : V} (R : Rep L B S σ H G) (h : Is L G d v) : Rep L B (S.set i (.val d)) (σ.set i (some v)) H G :=
  ⟨R.r.setv h, R.g, fun j l ho e => by
    obtain ⟨o1, q1⟩ := owns_set ho
    rw [List.getElem?_set_ne q1] at e
    exact R.o j l o1 e⟩
/-- weaker slots -/
inductive Weak : SlS → SlS → Prop
  | nil : Weak [] []
  | same {s : Sl} {a b : SlS} (h : Weak a b) : Weak (s :: a) (s :: b)
  | any {s : Sl} {a b : SlS} (h : Weak a b) : Weak (s :: a) (.any :: b)
theorem Weak.len : ∀ {a b : SlS}, Weak a b → a.length = b.length
  | _, _, .nil => rfl
  | _, _, .same h => congrArg Nat.succ h.len
  | _, _, .any h => congrArg Nat.succ h.len
theorem Weak.get : ∀ {a b : SlS} {i : Nat} {s : Sl}, Weak a b → b[i]? = some s → s = .any ∨ a[i]? = some s
  | _, _, 0, _, .same h, e => by simp at e; subst e; exact .inr (by simp)
  | _, _, 0, _, .any h, e => by simp at e; exact .inl e.symm
  | _, _, i + 1, s, .same h, e => by
    rcases Weak.get (i := i) (s := s) h (by simpa using e) with q | q
    · exact .inl q
    · exact .inr (by simpa using q)
  | _, _, i + 1, s, .any h, e => by
    rcases Weak.get (i := i) (s := s) h (by simpa using e) with q | q
    · exact .inl q
    · exact .inr (by simpa using q)
  | _, _, 0, _, .nil, e => by simp at e
  | _, _, _ + 1, _, .nil, e => by simp at e
theorem Weak.owns {a b : SlS} {i : Nat} (h : Weak a b) (ho : Owns b i) : Owns a i := by
  obtain ⟨s, e, hs⟩ := ho
  rcases h.get e with q | q
  · subst q
    rcases hs with ⟨_, z⟩ | ⟨_, _, z⟩ <;> cases z
  · exact ⟨s, q, hs⟩
theorem RepV.weak {a b : SlS} {σ : L2.St} {H G : Hp} (h : Weak a b) (R : RepV L a σ H G) : RepV L b σ H G where
  len := by rw [← h.len]; exact R.len
  sub := R.sub
  tabs := R.tabs
  val := fun i d e => by
    rcases h.get e with q | q
    · cases q
    · exact R.val i d q
  own := fun i d e => by
    rcases h.get e with q | q
    · cases q
    · exact R.own i d q
  inst := fun i C fs e => by
    rcases h.get e with q | q
    · cases q
    · exact R.inst i C fs q
  dist := fun i j l h1 h2 => R.dist i j l (h.owns h1) (h.owns h2)
theorem Rep.weak {B : Bs} {a b : SlS} {σ : L2.St} {H G : Hp} (h : Weak a b) (R : Rep L B a σ H G) : Rep L B b σ H G := ⟨R.r.weak h, R.g, fun i l ho => R.o i l (h.owns ho)⟩
/-- at the end of a block: forget -/
theorem evb_weak {sts : List Stmt} {S1 S2 : SlS} (h : EvB L X sts S (.nx S1)) (w : Weak S1 S2) : EvB L X sts S (.nx S2) :=
  PSs.imp h fun D σ H ⟨B, G, R, q⟩ => ⟨B, G, R, fun σ' H' G' s R' => q σ' H' G' s (R'.weak w)⟩
theorem evs_weak {S1 S2 : SlS} (h : EvS L X st S (.nx S1)) (w : Weak S1 S2) : EvS L X st S (.nx S2) :=
  PS.imp h fun D σ H ⟨B, G, R, q⟩ => ⟨B, G, R, fun σ' H' G' s R' => q σ' H' G' s (R'.weak w)⟩
/-- at the start of a block: forget -/
theorem evb_pre {sts : List Stmt} {S1 : SlS} (w : Weak S S1) (h : EvB L X sts S1 o) : EvB L X sts S o :=
  PSs.imp h fun D σ H ⟨B, G, R, q⟩ => ⟨B, G, R.weak w, q⟩
theorem evs_pre {S1 : SlS} (w : Weak S S1) (h : EvS L X st S1 o) : EvS L X st S o :=
  PS.imp h fun D σ H ⟨B, G, R, q⟩ => ⟨B, G, R.weak w, q⟩
/-! ### storing -/
theorem evs_set (i : Nat) {x : Str} {e : Expr} {pos pos' : Pos} {d : D} (he : EvE L X e S d) (hN : X.N.Nodup) (hi : X.N[i]? = some x := by rfl) (hx : Loc X.env.scope x := by first | exact Or.inl rfl | exact Or.inr rfl) (hs : swapsWith e (some (.Name x pos')) pos.line X.env = pure false := by rfl)
    (hf : X.fn x = true ∨ X.env.scope.names.lookup x = some .local := by first | exact .inl rfl | exact .inr rfl) : EvS L X (.Assign [.Name x pos'] e pos) S (.nx (S.set i (.val d))) :=
  PS.imp (ps_set hN hi hx he hs hf) fun D σ H ⟨B, G, R, q⟩ => ⟨G, R.r, fun G' H' v g h => q _ _ G' g.gg ((R.grow g).setv h)⟩
/-! ### own lists -/
theorem owns_seto {i j : Nat} {s0 : Sl} (h : Owns (S.set i s0) j) : i = j ∨ (Owns S j ∧ i ≠ j) := by
  by_cases q : i = j
  · exact .inl q
  · obtain ⟨s, e, hs⟩ := h
    rw [List.getElem?_set_ne q] at e
    exact .inr ⟨⟨s, e, hs⟩, q⟩
theorem RepV.owned {σ : L2.St} {H G : Hp} {j : Nat} {l : Addr} (R : RepV L S σ H G) (h : Owns S j) (e : σ[j]? = some (some (.ref l))) : (∃ o, H l = some o ∧ ((∃ vs, o = .lst vs) ∨ ∃ C dx fs, o = .ins C dx fs)) ∧ G l = none := by
  obtain ⟨s, e1, hs⟩ := h
  rcases hs with ⟨xs, rfl⟩ | ⟨C, fs, rfl⟩
  · obtain ⟨l', vs, h1, h2, h3, h4⟩ := R.own j xs e1
    rw [e] at h1
    cases h1
    exact ⟨⟨_, h2, .inl ⟨_, rfl⟩⟩, h3⟩
  · obtain ⟨l', dx, vs, h1, h2, h3, h4⟩ := R.inst j C fs e1
    rw [e] at h1
    cases h1
    exact ⟨⟨_, h2, .inr ⟨_, _, _, rfl⟩⟩, h3⟩
/-- a new own list in slot i -/
theorem Rep.setn {B : Bs} {σ : L2.St} {H G H' G' : Hp} {i : Nat} {xs : List D} {p : Addr} {vs : List V} (R : Rep L B S σ H G) (g : Grow L G H G' H') (hp : H p = none) (hp' : H' p = some (.lst vs)) (gp : G' p = none) (r : IsL L G' xs vs) :
    Rep L B (S.set i (.own xs)) (σ.set i (some (.ref p))) H' G' := by
  have R' := R.grow g
  have nop : ∀ j, Owns S j → σ[j]? = some (some (.ref p)) → False := fun j ho e => by
    obtain ⟨⟨o, e1, _⟩, _⟩ := R.r.owned ho e
    rw [hp] at e1
    cases e1
  have nB : B.H p = none := R.g.back hp
  have at_i : ∀ s0 : Sl, (S.set i (.own xs))[i]? = some s0 → i < S.length ∧ s0 = .own xs := fun s0 e => by
    by_cases hl : i < S.length
    · rw [List.getElem?_set_self hl] at e
      cases e
      exact ⟨hl, rfl⟩
    · rw [List.getElem?_eq_none (by rw [List.length_set]; omega)] at e
      cases e
  have si : i < S.length → (σ.set i (some (V.ref p)))[i]? = some (some (.ref p)) := fun hl => by rw [List.getElem?_set_self (by rw [← R.r.len]; exact hl)]
  refine ⟨⟨by rw [List.length_set, List.length_set, R.r.len], R'.r.sub, R'.r.tabs, fun j d e => ?_, fun j ys e => ?_, fun j C fs e => ?_, fun a b l ha hb e1 e2 => ?_⟩, R'.g, fun j l ho e => ?_⟩
  · by_cases q : i = j
    · subst q
      obtain ⟨_, z⟩ := at_i _ e
      cases z
    · rw [List.getElem?_set_ne q] at e ⊢
      exact R'.r.val j d e
  · by_cases q : i = j
    · subst q
      obtain ⟨hl, z⟩ := at_i _ e
      cases z
      exact ⟨p, vs, si hl, hp', gp, r⟩
    · rw [List.getElem?_set_ne q] at e ⊢
      exact R'.r.own j ys e
  · by_cases q : i = j
    · subst q
      obtain ⟨_, z⟩ := at_i _ e
      cases z
    · rw [List.getElem?_set_ne q] at e ⊢
      exact R'.r.inst j C fs e
  · rcases owns_seto ha with qa | ⟨oa, qa⟩
    · rcases owns_seto hb with qb | ⟨ob, qb⟩
      · exact qa.symm.trans qb
      · subst qa
        obtain ⟨s, es, _⟩ := ha
        rw [si (at_i _ es).1] at e1
        cases e1
        rw [List.getElem?_set_ne qb] at e2
        exact (nop b ob e2).elim
    · rw [List.getElem?_set_ne qa] at e1
      rcases owns_seto hb with qb | ⟨ob, qb⟩
      · subst qb
        obtain ⟨s, es, _⟩ := hb
        rw [si (at_i _ es).1] at e2
        cases e2
        exact (nop a oa e1).elim
      · rw [List.getElem?_set_ne qb] at e2
        exact R.r.dist a b l oa ob e1 e2
  · rcases owns_seto ho with q | ⟨o1, q⟩
    · subst q
      obtain ⟨s, es, _⟩ := ho
      rw [si (at_i _ es).1] at e
      cases e
      exact nB
    · rw [List.getElem?_set_ne q] at e
      exact R.o j l o1 e
theorem evs_setn (i : Nat) {x : Str} {e : Expr} {pos pos' : Pos} {xs : List D} (he : EvN L X e S xs) (hN : X.N.Nodup) (hi : X.N[i]? = some x := by rfl) (hx : Loc X.env.scope x := by first | exact Or.inl rfl | exact Or.inr rfl) (hs : swapsWith e (some (.Name x pos')) pos.line X.env = pure false := by rfl)
    (hf : X.fn x = true ∨ X.env.scope.names.lookup x = some .local := by first | exact .inl rfl | exact .inr rfl) : EvS L X (.Assign [.Name x pos'] e pos) S (.nx (S.set i (.own xs))) :=
  PS.imp (ps_set hN hi hx he hs hf) fun D σ H ⟨B, G, R, q⟩ => ⟨G, R.r, fun G' H' p vs g hp hp' gp r => q _ _ G' g.gg (R.setn g hp hp' gp r)⟩
/-- the own list in slot i is changed -/
theorem Rep.chg {B : Bs} {σ : L2.St} {H G : Hp} {i : Nat} {xs ys : List D} {l : Addr} {ws : List V} (R : Rep L B S σ H G) (hs : S[i]? = some (.own xs)) (hl : σ[i]? = some (some (.ref l))) (r : IsL L G ys ws) :
    Rep L B (S.set i (.own ys)) σ (upd H l (.lst ws)) G := by
  obtain ⟨l', vs, e1, hH, gl, _⟩ := R.r.own i xs hs
  rw [hl] at e1
  cases e1
  have oi : Owns S i := ⟨_, hs, .inl ⟨xs, rfl⟩⟩
  have hil : i < S.length := (List.getElem?_eq_some_iff.mp hs).1
  have Bl : B.H l = none := R.o i l oi hl
  have ow : ∀ j, Owns (S.set i (.own ys)) j → Owns S j := fun j h => by
    rcases owns_seto h with q | ⟨q, _⟩
    · subst q; exact oi
    · exact q
  have keep : ∀ a u, a ≠ l → H a = some u → upd H l (.lst ws) a = some u := fun a u n e => by rw [upd_ne n]; exact e
  have sub : Sub G (upd H l (.lst ws)) := fun a u e => keep a u (ne_of_none e gl) (R.r.sub a u e)
  have tabs : ∀ {T : List (Addr × Str)}, Tabs T H → Tabs T (upd H l (.lst ws)) := fun t => tabs_keep t fun a u e n1 _ => keep a u (by
    rintro rfl
    rw [hH] at e
    cases e
    exact n1 _ rfl) e
  refine ⟨⟨by rw [List.length_set]; exact R.r.len, sub, ⟨tabs R.r.tabs.t, R.r.tabs.n⟩, fun j d e => ?_, fun j zs e => ?_, fun j C fs e => ?_, fun a b m ha hb => R.r.dist a b m (ow a ha) (ow b hb)⟩, ?_, fun j m ho => R.o j m (ow j ho)⟩
  · by_cases q : i = j
    · subst q
      rw [List.getElem?_set_self hil] at e
      cases e
    · rw [List.getElem?_set_ne q] at e
      exact R.r.val j d e
  · by_cases q : i = j
    · subst q
      rw [List.getElem?_set_self hil] at e
      cases e
      exact ⟨l, ws, hl, upd_same, gl, r⟩
    · rw [List.getElem?_set_ne q] at e
      obtain ⟨m, vs', h1, h2, h3, h4⟩ := R.r.own j zs e
      refine ⟨m, vs', h1, keep m _ (fun z => q ?_) h2, h3, h4⟩
      subst z
      exact R.r.dist i j m oi ⟨_, e, .inl ⟨_, rfl⟩⟩ hl h1
  · by_cases q : i = j
    · subst q
      rw [List.getElem?_set_self hil] at e
      cases e
    · rw [List.getElem?_set_ne q] at e
      obtain ⟨m, dx, vs', h1, h2, h3, h4⟩ := R.r.inst j C fs e
      refine ⟨m, dx, vs', h1, keep m _ (fun z => q ?_) h2, h3, h4⟩
      subst z
      exact R.r.dist i j m oi ⟨_, e, .inr ⟨_, _, rfl⟩⟩ hl h1
  · exact ⟨R.g.gg, fun a u e nt => keep a u (ne_of_none e Bl) (R.g.hh a u e nt), sub, R.g.fr, fun t => tabs (R.g.tb t), R.g.nt, fun a ps e => by
      obtain ⟨ps', e2⟩ := R.g.tt a ps e
      exact ⟨ps', keep a _ (ne_of_none e Bl) e2⟩⟩
theorem own_at {σ : L2.St} {H G : Hp} {i : Nat} {xs : List D} (R : RepV L S σ H G) (hs : S[i]? = some (.own xs)) : ∃ l vs, σ[i]? = some (some (.ref l)) ∧ H l = some (.lst vs) ∧ G l = none ∧ IsL L G xs vs := R.own i xs hs
/-- xs.append(e), xs an own list -/
theorem evs_append (i : Nat) {x : Str} {e : Expr} {p1 p2 p3 pos : Pos} {xs : List D} {d : D} (he : EvE L X e S d) (hs : S[i]? = some (.own xs) := by rfl) (hz : xs.length ≤ 100000) (hN : X.N[i]? = some x := by rfl) (hv : Vis X.env.scope x := by first | exact Or.inl rfl | exact Or.inr (Or.inl rfl) | exact Or.inr (Or.inr rfl))
    (hd : (x == ("__debug__" : Str)) = false := by decide) (hcd : (x == ("__classdict__" : Str)) = false := by decide) (hst : starEach (e :: []) X.env = (false, eval e X.env) :: starEach [] X.env := by rfl)
    (hbase : attributeBase (.Name x p1) "append" X.env (eval (.Name x p1) X.env) = eval (.Name x p1) X.env := by rfl)
    (hfew : ((backTo p3 (starEach (e :: []) X.env)).all (fun x => !x.1) && (backToKw p3 (keywordEach [] X.env)).all (fun x => x.1.isSome) && decide ((e :: []).length + ([] : List Keyword).length + (if ([] : List Keyword).isEmpty then 0 else 1) < 30)) = true := by rfl)
    (hline : (p2.endLine == p3.line) = true := by rfl) (hw : swapsWith (.Call (.Attribute (.Name x p1) "append" p2) [e] [] p3) none pos.line X.env = pure false := by rfl) :
    EvS L X (.Expr (.Call (.Attribute (.Name x p1) "append" p2) [e] [] p3) pos) S (.nx (S.set i (.own (xs ++ [d])))) :=
  PS.imp (ps_expr (pe_bm PySem.F.plainAttrs_list PySem.F.slot_list_append PySem.F.type_list_append mt_append (pe_var hN hv hd hcd) (pa_cons he pa_nil hst) hbase hfew hline hst (by rfl)) hw) fun D σ H ⟨B, G, R, q⟩ => by
    obtain ⟨l, vs, h1, h2, h3, h4⟩ := R.r.own i xs hs
    refine ⟨.ref l, h1, .inl ⟨rfl, _, SqL.of h2⟩, G, R.r, fun G' H' v g h => ⟨l, vs, v, rfl, rfl, g.hh _ _ h2 (fun _ z => by cases z), by rw [← h4.length]; exact small_lt hz, ?_⟩⟩
    exact q σ _ G' g.gg ((R.grow g).chg hs h1 ((h4.mono g.gg).append (.cons h .nil)))
/-- xs.pop(), xs an own list -/
theorem evs_pop (i : Nat) {x : Str} {p1 p2 p3 pos : Pos} {xs : List D} (hs : S[i]? = some (.own xs) := by rfl) (hz : xs ≠ []) (hN : X.N[i]? = some x := by rfl) (hv : Vis X.env.scope x := by first | exact Or.inl rfl | exact Or.inr (Or.inl rfl) | exact Or.inr (Or.inr rfl))
    (hd : (x == ("__debug__" : Str)) = false := by decide) (hcd : (x == ("__classdict__" : Str)) = false := by decide)
    (hbase : attributeBase (.Name x p1) "pop" X.env (eval (.Name x p1) X.env) = eval (.Name x p1) X.env := by rfl)
    (hline : (p2.endLine == p3.line) = true := by rfl) (hw : swapsWith (.Call (.Attribute (.Name x p1) "pop" p2) [] [] p3) none pos.line X.env = pure false := by rfl) :
    EvS L X (.Expr (.Call (.Attribute (.Name x p1) "pop" p2) [] [] p3) pos) S (.nx (S.set i (.own xs.dropLast))) :=
  PS.imp (ps_expr (pe_bm0 PySem.F.plainAttrs_list PySem.F.slot_list_pop PySem.F.type_list_pop mt_pop (pe_var hN hv hd hcd) hbase hline) hw) fun D σ H ⟨B, G, R, q⟩ => by
    obtain ⟨l, vs, h1, h2, h3, h4⟩ := R.r.own i xs hs
    have hne : vs ≠ [] := fun z => hz (List.length_eq_zero_iff.mp (by rw [h4.length, z]; rfl))
    have hlt : vs.length - 1 < vs.length := Nat.sub_lt (List.length_pos_iff.mpr hne) (by decide)
    exact ⟨.ref l, h1, .inl ⟨rfl, _, SqL.of h2⟩, l, vs, vs[vs.length - 1], rfl, rfl, h2, List.getElem?_eq_getElem hlt, q σ _ G (fun _ _ e => e) (R.chg hs h1 h4.dropLast)⟩
/-- xs[k] = e, xs an own list -/
theorem evs_item (i : Nat) {x : Str} {e ix : Expr} {p1 p2 pos : Pos} {xs : List D} {d : D} {k : Int} {j : Nat} (he : EvE L X e S d) (hk : EvE L X ix S (.int k)) (hj : ixN xs.length k = some j) (hs : S[i]? = some (.own xs) := by rfl) (hN : X.N[i]? = some x := by rfl) (hv : Vis X.env.scope x := by first | exact Or.inl rfl | exact Or.inr (Or.inl rfl) | exact Or.inr (Or.inr rfl))
    (hd : (x == ("__debug__" : Str)) = false := by decide) (hcd : (x == ("__classdict__" : Str)) = false := by decide)
    (ha : ∀ v, assign (.Subscript (.Name x p1) ix p2) X.env v = (do
      let ov ← holding [v] (eval (.Name x p1) X.env)
      let iv ← holding [v, ov] (eval ix X.env)
      standAt p2
      holding [v, ov, iv] (setItem ov iv v)
      release [v, ov, iv] []) := by intro _; rfl)
    (h3 : swapsWithSole [.Subscript (.Name x p1) ix p2] e pos.line X.env = pure false := by rfl) (hw : swappedStores [.Subscript (.Name x p1) ix p2] e X.env = pure none := by rfl)
    (h1 : (assignEach [.Subscript (.Name x p1) ix p2] X.env).map (·.2) = [assign (.Subscript (.Name x p1) ix p2) X.env] := by rfl) :
    EvS L X (.Assign [.Subscript (.Name x p1) ix p2] e pos) S (.nx (S.set i (.own (xs.set j d)))) :=
  PS.imp (ps_asg he (pg_sub (pe_var hN hv hd hcd) hk set_list ha) h3 hw h1) fun D σ H ⟨B, G, R, q⟩ => by
    refine ⟨G, R.r, fun G1 H1 v g1 h => ?_⟩
    have R1 := R.grow g1
    obtain ⟨l, vs, h1, h2, h3, h4⟩ := R1.r.own i xs hs
    refine ⟨.ref l, h1, G1, R1.r, fun G2 H2 w g2 i2 => ?_⟩
    have R2 := R1.grow g2
    refine ⟨l, vs, k, j, rfl, is_int i2, g2.hh _ _ h2 (fun _ z => by cases z), by rw [← h4.length]; exact hj, ?_⟩
    exact q σ _ G2 (fun a u e => g2.gg a u (g1.gg a u e)) (R2.chg hs h1 (IsL.set (h.mono g2.gg) j (h4.mono g2.gg)))
/-- an own list is told -/
theorem Rep.frz {B : Bs} {σ : L2.St} {H G : Hp} {i : Nat} {xs : List D} {l : Addr} {vs : List V} (R : Rep L B S σ H G) (hs : S[i]? = some (.own xs)) (hl : σ[i]? = some (some (.ref l))) (hH : H l = some (.lst vs)) (gl : G l = none) (r : IsL L G xs vs) :
    Rep L B (S.set i (.val (.lst xs))) σ H (upd G l (.lst vs)) := by
  have oi : Owns S i := ⟨_, hs, .inl ⟨xs, rfl⟩⟩
  have hil : i < S.length := (List.getElem?_eq_some_iff.mp hs).1
  have Bl : B.H l = none := R.o i l oi hl
  have sub : Sub (upd G l (.lst vs)) H := fun a u e => by
    by_cases q : a = l
    · subst q; rw [upd_same] at e; cases e; exact hH
    · rw [upd_ne q] at e; exact R.r.sub a u e
  have up : Sub G (upd G l (.lst vs)) := upd_sub gl
  refine ⟨⟨by rw [List.length_set]; exact R.r.len, sub, R.r.tabs.upd (fun ps z => by cases z), fun j d e => ?_, fun j zs e => ?_, fun j C fs e => ?_, fun a b m ha hb => R.r.dist a b m (owns_set ha).1 (owns_set hb).1⟩, ?_, fun j m ho => R.o j m (owns_set ho).1⟩
  · by_cases q : i = j
    · subst q
      rw [List.getElem?_set_self hil] at e
      cases e
      exact ⟨_, hl, .lst upd_same (r.mono up)⟩
    · rw [List.getElem?_set_ne q] at e
      obtain ⟨v, h1, h2⟩ := R.r.val j d e
      exact ⟨v, h1, h2.mono up⟩
  · obtain ⟨_, q⟩ := owns_set ⟨_, e, .inl ⟨zs, rfl⟩⟩
    rw [List.getElem?_set_ne q] at e
    obtain ⟨m, vs', h1, h2, h3, h4⟩ := R.r.own j zs e
    refine ⟨m, vs', h1, h2, ?_, h4.mono up⟩
    rw [upd_ne]
    · exact h3
    · intro z
      subst z
      exact q (R.r.dist i j m oi ⟨_, e, .inl ⟨_, rfl⟩⟩ hl h1)
  · obtain ⟨_, q⟩ := owns_set ⟨_, e, .inr ⟨C, fs, rfl⟩⟩
    rw [List.getElem?_set_ne q] at e
    obtain ⟨m, dx, vs', h1, h2, h3, h4, h5⟩ := R.r.inst j C fs e
    refine ⟨m, dx, vs', h1, h2, ?_, h4.mono up, h5⟩
    rw [upd_ne]
    · exact h3
    · intro z
      subst z
      exact q (R.r.dist i j m oi ⟨_, e, .inr ⟨_, _, rfl⟩⟩ hl h1)
  · refine ⟨fun a u e => up a u (R.g.gg a u e), R.g.hh, sub, fun a h1 h2 => ?_, R.g.tb, fun n => (R.g.nt n).upd (fun ps z => by cases z), R.g.tt⟩
    rw [upd_ne]
    · exact R.g.fr a h1 h2
    · rintro rfl
      exact h2 Bl
theorem evb_frz (i : Nat) {sts : List Stmt} {xs : List D} (hs : S[i]? = some (.own xs) := by rfl) (h : EvB L X sts (S.set i (.val (.lst xs))) o) : EvB L X sts S o :=
  PSs.imp h fun D σ H ⟨B, G, R, q⟩ => by
    obtain ⟨l, vs, h1, h2, h3, h4⟩ := R.r.own i xs hs
    exact ⟨B, _, R.frz hs h1 h2 h3 h4, q.sub (upd_sub h3)⟩
theorem evs_frz (i : Nat) {xs : List D} (hs : S[i]? = some (.own xs) := by rfl) (h : EvS L X st (S.set i (.val (.lst xs))) o) : EvS L X st S o :=
  PS.imp h fun D σ H ⟨B, G, R, q⟩ => by
    obtain ⟨l, vs, h1, h2, h3, h4⟩ := R.r.own i xs hs
    exact ⟨B, _, R.frz hs h1 h2 h3 h4, q.sub (upd_sub h3)⟩
/-- x += e, numbers -/
theorem evs_aug (i : Nat) {x : Str} {e : Expr} {pos pos' : Pos} {m n : Int} (he : EvE L X e S (.int n)) (hs : S[i]? = some (.val (.int m)) := by rfl) (hN : X.N.Nodup) (hi : X.N[i]? = some x := by rfl) (hx : Loc X.env.scope x := by first | exact Or.inl rfl | exact Or.inr rfl)
    (hf : X.fn x = true ∨ X.env.scope.names.lookup x = some .local := by first | exact .inl rfl | exact .inr rfl) : EvS L X (.AugAssign (.Name x pos') .Add e pos) S (.nx (S.set i (.val (.int (m + n))))) :=
  PS.imp (ps_aug hN hi hx he ip_add hf) fun D σ H ⟨B, G, R, q⟩ => by
    obtain ⟨v, h1, h2⟩ := R.r.val i _ hs
    exact ⟨v, h1, G, R.r, fun G' H' w g h => ⟨m, n, is_int h2, is_int h, q _ _ G' g.gg ((R.grow g).setv (.int _))⟩⟩
/-- a, b = x, y, plain local names -/
theorem evs_par (i j : Nat) {x y : Str} {a b : Expr} {px py pt : Pos} {kt k2 : Nat} {pt2 pos : Pos} {d1 d2 : D} (ha : EvA L X [a, b] S [d1, d2]) (hc : X.calm = true) (hN : X.N.Nodup) (hij : i ≠ j) (hi : X.N[i]? = some x := by rfl) (hj : X.N[j]? = some y := by rfl)
    (hx : X.env.scope.names.lookup x = some .local := by rfl) (hy : X.env.scope.names.lookup y = some .local := by rfl)
    (hw : swappedStores [.Tuple [.Name x px, .Name y py] kt pt] (.Tuple [a, b] k2 pt2) X.env = pure (some [x, y]) := by rfl)
    (hs : swapsWithSole [.Tuple [.Name x px, .Name y py] kt pt] (.Tuple [a, b] k2 pt2) pos.line X.env = pure false := by rfl) :
    EvS L X (.Assign [.Tuple [.Name x px, .Name y py] kt pt] (.Tuple [a, b] k2 pt2) pos) S (.nx ((S.set i (.val d1)).set j (.val d2))) :=
  PS.imp (ps_par hc hN hi hj hij hx hy ha hw hs) fun D σ H ⟨B, G, R, q⟩ => ⟨G, R.r, fun G' H' vs g h => by
    cases h with
    | cons h1 r =>
      cases r with
      | cons h2 r =>
        cases r
        exact ⟨_, _, rfl, q _ _ G' g.gg (((R.grow g).setv h1).setv h2)⟩⟩
/-! ### targets -/
inductive Tg where
  | one (i : Nat)
  | two (i j : Nat)
  | tri (i j k : Nat)
def setT : Tg → D → SlS → Option SlS
  | .one i, d, S => some (S.set i (.val d))
  | .two i j, .tup [a, b], S => some ((S.set i (.val a)).set j (.val b))
  | .tri i j k, .tup [a, b, c], S => some (((S.set i (.val a)).set j (.val b)).set k (.val c))
  | _, _, _ => none
def tgG (K : PySem.W.Frag) : Tg → TG
  | .one i => gName i
  | .two i j => gTup K 2 (gCons (gName i) (gCons (gName j) gNil))
  | .tri i j k => gTup K 3 (gCons (gName i) (gCons (gName j) (gCons (gName k) gNil)))
theorem tgG_run {K : PySem.W.Frag} {B : Bs} {σ : L2.St} {H G : Hp} {t : Tg} {d : D} {v : V} {S1 : SlS} {Q : L2.St → Hp → Prop} (R : Rep L B S σ H G) (h : Is L G d v) (e : setT t d S = some S1) (q : ∀ σ', Rep L B S1 σ' H G → Q σ' H) : tgG K t v σ H Q := by
  cases t with
  | one i =>
    cases e
    exact q _ (R.setv h)
  | two i j =>
    cases h with
    | tup e1 r =>
      cases r with
      | nil => cases e
      | cons h1 r =>
        cases r with
        | nil => cases e
        | cons h2 r =>
          cases r with
          | nil =>
            cases e
            exact ⟨_, _, rfl, SqT.of (R.r.sub _ _ e1), rfl, _, _, rfl, _, _, rfl, rfl, q _ ((R.setv h1).setv h2)⟩
          | cons h3 r => cases e
    | _ => cases e
  | tri i j k =>
    cases h with
    | tup e1 r =>
      cases r with
      | nil => cases e
      | cons h1 r =>
        cases r with
        | nil => cases e
        | cons h2 r =>
          cases r with
          | nil => cases e
          | cons h3 r =>
            cases r with
            | nil =>
              cases e
              exact ⟨_, _, rfl, SqT.of (R.r.sub _ _ e1), rfl, _, _, rfl, _, _, rfl, _, _, rfl, rfl, q _ (((R.setv h1).setv h2).setv h3)⟩
            | cons h4 r => cases e
    | _ => cases e
theorem tgG_runV {K : PySem.W.Frag} {σ : L2.St} {H G : Hp} {t : Tg} {d : D} {v : V} {S1 : SlS} {Q : L2.St → Hp → Prop} (R : RepV L S σ H G) (h : Is L G d v) (e : setT t d S = some S1) (q : ∀ σ', RepV L S1 σ' H G → σ'.length = σ.length → Q σ' H) : tgG K t v σ H Q := by
  cases t with
  | one i =>
    cases e
    exact q _ (R.setv h) (by rw [List.length_set])
  | two i j =>
    cases h with
    | tup e1 r =>
      cases r with
      | nil => cases e
      | cons h1 r =>
        cases r with
        | nil => cases e
        | cons h2 r =>
          cases r with
          | nil =>
            cases e
            exact ⟨_, _, rfl, SqT.of (R.sub _ _ e1), rfl, _, _, rfl, _, _, rfl, rfl, q _ ((R.setv h1).setv h2) (by rw [List.length_set, List.length_set])⟩
          | cons h3 r => cases e
    | _ => cases e
  | tri i j k =>
    cases h with
    | tup e1 r =>
      cases r with
      | nil => cases e
      | cons h1 r =>
        cases r with
        | nil => cases e
        | cons h2 r =>
          cases r with
          | nil => cases e
          | cons h3 r =>
            cases r with
            | nil =>
              cases e
              exact ⟨_, _, rfl, SqT.of (R.sub _ _ e1), rfl, _, _, rfl, _, _, rfl, _, _, rfl, rfl, q _ (((R.setv h1).setv h2).setv h3) (by rw [List.length_set, List.length_set, List.length_set])⟩
            | cons h4 r => cases e
    | _ => cases e
def EvG (X : Cx) (tg : Expr) (t : Tg) : Prop := PG X tg (tgG X.K t)
theorem evg_one (i : Nat) {x : Str} {pos : Pos} (hN : X.N.Nodup) (hi : X.N[i]? = some x := by rfl) (hx : Loc X.env.scope x := by first | exact Or.inl rfl | exact Or.inr rfl) (hf : X.fn x = true ∨ X.env.scope.names.lookup x = some .local := by first | exact .inl rfl | exact .inr rfl) : EvG X (.Name x pos) (.one i) := pg_name hN hi hx hf
theorem evg_two (i j : Nat) {x y : Str} {p1 p2 pos : Pos} {k : Nat} (hc : X.calm = true) (hN : X.N.Nodup) (hi : X.N[i]? = some x := by rfl) (hx : Loc X.env.scope x := by first | exact Or.inl rfl | exact Or.inr rfl) (hf : X.fn x = true ∨ X.env.scope.names.lookup x = some .local := by first | exact .inl rfl | exact .inr rfl)
    (hj : X.N[j]? = some y := by rfl) (hy : Loc X.env.scope y := by first | exact Or.inl rfl | exact Or.inr rfl) (hg : X.fn y = true ∨ X.env.scope.names.lookup y = some .local := by first | exact .inl rfl | exact .inr rfl) : EvG X (.Tuple [.Name x p1, .Name y p2] k pos) (.two i j) :=
  pg_tup hc (pgs_cons (pg_name hN hi hx hf) (pgs_cons (pg_name hN hj hy hg) pgs_nil))
theorem evg_tri (i j l : Nat) {x y z : Str} {p1 p2 p3 pos : Pos} {k : Nat} (hc : X.calm = true) (hN : X.N.Nodup) (hi : X.N[i]? = some x := by rfl) (hx : Loc X.env.scope x := by first | exact Or.inl rfl | exact Or.inr rfl) (hf : X.fn x = true ∨ X.env.scope.names.lookup x = some .local := by first | exact .inl rfl | exact .inr rfl)
    (hj : X.N[j]? = some y := by rfl) (hy : Loc X.env.scope y := by first | exact Or.inl rfl | exact Or.inr rfl) (hg : X.fn y = true ∨ X.env.scope.names.lookup y = some .local := by first | exact .inl rfl | exact .inr rfl)
    (hl : X.N[l]? = some z := by rfl) (hz : Loc X.env.scope z := by first | exact Or.inl rfl | exact Or.inr rfl) (hh : X.fn z = true ∨ X.env.scope.names.lookup z = some .local := by first | exact .inl rfl | exact .inr rfl) : EvG X (.Tuple [.Name x p1, .Name y p2, .Name z p3] k pos) (.tri i j l) :=
  pg_tup hc (pgs_cons (pg_name hN hi hx hf) (pgs_cons (pg_name hN hj hy hg) (pgs_cons (pg_name hN hl hz hh) pgs_nil)))
/-- a, b = e, e a tuple -/
theorem evs_unpack {tg e : Expr} {t : Tg} {pos : Pos} {d : D} {S1 : SlS} (he : EvE L X e S d) (hg : EvG X tg t) (ht : setT t d S = some S1 := by rfl) (h3 : swapsWithSole [tg] e pos.line X.env = pure false := by rfl) (hw : swappedStores [tg] e X.env = pure none := by rfl)
    (h1 : (assignEach [tg] X.env).map (·.2) = [assign tg X.env] := by rfl) : EvS L X (.Assign [tg] e pos) S (.nx S1) :=
  PS.imp (ps_asg he hg h3 hw h1) fun D σ H ⟨B, G, R, q⟩ => ⟨G, R.r, fun G' H' v g h => tgG_run (R.grow g) h ht fun σ' R' => q σ' H' G' g.gg R'⟩
end
end FM
set_option autoImplicit false
namespace FM
open PySem PySem.Spec PyProof.Rows L2 LamX
/-! ## what is walked -/
def ItOk (L : Lc) (J : It) (G : Hp) (ds : List D) : Prop := ∀ (i : Nat) (G' H' : Hp), Sub G G' → Sub G' H' →
  (∀ d, ds[i]? = some d → J.go i H' ∧ ∀ x H'', J.yld i H' x H'' → ∃ G'', Grow L G' H' G'' H'' ∧ Is L G'' d x) ∧ (ds.length ≤ i → J.stop i H')
def TIt (L : Lc) (S : SlS) (ds : List D) : TI := fun σ H R => ∃ G, RepV L S σ H G ∧ ∀ G' H' J, Grow L G H G' H' → ItOk L J G' ds → R J H'
def EvI (L : Lc) (X : Cx) (tg iter : Expr) (S : SlS) (ds : List D) : Prop := PI X tg iter (TIt L S ds)
theorem sqL_inj {K : PySem.W.Frag} {H : Hp} {a : Addr} {vs xs : List V} (h : H a = some (.lst vs)) : SqL K H a vs := SqL.of h
section
variable {L : Lc} {X : Cx} {S : SlS} {tg e a b c : Expr} {p pos : Pos}
theorem evi_list {xs : List D} (h : EvE L X e S (.lst xs)) : EvI L X tg e S xs :=
  PI.imp (pi_list h) fun σ H R ⟨G, Rr, q⟩ => ⟨G, Rr, fun G1 H1 v g1 i1 => by
    cases i1 with
    | @lst l _ vs e r =>
      refine ⟨_, rfl, ⟨_, SqL.of (g1.gh _ _ e)⟩, q G1 H1 _ g1 fun i G' H' s1 s2 => ⟨fun d hd => ?_, fun hl => ⟨vs, SqL.of (s2 _ _ (s1 _ _ e)), by rw [← r.length]; exact hl⟩⟩⟩
      obtain ⟨v, e1, e2⟩ := r.get hd
      have sq : SqL X.K H' l vs := SqL.of (s2 _ _ (s1 _ _ e))
      refine ⟨⟨vs, v, sq, e1⟩, fun x H'' y => ?_⟩
      obtain ⟨rfl, y⟩ := y
      have q1 := y vs sq
      rw [e1] at q1
      cases q1
      exact ⟨G', .refl s2, e2.mono s1⟩⟩
theorem evi_tup {xs : List D} (h : EvE L X e S (.tup xs)) : EvI L X tg e S xs :=
  PI.imp (pi_tup h) fun σ H R ⟨G, Rr, q⟩ => ⟨G, Rr, fun G1 H1 v g1 i1 => by
    cases i1 with
    | @tup l _ vs e r =>
      refine ⟨_, rfl, ⟨_, SqT.of (g1.gh _ _ e)⟩, q G1 H1 _ g1 fun i G' H' s1 s2 => ⟨fun d hd => ?_, fun hl => ⟨vs, SqT.of (s2 _ _ (s1 _ _ e)), by rw [← r.length]; exact hl⟩⟩⟩
      obtain ⟨v, e1, e2⟩ := r.get hd
      have sq : SqT X.K H' l vs := SqT.of (s2 _ _ (s1 _ _ e))
      refine ⟨⟨vs, v, sq, e1⟩, fun x H'' y => ?_⟩
      obtain ⟨rfl, y⟩ := y
      have q1 := y vs sq
      rw [e1] at q1
      cases q1
      exact ⟨G', .refl s2, e2.mono s1⟩⟩
/-- lo, lo + c, .. -/
def irng (lo c : Int) (n : Nat) : List D := (List.range n).map fun (i : Nat) => D.int (lo + (i : Int) * c)
theorem irng_get {lo c : Int} {n i : Nat} {d : D} (h : (irng lo c n)[i]? = some d) : i < n ∧ d = .int (lo + (i : Int) * c) := by
  unfold irng at h
  rw [List.getElem?_map] at h
  by_cases q : i < n
  · rw [List.getElem?_range q] at h
    exact ⟨q, (Option.some.inj h).symm⟩
  · rw [List.getElem?_eq_none (by rw [List.length_range]; omega)] at h
    cases h
theorem irng_len (lo c : Int) (n : Nat) : (irng lo c n).length = n := by
  unfold irng
  rw [List.length_map, List.length_range]
theorem itok_r {G : Hp} {lo : Int} {n : Nat} : ItOk L (Itr lo n) G (irng lo 1 n) := fun i G' H' s1 s2 => ⟨fun d hd => by
    obtain ⟨h1, rfl⟩ := irng_get hd
    refine ⟨h1, fun x H'' y => ?_⟩
    obtain ⟨rfl, rfl⟩ := y
    exact ⟨G', .refl s2, by rw [Int.mul_one]; exact .int _⟩, fun hl => by rw [irng_len] at hl; exact hl⟩
theorem itok_c {G : Hp} {lo c : Int} {n : Nat} : ItOk L (Itc lo c n) G (irng lo c n) := fun i G' H' s1 s2 => ⟨fun d hd => by
    obtain ⟨h1, rfl⟩ := irng_get hd
    refine ⟨h1, fun x H'' y => ?_⟩
    obtain ⟨rfl, rfl⟩ := y
    exact ⟨G', .refl s2, .int _⟩, fun hl => by rw [irng_len] at hl; exact hl⟩
theorem evi_range1 {j : Int} (hm : X.mg "range" = none) (h : EvE L X a S (.int j)) (h1 : -100000 ≤ j ∧ j ≤ 100000) (hg : Gl X "range" := by rfl) (hs : starEach [a] X.env = [(false, eval a X.env)] := by rfl) : EvI L X tg (.Call (.Name "range" p) [a] [] pos) S (irng 0 1 j.toNat) :=
  PI.imp (pi_range1 hg hm (eva_cons h eva_nil hs) hs) fun σ H R ⟨G, Rr, q⟩ => ⟨G, Rr, fun G1 H1 vs g1 i1 => by
    cases i1 with
    | cons h r =>
      cases r
      exact ⟨j, by rw [is_int h], by omega, by omega, q G1 H1 _ g1 itok_r⟩⟩
theorem evi_range2 {i j : Int} (hm : X.mg "range" = none) (h : EvE L X a S (.int i)) (h' : EvE L X b S (.int j)) (h1 : -100000 ≤ i ∧ i ≤ 100000 ∧ -100000 ≤ j ∧ j ≤ 100000) (hg : Gl X "range" := by rfl)
    (hs : starEach [a, b] X.env = [(false, eval a X.env), (false, eval b X.env)] := by rfl) (hs2 : starEach [b] X.env = [(false, eval b X.env)] := by rfl) : EvI L X tg (.Call (.Name "range" p) [a, b] [] pos) S (irng i 1 (j - i).toNat) :=
  PI.imp (pi_range2 hg hm (eva_cons h (eva_cons h' eva_nil hs2) (by rw [hs, hs2])) hs hs2) fun σ H R ⟨G, Rr, q⟩ => ⟨G, Rr, fun G1 H1 vs g1 i1 => by
    cases i1 with
    | cons h r =>
      cases r with
      | cons h2 r =>
        cases r
        exact ⟨i, j, by rw [is_int h, is_int h2], ⟨by omega, by omega, by omega, by omega⟩, q G1 H1 _ g1 itok_r⟩⟩
/-- range(i, j, -1) -/
theorem evi_down {i j : Int} (hm : X.mg "range" = none) (h : EvE L X a S (.int i)) (h' : EvE L X b S (.int j)) (hc : EvE L X c S (.int (-1))) (h1 : -100000 ≤ i ∧ i ≤ 100000 ∧ -100000 ≤ j ∧ j ≤ 100000) (hg : Gl X "range" := by rfl)
    (hs : starEach [a, b, c] X.env = (false, eval a X.env) :: starEach [b, c] X.env := by rfl) (hs2 : starEach [b, c] X.env = (false, eval b X.env) :: starEach [c] X.env := by rfl) (hs3 : starEach [c] X.env = (false, eval c X.env) :: starEach [] X.env := by rfl)
    (hpl : (backTo pos (starEach [b, c] X.env)).any (·.1) = false := by rfl) : EvI L X tg (.Call (.Name "range" p) [a, b, c] [] pos) S (irng i (-1) (i - j).toNat) :=
  PI.imp (pi_range3 hg hm (eva_cons h (eva_cons h' (eva_cons hc eva_nil hs3) hs2) hs) hs hpl) fun σ H R ⟨G, Rr, q⟩ => ⟨G, Rr, fun G1 H1 vs g1 i1 => by
    cases i1 with
    | cons h r =>
      cases r with
      | cons h2 r =>
        cases r with
        | cons h3 r =>
          cases r
          exact ⟨i, j, -1, (i - j).toNat, by rw [is_int h, is_int h2, is_int h3], RgC.neg (by omega) (by omega) (by omega) (by omega), q G1 H1 _ g1 itok_c⟩⟩
/-- range(lo, hi, c), c positive -/
theorem evi_step {i j s : Int} {n : Nat} (hm : X.mg "range" = none) (h : EvE L X a S (.int i)) (h' : EvE L X b S (.int j)) (hc : EvE L X c S (.int s)) (h1 : RgC i j s n) (hg : Gl X "range" := by rfl)
    (hs : starEach [a, b, c] X.env = (false, eval a X.env) :: starEach [b, c] X.env := by rfl) (hs2 : starEach [b, c] X.env = (false, eval b X.env) :: starEach [c] X.env := by rfl) (hs3 : starEach [c] X.env = (false, eval c X.env) :: starEach [] X.env := by rfl)
    (hpl : (backTo pos (starEach [b, c] X.env)).any (·.1) = false := by rfl) : EvI L X tg (.Call (.Name "range" p) [a, b, c] [] pos) S (irng i s n) :=
  PI.imp (pi_range3 hg hm (eva_cons h (eva_cons h' (eva_cons hc eva_nil hs3) hs2) hs) hs hpl) fun σ H R ⟨G, Rr, q⟩ => ⟨G, Rr, fun G1 H1 vs g1 i1 => by
    cases i1 with
    | cons h r =>
      cases r with
      | cons h2 r =>
        cases r with
        | cons h3 r =>
          cases r
          exact ⟨i, j, s, n, by rw [is_int h, is_int h2, is_int h3], h1, q G1 H1 _ g1 itok_c⟩⟩
/-- reversed(xs), xs a list -/
theorem evi_rev {xs : List D} (hm : X.mg "reversed" = none) (h : EvE L X e S (.lst xs)) (hg : Gl X "reversed" := by rfl) (hs : starEach [e] X.env = (false, eval e X.env) :: starEach [] X.env := by rfl) : EvI L X tg (.Call (.Name "reversed" p) [e] [] pos) S xs.reverse :=
  PI.imp (RT.pi_revA hg hm h hs) fun σ H R ⟨G, Rr, q⟩ => ⟨G, Rr, fun G1 H1 v g1 i1 => by
    cases i1 with
    | @lst l _ vs e r =>
      refine ⟨_, vs, rfl, .inl ⟨SqL.of (g1.gh _ _ e), q G1 H1 _ g1 fun i G' H' s1 s2 => ⟨fun d hd => ?_, fun hl => by rw [List.length_reverse, r.length] at hl; exact hl⟩⟩⟩
      obtain ⟨v, e1, e2⟩ := r.reverse.get hd
      have hi : i < vs.length := by
        have := (List.getElem?_eq_some_iff.mp e1).1
        rw [List.length_reverse] at this
        exact this
      have e3 : vs[vs.length - 1 - i]? = some v := by rw [← List.getElem?_reverse hi]; exact e1
      have sq : SqL X.K H' l vs := SqL.of (s2 _ _ (s1 _ _ e))
      refine ⟨⟨hi, vs, v, sq, e3⟩, fun x H'' y => ?_⟩
      obtain ⟨rfl, y⟩ := y
      have q1 := y vs sq
      rw [e3] at q1
      cases q1
      exact ⟨G', .refl s2, e2.mono s1⟩⟩
/-- zip(xs, ys) -/
def zipD : List D → List D → List D
  | [], _ => []
  | _ :: _, [] => []
  | x :: xs, y :: ys => .tup [x, y] :: zipD xs ys
theorem zipD_get : ∀ {xs ys : List D} {i : Nat} {d : D}, (zipD xs ys)[i]? = some d → ∃ x y, xs[i]? = some x ∧ ys[i]? = some y ∧ d = .tup [x, y]
  | [], _, _, _, h => by cases h
  | _ :: _, [], _, _, h => by cases h
  | x :: xs, y :: ys, 0, d, h => ⟨x, y, rfl, rfl, (Option.some.inj h).symm⟩
  | x :: xs, y :: ys, i + 1, d, h => by
    obtain ⟨a, b, h1, h2, h3⟩ := zipD_get (xs := xs) (ys := ys) (i := i) (d := d) (by simpa [zipD] using h)
    exact ⟨a, b, by simpa using h1, by simpa using h2, h3⟩
theorem zipD_len : ∀ xs ys : List D, (zipD xs ys).length = min xs.length ys.length
  | [], ys => by rw [zipD]; simp
  | _ :: _, [] => by rw [zipD]; simp
  | x :: xs, y :: ys => by
    rw [zipD, List.length_cons, zipD_len xs ys, List.length_cons, List.length_cons]
    omega
theorem is_pair {G' H' : Hp} {x y : V} {dx dy : D} {T : Addr} (s2 : Sub G' H') (hT : H' T = none) (h1 : Is L G' dx x) (h2 : Is L G' dy y) : Grow L G' H' (upd G' T (.tup [x, y])) (upd H' T (.tup [x, y])) ∧ Is L (upd G' T (.tup [x, y])) (.tup [dx, dy]) (.ref T) :=
  ⟨Grow.new s2 hT, .tup upd_same (.cons (h1.mono (upd_sub (sub_none s2 hT))) (.cons (h2.mono (upd_sub (sub_none s2 hT))) .nil))⟩
theorem evi_zipL {xs ys : List D} {e2 : Expr} {elts : List Expr} {kk : Nat} {tpos : Pos} (hm : X.mg "zip" = none) (h : EvE L X e S (.lst xs)) (h' : EvE L X e2 S (.lst ys)) (hg : Gl X "zip" := by rfl)
    (hs : starEach [e, e2] X.env = (false, eval e X.env) :: starEach [e2] X.env := by rfl) (hs2 : starEach [e2] X.env = (false, eval e2 X.env) :: starEach [] X.env := by rfl) (hpl : (backTo pos (starEach [e2] X.env)).any (·.1) = false := by rfl) : EvI L X (.Tuple elts kk tpos) (.Call (.Name "zip" p) [e, e2] [] pos) S (zipD xs ys) :=
  PI.imp (RZ.pi_zipA hg hm (eva_cons h (eva_cons h' eva_nil hs2) hs) hs hpl) fun σ H R ⟨G, Rr, q⟩ => ⟨G, Rr, fun G1 H1 vs g1 i1 => by
    cases i1 with
    | cons ha r =>
      cases r with
      | cons hb r =>
        cases r
        cases ha with
        | @lst la _ va ea ra =>
          cases hb with
          | @lst lb _ vb eb rb =>
            refine ⟨la, lb, va, vb, rfl, .inl ⟨SqL.of (g1.gh _ _ ea), SqL.of (g1.gh _ _ eb), q G1 H1 _ g1 fun i G' H' s1 s2 => ?_⟩⟩
            have qa : SqL X.K H' la va := SqL.of (s2 _ _ (s1 _ _ ea))
            have qb : SqL X.K H' lb vb := SqL.of (s2 _ _ (s1 _ _ eb))
            refine ⟨fun d hd => ?_, fun hl => ⟨va, vb, qa, qb, ?_⟩⟩
            · obtain ⟨x, y, h1, h2, rfl⟩ := zipD_get hd
              obtain ⟨vx, e1, i1⟩ := ra.get h1
              obtain ⟨vy, e2, i2⟩ := rb.get h2
              refine ⟨⟨va, vb, vx, vy, qa, qb, e1, e2⟩, fun v H'' y => ?_⟩
              obtain ⟨T, x', y', rfl, hT, rfl, z1, z2⟩ := y
              have w1 := z1 va qa
              have w2 := z2 vb qb
              rw [e1] at w1
              rw [e2] at w2
              cases w1
              cases w2
              obtain ⟨g, i⟩ := is_pair (L := L) s2 hT (i1.mono s1) (i2.mono s1)
              exact ⟨_, g, i⟩
            · rw [zipD_len, ra.length, rb.length] at hl
              omega⟩
theorem evi_zipT {xs ys : List D} {e2 : Expr} {elts : List Expr} {kk : Nat} {tpos : Pos} (hm : X.mg "zip" = none) (h : EvE L X e S (.tup xs)) (h' : EvE L X e2 S (.tup ys)) (hg : Gl X "zip" := by rfl)
    (hs : starEach [e, e2] X.env = (false, eval e X.env) :: starEach [e2] X.env := by rfl) (hs2 : starEach [e2] X.env = (false, eval e2 X.env) :: starEach [] X.env := by rfl) (hpl : (backTo pos (starEach [e2] X.env)).any (·.1) = false := by rfl) : EvI L X (.Tuple elts kk tpos) (.Call (.Name "zip" p) [e, e2] [] pos) S (zipD xs ys) :=
  PI.imp (RZ.pi_zipA hg hm (eva_cons h (eva_cons h' eva_nil hs2) hs) hs hpl) fun σ H R ⟨G, Rr, q⟩ => ⟨G, Rr, fun G1 H1 vs g1 i1 => by
    cases i1 with
    | cons ha r =>
      cases r with
      | cons hb r =>
        cases r
        cases ha with
        | @tup la _ va ea ra =>
          cases hb with
          | @tup lb _ vb eb rb =>
            refine ⟨la, lb, va, vb, rfl, .inr ⟨SqT.of (g1.gh _ _ ea), SqT.of (g1.gh _ _ eb), q G1 H1 _ g1 fun i G' H' s1 s2 => ?_⟩⟩
            have qa : SqT X.K H' la va := SqT.of (s2 _ _ (s1 _ _ ea))
            have qb : SqT X.K H' lb vb := SqT.of (s2 _ _ (s1 _ _ eb))
            refine ⟨fun d hd => ?_, fun hl => ⟨va, vb, qa, qb, ?_⟩⟩
            · obtain ⟨x, y, h1, h2, rfl⟩ := zipD_get hd
              obtain ⟨vx, e1, i1⟩ := ra.get h1
              obtain ⟨vy, e2, i2⟩ := rb.get h2
              refine ⟨⟨va, vb, vx, vy, qa, qb, e1, e2⟩, fun v H'' y => ?_⟩
              obtain ⟨T, x', y', rfl, hT, rfl, z1, z2⟩ := y
              have w1 := z1 va qa
              have w2 := z2 vb qb
              rw [e1] at w1
              rw [e2] at w2
              cases w1
              cases w2
              obtain ⟨g, i⟩ := is_pair (L := L) s2 hT (i1.mono s1) (i2.mono s1)
              exact ⟨_, g, i⟩
            · rw [zipD_len, ra.length, rb.length] at hl
              omega⟩
end
/-! ## loops -/
theorem any_ss {X : Cx} (sts : List Stmt) : PSs X sts (fun D σ H => ∃ t, PSs X sts t ∧ t D σ H) := ⟨fun pins s σ H D I ⟨t, h, q⟩ => h.run pins s σ H D I q⟩
theorem any_t {X : Cx} (e : Expr) : PT X e (fun σ H Q => ∃ t, PT X e t ∧ t σ H Q) := ⟨fun pins s σ H D I ⟨t, h, q⟩ => h.run pins s σ H D I q⟩
section
variable {L : Lc} {X : Cx} {S : SlS} {tg iter test : Expr} {body : List Stmt} {pos : Pos}
/-- how a turn ends: next or continue -/
def goesOn (o : Out) (S' : SlS) : Prop := o = .nx S' ∨ o = .ct S'
/-- for, n turns, then the end of what is walked (n = its length) -/
theorem evs_for {ds : List D} {t : Tg} (W : Nat → SlS) (hi : EvI L X tg iter (W 0) ds) (hg : EvG X tg t) (hp : PassesOwn (model X.prog X.w) X.A X.env X.xe) (hc : X.calm = true)
    (hb : ∀ i d, ds[i]? = some d → ∃ S1 o, setT t d (W i) = some S1 ∧ EvB L X body S1 o ∧ goesOn o (W (i + 1)))
    (hs : ∀ x, foldedSetIterable iter X.env x = pure x := by intro _; rfl) : EvS L X (.For tg iter body [] pos) (W 0) (.nx (W ds.length)) :=
  PS.imp (ps_for hp hc hi hg (any_ss body) hs) fun D σ H ⟨B, G, R, q⟩ => by
    refine ⟨G, R.r, fun G1 H1 J g1 ok => ?_⟩
    refine ⟨fun i m σ' H' => m = ds.length - i ∧ i ≤ ds.length ∧ ∃ G', Sub G1 G' ∧ Rep L B (W i) σ' H' G', ⟨ds.length, by simp, Nat.zero_le _, G1, fun _ _ e => e, R.grow g1⟩, ?_⟩
    rintro i m σ' H' ⟨rfl, hle, G', s1, R'⟩
    obtain ⟨o1, o2⟩ := ok i G' H' s1 R'.r.sub
    by_cases hlt : i < ds.length
    · refine .inr ?_
      obtain ⟨go, y⟩ := o1 ds[i] (List.getElem?_eq_getElem hlt)
      refine ⟨go, fun σ2 H2 => ∃ G2, Sub G1 G2 ∧ Rep L B (W (i + 1)) σ2 H2 G2, fun σ2 H2 ⟨G2, s2, R2⟩ => ⟨ds.length - (i + 1), by omega, rfl, hlt, G2, s2, R2⟩, fun x H'' hx => ?_⟩
      obtain ⟨G'', g2, ix⟩ := y x H'' hx
      obtain ⟨S1, o, e1, hB, ho⟩ := hb i ds[i] (List.getElem?_eq_getElem hlt)
      refine tgG_run (R'.grow g2) ix e1 fun σ3 R3 => ⟨_, hB, B, G'', R3, ?_⟩
      rcases ho with rfl | rfl
      · exact fun σ4 H4 G4 s4 R4 => ⟨G4, fun a u e => s4 a u (g2.gg a u (s1 a u e)), R4⟩
      · exact fun σ4 H4 G4 s4 R4 => ⟨G4, fun a u e => s4 a u (g2.gg a u (s1 a u e)), R4⟩
    · have e : i = ds.length := by omega
      subst e
      exact .inl ⟨o2 (Nat.le_refl _), q σ' H' G' (fun a u e => s1 a u (g1.gg a u e)) R'⟩
/-- for, left in turn n by return -/
theorem evs_forR {ds : List D} {t : Tg} {d0 dn : D} (W : Nat → SlS) (n : Nat) (hn : ds[n]? = some dn) (hi : EvI L X tg iter (W 0) ds) (hg : EvG X tg t) (hp : PassesOwn (model X.prog X.w) X.A X.env X.xe) (hc : X.calm = true)
    (hb : ∀ i d, i < n → ds[i]? = some d → ∃ S1 o, setT t d (W i) = some S1 ∧ EvB L X body S1 o ∧ goesOn o (W (i + 1))) (hl : ∃ S1, setT t dn (W n) = some S1 ∧ EvB L X body S1 (.ret d0))
    (hs : ∀ x, foldedSetIterable iter X.env x = pure x := by intro _; rfl) : EvS L X (.For tg iter body [] pos) (W 0) (.ret d0) :=
  PS.imp (ps_for hp hc hi hg (any_ss body) hs) fun D σ H ⟨B, G, R, q⟩ => by
    have hnl : n < ds.length := (List.getElem?_eq_some_iff.mp hn).1
    refine ⟨G, R.r, fun G1 H1 J g1 ok => ?_⟩
    refine ⟨fun i m σ' H' => m = n - i ∧ i ≤ n ∧ ∃ G', Sub G1 G' ∧ Rep L B (W i) σ' H' G', ⟨n, by simp, Nat.zero_le _, G1, fun _ _ e => e, R.grow g1⟩, ?_⟩
    rintro i m σ' H' ⟨rfl, hle, G', s1, R'⟩
    obtain ⟨o1, o2⟩ := ok i G' H' s1 R'.r.sub
    by_cases hlt : i < n
    · refine .inr ?_
      have hil : i < ds.length := by omega
      obtain ⟨go, y⟩ := o1 ds[i] (List.getElem?_eq_getElem hil)
      refine ⟨go, fun σ2 H2 => ∃ G2, Sub G1 G2 ∧ Rep L B (W (i + 1)) σ2 H2 G2, fun σ2 H2 ⟨G2, s2, R2⟩ => ⟨n - (i + 1), by omega, rfl, hlt, G2, s2, R2⟩, fun x H'' hx => ?_⟩
      obtain ⟨G'', g2, ix⟩ := y x H'' hx
      obtain ⟨S1, o, e1, hB, ho⟩ := hb i ds[i] hlt (List.getElem?_eq_getElem hil)
      refine tgG_run (R'.grow g2) ix e1 fun σ3 R3 => ⟨_, hB, B, G'', R3, ?_⟩
      rcases ho with rfl | rfl
      · exact fun σ4 H4 G4 s4 R4 => ⟨G4, fun a u e => s4 a u (g2.gg a u (s1 a u e)), R4⟩
      · exact fun σ4 H4 G4 s4 R4 => ⟨G4, fun a u e => s4 a u (g2.gg a u (s1 a u e)), R4⟩
    · have e : i = n := by omega
      subst e
      obtain ⟨go, y⟩ := o1 dn hn
      refine .inr ⟨go, fun _ _ => False, fun σ2 H2 z => z.elim, fun x H'' hx => ?_⟩
      obtain ⟨G'', g2, ix⟩ := y x H'' hx
      obtain ⟨S1, e1, hB⟩ := hl
      exact tgG_run (R'.grow g2) ix e1 fun σ3 R3 => ⟨_, hB, B, G'', R3, q⟩
/-- while, n turns -/
theorem evs_while (W : Nat → SlS) (n : Nat) (hp : PassesOwn (model X.prog X.w) X.A X.env X.xe) (hb : ∀ i, i < n → EvT L X test (W i) true ∧ ∃ o, EvB L X body (W i) o ∧ goesOn o (W (i + 1))) (he : EvT L X test (W n) false) :
    EvS L X (.While test body [] pos) (W 0) (.nx (W n)) :=
  PS.imp (ps_while hp (any_t test) (any_ss body)) fun D σ H ⟨B, G, R, q⟩ => by
    refine ⟨fun m σ' H' => ∃ i, m = n - i ∧ i ≤ n ∧ ∃ G', Sub G G' ∧ Rep L B (W i) σ' H' G', ⟨n, 0, by simp, Nat.zero_le _, G, fun _ _ e => e, R⟩, ?_⟩
    rintro m σ' H' ⟨i, rfl, hle, G', s1, R'⟩
    by_cases hlt : i < n
    · obtain ⟨ht, o, hB, ho⟩ := hb i hlt
      refine ⟨_, ht, G', R'.r, fun G2 H2 g2 => iteT ?_⟩
      refine ⟨fun σ2 H2 => ∃ G2, Sub G G2 ∧ Rep L B (W (i + 1)) σ2 H2 G2, fun σ2 H2 ⟨G2, s2, R2⟩ => ⟨n - (i + 1), by omega, i + 1, rfl, hlt, G2, s2, R2⟩, _, hB, B, G2, R'.grow g2, ?_⟩
      rcases ho with rfl | rfl
      · exact fun σ4 H4 G4 s4 R4 => ⟨G4, fun a u e => s4 a u (g2.gg a u (s1 a u e)), R4⟩
      · exact fun σ4 H4 G4 s4 R4 => ⟨G4, fun a u e => s4 a u (g2.gg a u (s1 a u e)), R4⟩
    · have e : i = n := by omega
      subst e
      exact ⟨_, he, G', R'.r, fun G2 H2 g2 => iteF (q σ' H2 G2 (fun a u e => g2.gg a u (s1 a u e)) (R'.grow g2))⟩
end
end FM
set_option autoImplicit false
namespace FM
open PySem PySem.Spec PyProof.Rows L2 LamX
/-! ## comprehensions -/
def wipeS (S : SlS) : List Nat → SlS
  | [] => S
  | v :: vs => (wipeS S vs).set v .any
theorem wipe_set (σ : L2.St) (i : Nat) (x : Option V) : ∀ vs : List Nat, i ∈ vs → wipe (σ.set i x) vs = wipe σ vs
  | v :: vs, h => by
    unfold wipe
    by_cases q : i ∈ vs
    · rw [wipe_set σ i x vs q]
    · have e : i = v := by
        rcases List.mem_cons.mp h with z | z
        · exact z
        · exact absurd z q
      subst e
      have g : ∀ (σ : L2.St) (ws : List Nat), wipe (σ.set i x) ws = (wipe σ ws).set i x ∨ i ∈ ws := by
        intro σ ws
        induction ws with
        | nil => exact .inl rfl
        | cons w ws ih =>
          by_cases z : i = w
          · exact .inr (by rw [z]; exact List.mem_cons_self)
          · rcases ih with ih | ih
            · left
              unfold wipe
              rw [ih, List.set_comm _ _ z]
            · exact .inr (List.mem_cons_of_mem _ ih)
      rcases g σ vs with z | z
      · rw [z, List.set_set]
      · exact absurd z q
theorem wipe_wipe (σ : L2.St) (vs ws : List Nat) (h : ∀ i ∈ vs, i ∈ ws) : wipe (wipe σ vs) ws = wipe σ ws := by
  induction vs with
  | nil => rfl
  | cons v vs ih =>
    show wipe ((wipe σ vs).set v none) ws = wipe σ ws
    rw [wipe_set _ v _ ws (h v List.mem_cons_self), ih fun i hi => h i (List.mem_cons_of_mem _ hi)]
section
variable {L : Lc} {S : SlS} {σ : L2.St} {H G : Hp}
theorem owns_any {i j : Nat} (h : Owns (S.set i .any) j) : Owns S j ∧ i ≠ j := by
  obtain ⟨s, e, hs⟩ := h
  by_cases q : i = j
  · subst q
    by_cases hl : i < S.length
    · rw [List.getElem?_set_self hl] at e
      cases e
      rcases hs with ⟨_, z⟩ | ⟨_, _, z⟩ <;> cases z
    · rw [List.getElem?_eq_none (by rw [List.length_set]; omega)] at e
      cases e
  · rw [List.getElem?_set_ne q] at e
    exact ⟨⟨s, e, hs⟩, q⟩
theorem set_any_get {i j : Nat} {s : Sl} (hs : s ≠ .any) (e : (S.set i .any)[j]? = some s) : i ≠ j ∧ S[j]? = some s := by
  by_cases q : i = j
  · subst q
    by_cases hl : i < S.length
    · rw [List.getElem?_set_self hl] at e
      cases e
      exact absurd rfl hs
    · rw [List.getElem?_eq_none (by rw [List.length_set]; omega)] at e
      cases e
  · rw [List.getElem?_set_ne q] at e
    exact ⟨q, e⟩
theorem RepV.any {i : Nat} {x : Option V} (R : RepV L S σ H G) : RepV L (S.set i .any) (σ.set i x) H G where
  len := by rw [List.length_set, List.length_set, R.len]
  sub := R.sub
  tabs := R.tabs
  val := fun j d e => by
    obtain ⟨q, e⟩ := set_any_get (fun z => by cases z) e
    rw [List.getElem?_set_ne q]
    exact R.val j d e
  own := fun j d e => by
    obtain ⟨q, e⟩ := set_any_get (fun z => by cases z) e
    rw [List.getElem?_set_ne q]
    exact R.own j d e
  inst := fun j C fs e => by
    obtain ⟨q, e⟩ := set_any_get (fun z => by cases z) e
    rw [List.getElem?_set_ne q]
    exact R.inst j C fs e
  dist := fun a b l ha hb e1 e2 => by
    obtain ⟨o1, q1⟩ := owns_any ha
    obtain ⟨o2, q2⟩ := owns_any hb
    rw [List.getElem?_set_ne q1] at e1
    rw [List.getElem?_set_ne q2] at e2
    exact R.dist a b l o1 o2 e1 e2
theorem RepV.wipe (R : RepV L S σ H G) : ∀ vs : List Nat, RepV L (wipeS S vs) (L2.wipe σ vs) H G
  | [] => R
  | v :: vs => (R.wipe vs).any
def tgIn : Tg → List Nat → Bool
  | .one i, vs => vs.contains i
  | .two i j, vs => vs.contains i && vs.contains j
  | .tri i j k, vs => vs.contains i && vs.contains j && vs.contains k
theorem tgG_wipe {K : PySem.W.Frag} {t : Tg} {d : D} {v : V} {S1 : SlS} {vs : List Nat} {Q : L2.St → Hp → Prop} (R : RepV L S σ H G) (h : Is L G d v) (e : setT t d S = some S1) (hin : tgIn t vs = true) (q : ∀ σ', RepV L S1 σ' H G → L2.wipe σ' vs = L2.wipe σ vs → Q σ' H) : tgG K t v σ H Q := by
  have mem : ∀ {i : Nat}, vs.contains i = true → i ∈ vs := fun h => by simpa using h
  cases t with
  | one i =>
    cases e
    exact q _ (R.setv h) (wipe_set _ _ _ _ (mem hin))
  | two i j =>
    have hin' : (vs.contains i && vs.contains j) = true := hin
    obtain ⟨m1, m2⟩ := Bool.and_eq_true_iff.mp hin'
    cases h with
    | tup e1 r =>
      cases r with
      | nil => cases e
      | cons h1 r =>
        cases r with
        | nil => cases e
        | cons h2 r =>
          cases r with
          | nil =>
            cases e
            exact ⟨_, _, rfl, SqT.of (R.sub _ _ e1), rfl, _, _, rfl, _, _, rfl, rfl, q _ ((R.setv h1).setv h2) (by rw [wipe_set _ _ _ _ (mem m2), wipe_set _ _ _ _ (mem m1)])⟩
          | cons h3 r => cases e
    | _ => cases e
  | tri i j k =>
    have hin' : (vs.contains i && vs.contains j && vs.contains k) = true := hin
    obtain ⟨m12, m3⟩ := Bool.and_eq_true_iff.mp hin'
    obtain ⟨m1, m2⟩ := Bool.and_eq_true_iff.mp m12
    cases h with
    | tup e1 r =>
      cases r with
      | nil => cases e
      | cons h1 r =>
        cases r with
        | nil => cases e
        | cons h2 r =>
          cases r with
          | nil => cases e
          | cons h3 r =>
            cases r with
            | nil =>
              cases e
              exact ⟨_, _, rfl, SqT.of (R.sub _ _ e1), rfl, _, _, rfl, _, _, rfl, _, _, rfl, rfl, q _ (((R.setv h1).setv h2).setv h3) (by rw [wipe_set _ _ _ _ (mem m3), wipe_set _ _ _ _ (mem m2), wipe_set _ _ _ _ (mem m1)])⟩
            | cons h4 r => cases e
    | _ => cases e
theorem Grow.chg {G1 H1 : Hp} {p : Addr} {acc acc' : List V} (g : Grow L G1 H1 G H) (h1 : H1 p = none) (h2 : H p = some (.lst acc)) (h3 : G p = none) : Grow L G1 H1 G (upd H p (.lst acc')) where
  gg := g.gg
  hh := fun a u e nt => by rw [upd_ne (ne_of_none e h1)]; exact g.hh a u e nt
  gh := fun a u e => by rw [upd_ne (ne_of_none e h3)]; exact g.gh a u e
  fr := g.fr
  tb := fun t => tabs_keep (g.tb t) fun a u e n1 _ => by
    rw [upd_ne]
    · exact e
    · rintro rfl
      rw [h2] at e
      cases e
      exact n1 _ rfl
  nt := g.nt
  tt := fun a ps e => by
    obtain ⟨ps', e2⟩ := g.tt a ps e
    exact ⟨ps', by rw [upd_ne (ne_of_none e h1)]; exact e2⟩
end
theorem any_e {X : Cx} (e : Expr) : PE X e (fun σ H Q => ∃ t, PE X e t ∧ t σ H Q) := ⟨fun pins s σ H D I ⟨t, h, q⟩ => h.run pins s σ H D I q⟩
theorem PTs.imp {X : Cx} {e : List Expr} {t t' : TT} (h : PTs X e t) (k : ∀ σ H Q, t' σ H Q → t σ H Q) : PTs X e t' := ⟨fun pins s σ H Q I q => h.run pins s σ H Q I (k σ H Q q)⟩
def EvTs (L : Lc) (X : Cx) (es : List Expr) (S : SlS) (b : Bool) : Prop := PTs X es (TB L S b)
theorem evts_nil {L : Lc} {X : Cx} {S : SlS} : EvTs L X [] S true := PTs.imp pts_nil fun σ H Q ⟨G, R, q⟩ => q G H (.refl R.sub)
theorem evts_one {L : Lc} {X : Cx} {S : SlS} {c : Expr} {b : Bool} (h : EvT L X c S b) : EvTs L X [c] S b := pts_one h
theorem any_ts {X : Cx} (e : List Expr) : PTs X e (fun σ H Q => ∃ t, PTs X e t ∧ t σ H Q) := ⟨fun pins s σ H D I ⟨t, h, q⟩ => h.run pins s σ H D I q⟩
/-- one comprehension's block: its own slots vs, the items xs told by en, the test p, the element's value f -/
structure LcB (L : Lc) (X : Cx) (S : SlS) (tg elt : Expr) (ifs : List Expr) (scope : Scope) (t : Tg) (vs : List Nat) {α : Type} (xs : List α) (en : α → D) (p : α → Bool) (f : α → D) : Prop where
  hg : ∀ (s : Shared) (H : Hp) (C : Addr) (cl : List (Str × Addr)) (fp : List Addr), EvG (X.blk s H scope (compEnvC scope cl C X.env) fp) tg t
  hin : tgIn t vs = true
  tu : ∀ (i : Nat) (d : α), xs[i]? = some d → ∃ S1, setT t (en d) (wipeS S vs) = some S1 ∧ ∀ (s : Shared) (H : Hp) (C : Addr) (cl : List (Str × Addr)) (fp : List Addr),
    EvTs L (X.blk s H scope (compEnvC scope cl C X.env) fp) ifs S1 (p d) ∧ (p d = true → EvE L (X.blk s H scope (compEnvC scope cl C X.env) fp) elt S1 (f d))
section
variable {L : Lc} {X : Cx} {S : SlS} {tg elt iter : Expr} {ifs : List Expr} {scope : Scope} {t : Tg} {vs : List Nat} {α : Type} {xs : List α} {en : α → D} {p : α → Bool} {f : α → D}
/-- the test's and the element's readings, over all turns -/
def tTst (L : Lc) (S : SlS) (vs : List Nat) (t : Tg) {α : Type} (xs : List α) (en : α → D) (p : α → Bool) : TT := fun σ H Q => ∃ (i : Nat) (d : α) (S1 : SlS), xs[i]? = some d ∧ setT t (en d) (wipeS S vs) = some S1 ∧ TB L S1 (p d) σ H Q
def tElt (L : Lc) (S : SlS) (vs : List Nat) (t : Tg) {α : Type} (xs : List α) (en : α → D) (p : α → Bool) (f : α → D) : TE := fun σ H Q => ∃ (i : Nat) (d : α) (S1 : SlS), xs[i]? = some d ∧ p d = true ∧ setT t (en d) (wipeS S vs) = some S1 ∧ TD L S1 (f d) σ H Q
theorem LcB.pts (b : LcB L X S tg elt ifs scope t vs xs en p f) (s : Shared) (H : Hp) (C : Addr) (cl : List (Str × Addr)) (fp : List Addr) : PTs (X.blk s H scope (compEnvC scope cl C X.env) fp) ifs (tTst L S vs t xs en p) :=
  PTs.imp (any_ts ifs) fun σ H' Q ⟨i, d, S1, e1, e2, q⟩ => by
    obtain ⟨S2, e3, k⟩ := b.tu i d e1
    rw [e2] at e3
    cases e3
    exact ⟨_, (k s H C cl fp).1, q⟩
theorem LcB.pe (b : LcB L X S tg elt ifs scope t vs xs en p f) (s : Shared) (H : Hp) (C : Addr) (cl : List (Str × Addr)) (fp : List Addr) : PE (X.blk s H scope (compEnvC scope cl C X.env) fp) elt (tElt L S vs t xs en p f) :=
  PE.imp (any_e elt) fun σ H' Q ⟨i, d, S1, e1, hp, e2, q⟩ => by
    obtain ⟨S2, e3, k⟩ := b.tu i d e1
    rw [e2] at e3
    cases e3
    exact ⟨_, (k s H C cl fp).2 hp, q⟩
theorem take_succ_of {α : Type} {l : List α} {i : Nat} {x : α} (h : l[i]? = some x) : l.take (i + 1) = l.take i ++ [x] := by
  rw [List.take_succ, h]
  rfl
theorem lc_run (b : LcB L X S tg elt ifs scope t vs xs en p f) (hz : xs.length ≤ 100000) {σ : L2.St} {H : Hp} {Q : VK} (q : TN L S ((xs.filter p).map f) σ H Q) :
    tLc (TIt L S (xs.map en)) (tgG X.K t) (tTst L S vs t xs en p) (tElt L S vs t xs en p f) vs σ H Q := by
  obtain ⟨G, R, q⟩ := q
  refine ⟨G, R, fun G1 H1 J g1 ok Dd hD => ?_⟩
  refine ⟨fun i m H' => m = xs.length - i ∧ i ≤ xs.length ∧ ∃ G' acc, Grow L G1 H1 G' H' ∧ H' Dd = some (.lst acc) ∧ G' Dd = none ∧ IsL L G' (((xs.take i).filter p).map f) acc,
    ⟨xs.length, by simp, Nat.zero_le _, G1, [], Grow.more g1.gh hD, upd_same, sub_none g1.gh hD, .nil⟩, ?_⟩
  rintro i m H' ⟨rfl, hle, G', acc, g', hacc, hGD, r⟩
  obtain ⟨o1, o2⟩ := ok i G' H' g'.gg g'.gh
  by_cases hlt : i < xs.length
  · refine .inr ?_
    have hd : xs[i]? = some xs[i] := List.getElem?_eq_getElem hlt
    obtain ⟨go, y⟩ := o1 (en xs[i]) (by rw [List.getElem?_map, hd]; rfl)
    refine ⟨go, fun H2 => ∃ G2 acc2, Grow L G1 H1 G2 H2 ∧ H2 Dd = some (.lst acc2) ∧ G2 Dd = none ∧ IsL L G2 (((xs.take (i + 1)).filter p).map f) acc2, fun H2 ⟨G2, a2, h1, h2, h3, h4⟩ => ⟨xs.length - (i + 1), by omega, rfl, hlt, G2, a2, h1, h2, h3, h4⟩, fun x H'' hx => ?_⟩
    obtain ⟨G'', g2, ix⟩ := y x H'' hx
    obtain ⟨S1, e1, k⟩ := b.tu i xs[i] hd
    have R2 := (((R.grow g1).grow g').grow g2).wipe vs
    refine tgG_wipe R2 ix e1 b.hin fun σ2 R3 hw => ⟨hw.trans (wipe_wipe σ vs vs fun _ h => h), i, xs[i], S1, hd, e1, G'', R3, fun G3 H3 g3 => ?_⟩
    have hf1 : G'' Dd = none := g2.fr Dd hGD (by rw [hacc]; exact fun z => by cases z)
    have hf2 : H'' Dd = some (.lst acc) := g2.hh _ _ hacc (fun _ z => by cases z)
    have hf3 : G3 Dd = none := g3.fr Dd hf1 (by rw [hf2]; exact fun z => by cases z)
    have hf4 : H3 Dd = some (.lst acc) := g3.hh _ _ hf2 (fun _ z => by cases z)
    have ga := (g'.trans g2).trans g3
    rw [take_succ_of hd, List.filter_append, List.map_append]
    cases hp : p xs[i] with
    | true =>
      refine iteT ⟨i, xs[i], S1, hd, hp, e1, G3, R3.grow g3, fun G4 H4 v g4 i4 => ?_⟩
      have hf5 : G4 Dd = none := g4.fr Dd hf3 (by rw [hf4]; exact fun z => by cases z)
      have hf6 : H4 Dd = some (.lst acc) := g4.hh _ _ hf4 (fun _ z => by cases z)
      refine ⟨acc, hf6, ?_, G4, acc ++ [v], (ga.trans g4).chg hD hf6 hf5, upd_same, hf5, ?_⟩
      · have e2 := r.length
        have e3 : (((xs.take i).filter p).map f).length ≤ xs.length := by
          rw [List.length_map]
          exact Nat.le_trans (List.length_filter_le _ _) (by rw [List.length_take]; omega)
        exact small_lt (by omega)
      · rw [List.filter_cons, hp]
        exact ((r.mono g2.gg).mono g3.gg |>.mono g4.gg).append (.cons i4 .nil)
    | false =>
      refine iteF ⟨G3, acc, ga, hf4, hf3, ?_⟩
      rw [List.filter_cons, hp]
      have e4 : (((xs.take i).filter p).map f) ++ List.map f (if false = true then xs[i] :: List.filter p [] else List.filter p []) = ((xs.take i).filter p).map f := by simp
      rw [e4]
      exact (r.mono g2.gg).mono g3.gg
  · have e : i = xs.length := by omega
    subst e
    rw [List.take_length] at r
    exact .inl ⟨o2 (by rw [List.length_map]; exact Nat.le_refl _), q G' H' Dd acc (g1.trans g') (g1.back hD) hacc hGD r⟩
/-- [elt for tg in iter if ..] as a value -/
theorem evn_lcIf {own : List (Str × Nat)} {pos : Pos} (hi : EvI L X tg iter S (xs.map en)) (b : LcB L X S tg elt ifs scope t (own.map (·.2)) xs en p f) (hz : xs.length ≤ 100000) (hc : X.calm = true) (hN : X.N.Nodup) (ok : BlkOk X.N X.env.scope scope own)
    (hs : ∀ x, foldedSetIterable iter X.env x = pure x := by intro _; rfl) : EvN L X (.ListComp elt [⟨tg, iter, ifs, 0⟩] scope pos) S ((xs.filter p).map f) :=
  PE.imp (pe_lc (g := tgG X.K t) hc hN hi ok (fun s H C cl fp => b.hg s H C cl fp) b.pts b.pe hs) fun σ H Q q => lc_run b hz q
/-- y = [elt for tg in iter if ..] -/
theorem evs_lcIf (i : Nat) {y : Str} {py : Pos} {own : List (Str × Nat)} {pos spos : Pos} (hi : EvI L X tg iter S (xs.map en)) (b : LcB L X S tg elt ifs scope t (own.map (·.2)) xs en p f) (hz : xs.length ≤ 100000) (hc : X.calm = true) (hN : X.N.Nodup) (ok : BlkOk X.N X.env.scope scope own)
    (hsw : swapsWith (.ListComp elt [⟨tg, iter, ifs, 0⟩] scope pos) (some (.Name y py)) spos.line X.env = pure true) (hy : X.N[i]? = some y := by rfl) (hyl : X.env.scope.names.lookup y = some .local := by rfl)
    (hs : ∀ x, foldedSetIterable iter X.env x = pure x := by intro _; rfl) : EvS L X (.Assign [.Name y py] (.ListComp elt [⟨tg, iter, ifs, 0⟩] scope pos) spos) S (.nx (S.set i (.own ((xs.filter p).map f)))) :=
  PS.imp (ps_setLc (g := tgG X.K t) hc hN hy hyl hsw hi ok (fun s H C cl fp => b.hg s H C cl fp) b.pts b.pe hs) fun D σ H ⟨B, G, R, q⟩ => lc_run b hz ⟨G, R.r, fun G' H' p vs g hp hp' gp r => q _ _ G' g.gg (R.setn g hp hp' gp r)⟩
theorem filter_all {α : Type} (xs : List α) : xs.filter (fun _ => true) = xs := List.filter_eq_self.mpr fun _ _ => rfl
/-- a block without a test -/
theorem lcb {α : Type} {xs : List α} {en f : α → D} (hg : ∀ (s : Shared) (H : Hp) (C : Addr) (cl : List (Str × Addr)) (fp : List Addr), EvG (X.blk s H scope (compEnvC scope cl C X.env) fp) tg t) (hin : tgIn t vs = true := by rfl)
    (tu : ∀ (i : Nat) (d : α), xs[i]? = some d → ∃ S1, setT t (en d) (wipeS S vs) = some S1 ∧ ∀ (s : Shared) (H : Hp) (C : Addr) (cl : List (Str × Addr)) (fp : List Addr), EvE L (X.blk s H scope (compEnvC scope cl C X.env) fp) elt S1 (f d)) :
    LcB L X S tg elt [] scope t vs xs en (fun _ => true) f := ⟨hg, hin, fun i d e => by
      obtain ⟨S1, h1, h2⟩ := tu i d e
      exact ⟨S1, h1, fun s H C cl fp => ⟨evts_nil, fun _ => h2 s H C cl fp⟩⟩⟩
theorem evn_lc {own : List (Str × Nat)} {pos : Pos} (hi : EvI L X tg iter S (xs.map en)) (b : LcB L X S tg elt [] scope t (own.map (·.2)) xs en (fun _ => true) f) (hz : xs.length ≤ 100000) (hc : X.calm = true) (hN : X.N.Nodup) (ok : BlkOk X.N X.env.scope scope own)
    (hs : ∀ x, foldedSetIterable iter X.env x = pure x := by intro _; rfl) : EvN L X (.ListComp elt [⟨tg, iter, [], 0⟩] scope pos) S (xs.map f) := by
  have h := evn_lcIf (pos := pos) hi b hz hc hN ok hs
  rw [filter_all] at h
  exact h
theorem evs_lc (i : Nat) {y : Str} {py : Pos} {own : List (Str × Nat)} {pos spos : Pos} (hi : EvI L X tg iter S (xs.map en)) (b : LcB L X S tg elt [] scope t (own.map (·.2)) xs en (fun _ => true) f) (hz : xs.length ≤ 100000) (hc : X.calm = true) (hN : X.N.Nodup) (ok : BlkOk X.N X.env.scope scope own)
    (hsw : swapsWith (.ListComp elt [⟨tg, iter, [], 0⟩] scope pos) (some (.Name y py)) spos.line X.env = pure true) (hy : X.N[i]? = some y := by rfl) (hyl : X.env.scope.names.lookup y = some .local := by rfl)
    (hs : ∀ x, foldedSetIterable iter X.env x = pure x := by intro _; rfl) : EvS L X (.Assign [.Name y py] (.ListComp elt [⟨tg, iter, [], 0⟩] scope pos) spos) S (.nx (S.set i (.own (xs.map f)))) := by
  have h := evs_lcIf i hi b hz hc hN ok hsw hy hyl hs
  rw [filter_all] at h
  exact h
end
theorem EvT.is {L : Lc} {X : Cx} {S : SlS} {e : Expr} {b c : Bool} (h : EvT L X e S b) (q : b = c) : EvT L X e S c := q ▸ h
theorem EvE.is {L : Lc} {X : Cx} {S : SlS} {e : Expr} {b c : D} (h : EvE L X e S b) (q : b = c) : EvE L X e S c := q ▸ h
theorem EvN.is {L : Lc} {X : Cx} {S : SlS} {e : Expr} {b c : List D} (h : EvN L X e S b) (q : b = c) : EvN L X e S c := q ▸ h
theorem EvI.is {L : Lc} {X : Cx} {S : SlS} {tg e : Expr} {b c : List D} (h : EvI L X tg e S b) (q : b = c) : EvI L X tg e S c := q ▸ h
theorem EvB.is {L : Lc} {X : Cx} {S : SlS} {e : List Stmt} {b c : Out} (h : EvB L X e S b) (q : b = c) : EvB L X e S c := q ▸ h
theorem EvS.is {L : Lc} {X : Cx} {S : SlS} {e : Stmt} {b c : Out} (h : EvS L X e S b) (q : b = c) : EvS L X e S c := q ▸ h
theorem evi_seq {L : Lc} {X : Cx} {S : SlS} {tg e : Expr} {k : Bool} {xs : List D} (h : EvE L X e S (dseq k xs)) : EvI L X tg e S xs := by
  cases k with
  | true => exact evi_list h
  | false => exact evi_tup h
/-! ### loops over typed items -/
section
variable {L : Lc} {X : Cx} {S : SlS} {tg iter test : Expr} {body : List Stmt} {pos : Pos}
theorem map_get {α β : Type} {f : α → β} {xs : List α} {i : Nat} {d : β} (h : (xs.map f)[i]? = some d) : ∃ x, xs[i]? = some x ∧ d = f x := by
  rw [List.getElem?_map] at h
  cases e : xs[i]? with
  | none => rw [e] at h; cases h
  | some x => rw [e] at h; exact ⟨x, rfl, (Option.some.inj h).symm⟩
theorem evs_forT {α : Type} {xs : List α} {en : α → D} {t : Tg} (W : Nat → SlS) (hi : EvI L X tg iter (W 0) (xs.map en)) (hg : EvG X tg t) (hp : PassesOwn (model X.prog X.w) X.A X.env X.xe) (hc : X.calm = true)
    (hb : ∀ (i : Nat) (x : α), xs[i]? = some x → ∃ S1 o, setT t (en x) (W i) = some S1 ∧ EvB L X body S1 o ∧ goesOn o (W (i + 1)))
    (hs : ∀ x, foldedSetIterable iter X.env x = pure x := by intro _; rfl) : EvS L X (.For tg iter body [] pos) (W 0) (.nx (W xs.length)) := by
  have h := evs_for (pos := pos) W hi hg hp hc (fun i d e => by
    obtain ⟨x, e1, rfl⟩ := map_get e
    exact hb i x e1) hs
  rw [List.length_map] at h
  exact h
/-- over a range -/
theorem evs_forN {lo c : Int} {n : Nat} {t : Tg} (W : Nat → SlS) (hi : EvI L X tg iter (W 0) (irng lo c n)) (hg : EvG X tg t) (hp : PassesOwn (model X.prog X.w) X.A X.env X.xe) (hc : X.calm = true)
    (hb : ∀ (i : Nat), i < n → ∃ S1 o, setT t (.int (lo + (i : Int) * c)) (W i) = some S1 ∧ EvB L X body S1 o ∧ goesOn o (W (i + 1)))
    (hs : ∀ x, foldedSetIterable iter X.env x = pure x := by intro _; rfl) : EvS L X (.For tg iter body [] pos) (W 0) (.nx (W n)) := by
  have h := evs_for (pos := pos) W hi hg hp hc (fun i d e => by
    obtain ⟨h1, rfl⟩ := irng_get e
    exact hb i h1) hs
  rw [irng_len] at h
  exact h
theorem zipD_map {α β : Type} (f : α → D) (g : β → D) : ∀ (xs : List α) (ys : List β), zipD (xs.map f) (ys.map g) = (xs.zip ys).map fun q => .tup [f q.1, g q.2]
  | [], ys => rfl
  | _ :: _, [] => rfl
  | x :: xs, y :: ys => by
    show _ :: zipD (xs.map f) (ys.map g) = _
    rw [zipD_map f g xs ys]
    rfl
theorem irng_map (lo c : Int) (n : Nat) : irng lo c n = (List.range n).map fun (i : Nat) => D.int (lo + (i : Int) * c) := rfl
end
/-! ## a def keeps its promise -/
section
variable {P : Program} {w : World} {K : PySem.W.Frag} {mg : Str → Option Value} {base : Heap} {L : Lc}
def stS (N : List Str) (ds : List D) : SlS := ds.map .val ++ List.replicate (N.length - ds.length) .any
theorem rep_start {N : List Str} {H G : Hp} {ds : List D} {vs : List V} (s : Sub G H) (t : TbG L H G) (r : IsL L G ds vs) : Rep L ⟨H, G⟩ (stS N ds) (L2.start N vs) H G := by
  have noown : ∀ i, ¬ Owns (stS N ds) i := fun i ⟨s, e, hs⟩ => by
    unfold stS at e
    rcases List.mem_append.mp (List.mem_of_getElem? e) with q | q
    · obtain ⟨d, _, rfl⟩ := List.mem_map.mp q
      rcases hs with ⟨_, z⟩ | ⟨_, _, z⟩ <;> cases z
    · rw [(List.mem_replicate.mp q).2] at hs
      rcases hs with ⟨_, z⟩ | ⟨_, _, z⟩ <;> cases z
  refine ⟨⟨?_, s, t, fun i d e => ?_, fun i xs e => (noown i ⟨_, e, .inl ⟨_, rfl⟩⟩).elim, fun i C fs e => (noown i ⟨_, e, .inr ⟨_, _, rfl⟩⟩).elim, fun i j l h => (noown i h).elim⟩, .refl s, fun i l h => (noown i h).elim⟩
  · unfold stS L2.start
    rw [List.length_append, List.length_append, List.length_map, List.length_map, List.length_replicate, List.length_replicate, r.length]
  · unfold stS at e
    unfold L2.start
    by_cases hl : i < ds.length
    · rw [List.getElem?_append_left (by rw [List.length_map]; exact hl), List.getElem?_map] at e
      rw [List.getElem?_append_left (by rw [List.length_map, ← r.length]; exact hl), List.getElem?_map]
      cases e2 : ds[i]? with
      | none => rw [e2] at e; cases e
      | some d' =>
        rw [e2] at e
        cases e
        obtain ⟨v, h1, h2⟩ := r.get e2
        exact ⟨v, by rw [h1]; rfl, h2⟩
    · rw [List.getElem?_append_right (by rw [List.length_map]; omega)] at e
      have q := List.mem_of_getElem? e
      cases (List.mem_replicate.mp q).2
/-- the body evaluates to r -/
inductive EvF (L : Lc) (X : Cx) (sts : List Stmt) (S : SlS) : D → Prop
  | ret {d : D} (h : EvB L X sts S (.ret d)) : EvF L X sts S d
  | fall {S' : SlS} (h : EvB L X sts S (.nx S')) : EvF L X sts S .non
abbrev BodyX (P : Program) (w : World) (K : PySem.W.Frag) (mg : Str → Option Value) (base : Heap) (N : List Str) (qual : Str) (scope : Scope) (f : Addr) (cdv : Value) (A : Around) (outer : List Env) (s : Shared) (H : Hp) (E : XK) : Cx := (cxOf CX0 P w K mg base N qual scope f cdv A outer s H E).nox
theorem fn_ev {x qual : Str} {st : Stmt} {dvs : List V} {kws : List (Str × V)} {f : Addr} {fd : FuncData} {N ps : List Str} {k : Nat} {R : List D → D → Prop} (F : FunD K x qual (defArgs st) (defBody st) (defScope st) dvs kws f fd) (Sc : FnScope N ps (defScope st))
    (hl : ∀ ds r, R ds r → ds.length = ps.length)
    (body : ∀ (cdv : Value) (A : Around) (outer : List Env) (s : Shared) (H : Hp) (E : XK), Room k (A.deeper (envOfC qual (defScope st) s.heap.objs.size f cdv)) → ∀ ds r, R ds r → EvF L (BodyX P w K mg base N qual (defScope st) f cdv A outer s H E) (defBody st) (stS N ds) r) :
    FnOk P w K mg base CX0 (k + 1) f fd ps (spD L R) := by
  refine F.ok Sc (fun vs H Q E ⟨G, ds, r, s, t, i, hR, q⟩ => by rw [← i.length]; exact hl ds r hR) fun cdv A outer s H vs Q E hr ⟨G, ds, r, sb, t, i, hR, q⟩ => ?_
  cases body cdv A outer s H E hr ds r hR with
  | ret h => exact ⟨_, h.nox, ⟨H, G⟩, G, rep_start sb t i, fun G' H' v g j => q G' H' v g j⟩
  | fall h => exact ⟨_, h.nox, ⟨H, G⟩, G, rep_start sb t i, fun σ' H' G' _ R' => q G' H' .non R'.g .non⟩
end
end FM
namespace FM
open PySem PySem.Spec PyProof.Rows L2
def top (i : Nat) : Stmt := PySem.Challenge.pw_fieldmaps_k17_whole_factors_by_witness.main.body.getD i (.Pass ⟨0, 0, 0, 0⟩)
abbrev s_subtract : Stmt := top 7
abbrev s_cleared : Stmt := top 8
abbrev s_reduced : Stmt := top 9
abbrev s_kernel : Stmt := top 10
abbrev s_is_integer : Stmt := top 12
abbrev s_prime_powers : Stmt := top 13
abbrev s_is_prime : Stmt := top 14
abbrev s_inverse_modulo : Stmt := top 15
abbrev s_trimmed : Stmt := top 17
abbrev s_add_rows : Stmt := top 18
abbrev s_subtract_rows : Stmt := top 19
abbrev s_multiply_rows : Stmt := top 20
abbrev s_divide_rows : Stmt := top 21
abbrev s_common_row : Stmt := top 22
abbrev s_power_row : Stmt := top 23
abbrev s_is_irreducible_row : Stmt := top 24
abbrev s_is_member_row : Stmt := top 25
abbrev s_member_of : Stmt := top 26
abbrev s_member_sum : Stmt := top 27
abbrev s_member_negative : Stmt := top 28
abbrev s_member_product : Stmt := top 29
abbrev s_member_inverse : Stmt := top 30
abbrev s__trimmed : Stmt := top 33
abbrev s__add : Stmt := top 34
abbrev s__negative : Stmt := top 35
abbrev s__multiply : Stmt := top 36
abbrev s__divide : Stmt := top 37
abbrev s_Poly_m___init__ : Stmt := inClass (top 38) 0
abbrev s_Poly_m___sub__ : Stmt := inClass (top 38) 3
abbrev s_Poly_m___mul__ : Stmt := inClass (top 38) 5
abbrev s_Poly_m___floordiv__ : Stmt := inClass (top 38) 6
abbrev s_Poly_m___mod__ : Stmt := inClass (top 38) 7
abbrev s_Poly_m_degree : Stmt := inClass (top 38) 10
abbrev s_Poly_m_is_zero : Stmt := inClass (top 38) 11
abbrev s_Poly_m_leading : Stmt := inClass (top 38) 12
abbrev s_Poly_m_coefficient : Stmt := inClass (top 38) 13
abbrev s_Poly_m_scaled : Stmt := inClass (top 38) 14
abbrev s_Poly_m_monic : Stmt := inClass (top 38) 15
abbrev s_Poly_m_derivative : Stmt := inClass (top 38) 16
abbrev s_Poly_m_power_modulo : Stmt := inClass (top 38) 18
abbrev s_Poly_m_key : Stmt := inClass (top 38) 20
abbrev s_constant : Stmt := top 39
abbrev s_monomial : Stmt := top 40
abbrev s_variable : Stmt := top 41
abbrev s_common_divisor : Stmt := top 42
abbrev s_is_squarefree : Stmt := top 44
abbrev s_prime_root : Stmt := top 45
abbrev s_parts_of : Stmt := top 46
abbrev s_squarefree_parts : Stmt := top 47
abbrev s_checked : Stmt := top 48
abbrev s_padded : Stmt := top 49
abbrev s_fixed_space : Stmt := top 50
abbrev s_parted : Stmt := top 51
abbrev s_divided : Stmt := top 52
abbrev s_factors : Stmt := top 53
abbrev s__checked_modulus : Stmt := top 56
abbrev s_Field_m___init__ : Stmt := inClass (top 57) 0
abbrev s_Field_m___eq__ : Stmt := inClass (top 57) 1
abbrev s_Field_m_integer : Stmt := inClass (top 57) 3
abbrev s_Field_m_zero : Stmt := inClass (top 57) 4
abbrev s_Field_m_one : Stmt := inClass (top 57) 5
abbrev s_Field_m_add : Stmt := inClass (top 57) 7
abbrev s_Field_m_negative : Stmt := inClass (top 57) 8
abbrev s_Field_m_multiply : Stmt := inClass (top 57) 10
abbrev s_Field_m_inverse : Stmt := inClass (top 57) 11
abbrev s_Field_m_power : Stmt := inClass (top 57) 13
abbrev s_Field_m_member : Stmt := inClass (top 57) 16
abbrev s_Field_m_members : Stmt := inClass (top 57) 17
abbrev s__law_numbers : Stmt := top 59
abbrev s__law_next : Stmt := top 60
abbrev s__law_member : Stmt := top 61
abbrev s__law_number : Stmt := top 62
abbrev s__law_modulus : Stmt := top 63
abbrev s__law_field : Stmt := top 64
abbrev s__law_add : Stmt := top 65
abbrev s__law_times : Stmt := top 66
abbrev s__law_minus : Stmt := top 67
abbrev s__law_zero : Stmt := top 68
abbrev s__law_one : Stmt := top 69
abbrev s__law_trim : Stmt := top 70
abbrev s__law_product : Stmt := top 71
abbrev s__law_rest : Stmt := top 72
abbrev s__law_monic : Stmt := top 73
abbrev s__law_count : Stmt := top 74
abbrev s__law_is_irreducible : Stmt := top 75
abbrev s__law_key : Stmt := top 76
abbrev s__law_irreducible : Stmt := top 77
abbrev s__law_drawn : Stmt := top 78
abbrev s__law_whole : Stmt := top 79
abbrev s__law_refuses : Stmt := top 80
abbrev s_law : Stmt := top 81
end FM
namespace FM
open PySem PySem.Spec PyProof.Rows L2
def ds_subtract : He.DefD := ⟨("subtract", none), "subtract", "subtract", defArgs s_subtract, defBody s_subtract, defScope s_subtract, [], []⟩
def ds_cleared : He.DefD := ⟨("cleared", none), "cleared", "cleared", defArgs s_cleared, defBody s_cleared, defScope s_cleared, [], []⟩
def ds_reduced : He.DefD := ⟨("reduced", none), "reduced", "reduced", defArgs s_reduced, defBody s_reduced, defScope s_reduced, [], []⟩
def ds_kernel : He.DefD := ⟨("kernel", none), "kernel", "kernel", defArgs s_kernel, defBody s_kernel, defScope s_kernel, [], []⟩
def ds_is_integer : He.DefD := ⟨("is_integer", none), "is_integer", "is_integer", defArgs s_is_integer, defBody s_is_integer, defScope s_is_integer, [], []⟩
def ds_prime_powers : He.DefD := ⟨("prime_powers", none), "prime_powers", "prime_powers", defArgs s_prime_powers, defBody s_prime_powers, defScope s_prime_powers, [], []⟩
def ds_is_prime : He.DefD := ⟨("is_prime", none), "is_prime", "is_prime", defArgs s_is_prime, defBody s_is_prime, defScope s_is_prime, [], []⟩
def ds_inverse_modulo : He.DefD := ⟨("inverse_modulo", none), "inverse_modulo", "inverse_modulo", defArgs s_inverse_modulo, defBody s_inverse_modulo, defScope s_inverse_modulo, [], []⟩
def ds_trimmed : He.DefD := ⟨("trimmed", none), "trimmed", "trimmed", defArgs s_trimmed, defBody s_trimmed, defScope s_trimmed, [], []⟩
def ds_add_rows : He.DefD := ⟨("add_rows", none), "add_rows", "add_rows", defArgs s_add_rows, defBody s_add_rows, defScope s_add_rows, [], []⟩
def ds_subtract_rows : He.DefD := ⟨("subtract_rows", none), "subtract_rows", "subtract_rows", defArgs s_subtract_rows, defBody s_subtract_rows, defScope s_subtract_rows, [], []⟩
def ds_multiply_rows : He.DefD := ⟨("multiply_rows", none), "multiply_rows", "multiply_rows", defArgs s_multiply_rows, defBody s_multiply_rows, defScope s_multiply_rows, [], []⟩
def ds_divide_rows : He.DefD := ⟨("divide_rows", none), "divide_rows", "divide_rows", defArgs s_divide_rows, defBody s_divide_rows, defScope s_divide_rows, [], []⟩
def ds_common_row : He.DefD := ⟨("common_row", none), "common_row", "common_row", defArgs s_common_row, defBody s_common_row, defScope s_common_row, [], []⟩
def ds_power_row : He.DefD := ⟨("power_row", none), "power_row", "power_row", defArgs s_power_row, defBody s_power_row, defScope s_power_row, [], []⟩
def ds_is_irreducible_row : He.DefD := ⟨("is_irreducible_row", none), "is_irreducible_row", "is_irreducible_row", defArgs s_is_irreducible_row, defBody s_is_irreducible_row, defScope s_is_irreducible_row, [], []⟩
def ds_is_member_row : He.DefD := ⟨("is_member_row", none), "is_member_row", "is_member_row", defArgs s_is_member_row, defBody s_is_member_row, defScope s_is_member_row, [], []⟩
def ds_member_of : He.DefD := ⟨("member_of", none), "member_of", "member_of", defArgs s_member_of, defBody s_member_of, defScope s_member_of, [], []⟩
def ds_member_sum : He.DefD := ⟨("member_sum", none), "member_sum", "member_sum", defArgs s_member_sum, defBody s_member_sum, defScope s_member_sum, [], []⟩
def ds_member_negative : He.DefD := ⟨("member_negative", none), "member_negative", "member_negative", defArgs s_member_negative, defBody s_member_negative, defScope s_member_negative, [], []⟩
def ds_member_product : He.DefD := ⟨("member_product", none), "member_product", "member_product", defArgs s_member_product, defBody s_member_product, defScope s_member_product, [], []⟩
def ds_member_inverse : He.DefD := ⟨("member_inverse", none), "member_inverse", "member_inverse", defArgs s_member_inverse, defBody s_member_inverse, defScope s_member_inverse, [], []⟩
def ds__trimmed : He.DefD := ⟨("_trimmed", none), "_trimmed", "_trimmed", defArgs s__trimmed, defBody s__trimmed, defScope s__trimmed, [], []⟩
def ds__add : He.DefD := ⟨("_add", none), "_add", "_add", defArgs s__add, defBody s__add, defScope s__add, [], []⟩
def ds__negative : He.DefD := ⟨("_negative", none), "_negative", "_negative", defArgs s__negative, defBody s__negative, defScope s__negative, [], []⟩
def ds__multiply : He.DefD := ⟨("_multiply", none), "_multiply", "_multiply", defArgs s__multiply, defBody s__multiply, defScope s__multiply, [], []⟩
def ds__divide : He.DefD := ⟨("_divide", none), "_divide", "_divide", defArgs s__divide, defBody s__divide, defScope s__divide, [], []⟩
def ds_Poly_m___init__ : He.DefD := ⟨("Poly", some "__init__"), "__init__", "Poly.__init__", defArgs s_Poly_m___init__, defBody s_Poly_m___init__, defScope s_Poly_m___init__, [], []⟩
def ds_Poly_m___sub__ : He.DefD := ⟨("Poly", some "__sub__"), "__sub__", "Poly.__sub__", defArgs s_Poly_m___sub__, defBody s_Poly_m___sub__, defScope s_Poly_m___sub__, [], []⟩
def ds_Poly_m___mul__ : He.DefD := ⟨("Poly", some "__mul__"), "__mul__", "Poly.__mul__", defArgs s_Poly_m___mul__, defBody s_Poly_m___mul__, defScope s_Poly_m___mul__, [], []⟩
def ds_Poly_m___floordiv__ : He.DefD := ⟨("Poly", some "__floordiv__"), "__floordiv__", "Poly.__floordiv__", defArgs s_Poly_m___floordiv__, defBody s_Poly_m___floordiv__, defScope s_Poly_m___floordiv__, [], []⟩
def ds_Poly_m___mod__ : He.DefD := ⟨("Poly", some "__mod__"), "__mod__", "Poly.__mod__", defArgs s_Poly_m___mod__, defBody s_Poly_m___mod__, defScope s_Poly_m___mod__, [], []⟩
def ds_Poly_m_degree : He.DefD := ⟨("Poly", some "degree"), "degree", "Poly.degree", defArgs s_Poly_m_degree, defBody s_Poly_m_degree, defScope s_Poly_m_degree, [], []⟩
def ds_Poly_m_is_zero : He.DefD := ⟨("Poly", some "is_zero"), "is_zero", "Poly.is_zero", defArgs s_Poly_m_is_zero, defBody s_Poly_m_is_zero, defScope s_Poly_m_is_zero, [], []⟩
def ds_Poly_m_leading : He.DefD := ⟨("Poly", some "leading"), "leading", "Poly.leading", defArgs s_Poly_m_leading, defBody s_Poly_m_leading, defScope s_Poly_m_leading, [], []⟩
def ds_Poly_m_coefficient : He.DefD := ⟨("Poly", some "coefficient"), "coefficient", "Poly.coefficient", defArgs s_Poly_m_coefficient, defBody s_Poly_m_coefficient, defScope s_Poly_m_coefficient, [], []⟩
def ds_Poly_m_scaled : He.DefD := ⟨("Poly", some "scaled"), "scaled", "Poly.scaled", defArgs s_Poly_m_scaled, defBody s_Poly_m_scaled, defScope s_Poly_m_scaled, [], []⟩
def ds_Poly_m_monic : He.DefD := ⟨("Poly", some "monic"), "monic", "Poly.monic", defArgs s_Poly_m_monic, defBody s_Poly_m_monic, defScope s_Poly_m_monic, [], []⟩
def ds_Poly_m_derivative : He.DefD := ⟨("Poly", some "derivative"), "derivative", "Poly.derivative", defArgs s_Poly_m_derivative, defBody s_Poly_m_derivative, defScope s_Poly_m_derivative, [], []⟩
def ds_Poly_m_power_modulo : He.DefD := ⟨("Poly", some "power_modulo"), "power_modulo", "Poly.power_modulo", defArgs s_Poly_m_power_modulo, defBody s_Poly_m_power_modulo, defScope s_Poly_m_power_modulo, [], []⟩
def ds_Poly_m_key : He.DefD := ⟨("Poly", some "key"), "key", "Poly.key", defArgs s_Poly_m_key, defBody s_Poly_m_key, defScope s_Poly_m_key, [], []⟩
def ds_constant : He.DefD := ⟨("constant", none), "constant", "constant", defArgs s_constant, defBody s_constant, defScope s_constant, [], []⟩
def ds_monomial : He.DefD := ⟨("monomial", none), "monomial", "monomial", defArgs s_monomial, defBody s_monomial, defScope s_monomial, [], []⟩
def ds_variable : He.DefD := ⟨("variable", none), "variable", "variable", defArgs s_variable, defBody s_variable, defScope s_variable, [], []⟩
def ds_common_divisor : He.DefD := ⟨("common_divisor", none), "common_divisor", "common_divisor", defArgs s_common_divisor, defBody s_common_divisor, defScope s_common_divisor, [], []⟩
def ds_is_squarefree : He.DefD := ⟨("is_squarefree", none), "is_squarefree", "is_squarefree", defArgs s_is_squarefree, defBody s_is_squarefree, defScope s_is_squarefree, [], []⟩
def ds_prime_root : He.DefD := ⟨("prime_root", none), "prime_root", "prime_root", defArgs s_prime_root, defBody s_prime_root, defScope s_prime_root, [], []⟩
def ds_parts_of : He.DefD := ⟨("parts_of", none), "parts_of", "parts_of", defArgs s_parts_of, defBody s_parts_of, defScope s_parts_of, [], []⟩
def ds_squarefree_parts : He.DefD := ⟨("squarefree_parts", none), "squarefree_parts", "squarefree_parts", defArgs s_squarefree_parts, defBody s_squarefree_parts, defScope s_squarefree_parts, [], []⟩
def ds_checked : He.DefD := ⟨("checked", none), "checked", "checked", defArgs s_checked, defBody s_checked, defScope s_checked, [], []⟩
def ds_padded : He.DefD := ⟨("padded", none), "padded", "padded", defArgs s_padded, defBody s_padded, defScope s_padded, [], []⟩
def ds_fixed_space : He.DefD := ⟨("fixed_space", none), "fixed_space", "fixed_space", defArgs s_fixed_space, defBody s_fixed_space, defScope s_fixed_space, [], []⟩
def ds_parted : He.DefD := ⟨("parted", none), "parted", "parted", defArgs s_parted, defBody s_parted, defScope s_parted, [], []⟩
def ds_divided : He.DefD := ⟨("divided", none), "divided", "divided", defArgs s_divided, defBody s_divided, defScope s_divided, [], []⟩
def ds_factors : He.DefD := ⟨("factors", none), "factors", "factors", defArgs s_factors, defBody s_factors, defScope s_factors, [], []⟩
def ds__checked_modulus : He.DefD := ⟨("_checked_modulus", none), "_checked_modulus", "_checked_modulus", defArgs s__checked_modulus, defBody s__checked_modulus, defScope s__checked_modulus, [], []⟩
def ds_Field_m___init__ : He.DefD := ⟨("Field", some "__init__"), "__init__", "Field.__init__", defArgs s_Field_m___init__, defBody s_Field_m___init__, defScope s_Field_m___init__, [.adr (He.dflAt ("Field", some "__init__") 0)], []⟩
def ds_Field_m___eq__ : He.DefD := ⟨("Field", some "__eq__"), "__eq__", "Field.__eq__", defArgs s_Field_m___eq__, defBody s_Field_m___eq__, defScope s_Field_m___eq__, [], []⟩
def ds_Field_m_integer : He.DefD := ⟨("Field", some "integer"), "integer", "Field.integer", defArgs s_Field_m_integer, defBody s_Field_m_integer, defScope s_Field_m_integer, [], []⟩
def ds_Field_m_zero : He.DefD := ⟨("Field", some "zero"), "zero", "Field.zero", defArgs s_Field_m_zero, defBody s_Field_m_zero, defScope s_Field_m_zero, [], []⟩
def ds_Field_m_one : He.DefD := ⟨("Field", some "one"), "one", "Field.one", defArgs s_Field_m_one, defBody s_Field_m_one, defScope s_Field_m_one, [], []⟩
def ds_Field_m_add : He.DefD := ⟨("Field", some "add"), "add", "Field.add", defArgs s_Field_m_add, defBody s_Field_m_add, defScope s_Field_m_add, [], []⟩
def ds_Field_m_negative : He.DefD := ⟨("Field", some "negative"), "negative", "Field.negative", defArgs s_Field_m_negative, defBody s_Field_m_negative, defScope s_Field_m_negative, [], []⟩
def ds_Field_m_multiply : He.DefD := ⟨("Field", some "multiply"), "multiply", "Field.multiply", defArgs s_Field_m_multiply, defBody s_Field_m_multiply, defScope s_Field_m_multiply, [], []⟩
def ds_Field_m_inverse : He.DefD := ⟨("Field", some "inverse"), "inverse", "Field.inverse", defArgs s_Field_m_inverse, defBody s_Field_m_inverse, defScope s_Field_m_inverse, [], []⟩
def ds_Field_m_power : He.DefD := ⟨("Field", some "power"), "power", "Field.power", defArgs s_Field_m_power, defBody s_Field_m_power, defScope s_Field_m_power, [], []⟩
def ds_Field_m_member : He.DefD := ⟨("Field", some "member"), "member", "Field.member", defArgs s_Field_m_member, defBody s_Field_m_member, defScope s_Field_m_member, [], []⟩
def ds_Field_m_members : He.DefD := ⟨("Field", some "members"), "members", "Field.members", defArgs s_Field_m_members, defBody s_Field_m_members, defScope s_Field_m_members, [], []⟩
def ds__law_numbers : He.DefD := ⟨("_law_numbers", none), "_law_numbers", "_law_numbers", defArgs s__law_numbers, defBody s__law_numbers, defScope s__law_numbers, [], []⟩
def ds__law_next : He.DefD := ⟨("_law_next", none), "_law_next", "_law_next", defArgs s__law_next, defBody s__law_next, defScope s__law_next, [], []⟩
def ds__law_member : He.DefD := ⟨("_law_member", none), "_law_member", "_law_member", defArgs s__law_member, defBody s__law_member, defScope s__law_member, [], []⟩
def ds__law_number : He.DefD := ⟨("_law_number", none), "_law_number", "_law_number", defArgs s__law_number, defBody s__law_number, defScope s__law_number, [], []⟩
def ds__law_modulus : He.DefD := ⟨("_law_modulus", none), "_law_modulus", "_law_modulus", defArgs s__law_modulus, defBody s__law_modulus, defScope s__law_modulus, [], []⟩
def ds__law_field : He.DefD := ⟨("_law_field", none), "_law_field", "_law_field", defArgs s__law_field, defBody s__law_field, defScope s__law_field, [], []⟩
def ds__law_add : He.DefD := ⟨("_law_add", none), "_law_add", "_law_add", defArgs s__law_add, defBody s__law_add, defScope s__law_add, [], []⟩
def ds__law_times : He.DefD := ⟨("_law_times", none), "_law_times", "_law_times", defArgs s__law_times, defBody s__law_times, defScope s__law_times, [], []⟩
def ds__law_minus : He.DefD := ⟨("_law_minus", none), "_law_minus", "_law_minus", defArgs s__law_minus, defBody s__law_minus, defScope s__law_minus, [], []⟩
def ds__law_zero : He.DefD := ⟨("_law_zero", none), "_law_zero", "_law_zero", defArgs s__law_zero, defBody s__law_zero, defScope s__law_zero, [], []⟩
def ds__law_one : He.DefD := ⟨("_law_one", none), "_law_one", "_law_one", defArgs s__law_one, defBody s__law_one, defScope s__law_one, [], []⟩
def ds__law_trim : He.DefD := ⟨("_law_trim", none), "_law_trim", "_law_trim", defArgs s__law_trim, defBody s__law_trim, defScope s__law_trim, [], []⟩
def ds__law_product : He.DefD := ⟨("_law_product", none), "_law_product", "_law_product", defArgs s__law_product, defBody s__law_product, defScope s__law_product, [], []⟩
def ds__law_rest : He.DefD := ⟨("_law_rest", none), "_law_rest", "_law_rest", defArgs s__law_rest, defBody s__law_rest, defScope s__law_rest, [], []⟩
def ds__law_monic : He.DefD := ⟨("_law_monic", none), "_law_monic", "_law_monic", defArgs s__law_monic, defBody s__law_monic, defScope s__law_monic, [], []⟩
def ds__law_count : He.DefD := ⟨("_law_count", none), "_law_count", "_law_count", defArgs s__law_count, defBody s__law_count, defScope s__law_count, [], []⟩
def ds__law_is_irreducible : He.DefD := ⟨("_law_is_irreducible", none), "_law_is_irreducible", "_law_is_irreducible", defArgs s__law_is_irreducible, defBody s__law_is_irreducible, defScope s__law_is_irreducible, [], []⟩
def ds__law_key : He.DefD := ⟨("_law_key", none), "_law_key", "_law_key", defArgs s__law_key, defBody s__law_key, defScope s__law_key, [], []⟩
def ds__law_irreducible : He.DefD := ⟨("_law_irreducible", none), "_law_irreducible", "_law_irreducible", defArgs s__law_irreducible, defBody s__law_irreducible, defScope s__law_irreducible, [], []⟩
def ds__law_drawn : He.DefD := ⟨("_law_drawn", none), "_law_drawn", "_law_drawn", defArgs s__law_drawn, defBody s__law_drawn, defScope s__law_drawn, [], []⟩
def ds__law_whole : He.DefD := ⟨("_law_whole", none), "_law_whole", "_law_whole", defArgs s__law_whole, defBody s__law_whole, defScope s__law_whole, [], []⟩
def ds__law_refuses : He.DefD := ⟨("_law_refuses", none), "_law_refuses", "_law_refuses", defArgs s__law_refuses, defBody s__law_refuses, defScope s__law_refuses, [], []⟩
def ds_law : He.DefD := ⟨("law", none), "law", "law", defArgs s_law, defBody s_law, defScope s_law, [], []⟩
def fn : List He.DefD := [ds_subtract, ds_cleared, ds_reduced, ds_kernel, ds_is_integer, ds_prime_powers, ds_is_prime, ds_inverse_modulo, ds_trimmed, ds_add_rows, ds_subtract_rows, ds_multiply_rows, ds_divide_rows, ds_common_row, ds_power_row, ds_is_irreducible_row, ds_is_member_row, ds_member_of, ds_member_sum, ds_member_negative, ds_member_product, ds_member_inverse, ds__trimmed, ds__add, ds__negative, ds__multiply, ds__divide, ds_Poly_m___init__, ds_Poly_m___sub__, ds_Poly_m___mul__, ds_Poly_m___floordiv__, ds_Poly_m___mod__, ds_Poly_m_degree, ds_Poly_m_is_zero, ds_Poly_m_leading, ds_Poly_m_coefficient, ds_Poly_m_scaled, ds_Poly_m_monic, ds_Poly_m_derivative, ds_Poly_m_power_modulo, ds_Poly_m_key, ds_constant, ds_monomial, ds_variable, ds_common_divisor, ds_is_squarefree, ds_prime_root, ds_parts_of, ds_squarefree_parts, ds_checked, ds_padded, ds_fixed_space, ds_parted, ds_divided, ds_factors, ds__checked_modulus, ds_Field_m___init__, ds_Field_m___eq__, ds_Field_m_integer, ds_Field_m_zero, ds_Field_m_one, ds_Field_m_add, ds_Field_m_negative, ds_Field_m_multiply, ds_Field_m_inverse, ds_Field_m_power, ds_Field_m_member, ds_Field_m_members, ds__law_numbers, ds__law_next, ds__law_member, ds__law_number, ds__law_modulus, ds__law_field, ds__law_add, ds__law_times, ds__law_minus, ds__law_zero, ds__law_one, ds__law_trim, ds__law_product, ds__law_rest, ds__law_monic, ds__law_count, ds__law_is_irreducible, ds__law_key, ds__law_irreducible, ds__law_drawn, ds__law_whole, ds__law_refuses, ds_law]
def fa : List He.Fa := [.exc "ZeroDivisor", .exm "ZeroDivisor" "ZeroDivisor" true, .glo "subtract", .glo "cleared", .glo "reduced", .glo "kernel", .glo "is_integer", .glo "prime_powers", .glo "is_prime", .glo "inverse_modulo", .glo "trimmed", .glo "add_rows", .glo "subtract_rows", .glo "multiply_rows", .glo "divide_rows", .glo "common_row", .glo "power_row", .glo "is_irreducible_row", .glo "is_member_row", .glo "member_of", .glo "member_sum", .glo "member_negative", .glo "member_product", .glo "member_inverse", .glo "_trimmed", .glo "_add", .glo "_negative", .glo "_multiply", .glo "_divide", .glo "constant", .glo "monomial", .glo "variable", .glo "common_divisor", .glo "is_squarefree", .glo "prime_root", .glo "parts_of", .glo "squarefree_parts", .glo "checked", .glo "padded", .glo "fixed_space", .glo "parted", .glo "divided", .glo "factors", .glo "_checked_modulus", .glo "_law_numbers", .glo "_law_next", .glo "_law_member", .glo "_law_number", .glo "_law_modulus", .glo "_law_field", .glo "_law_add", .glo "_law_times", .glo "_law_minus", .glo "_law_zero", .glo "_law_one", .glo "_law_trim", .glo "_law_product", .glo "_law_rest", .glo "_law_monic", .glo "_law_count", .glo "_law_is_irreducible", .glo "_law_key", .glo "_law_irreducible", .glo "_law_drawn", .glo "_law_whole", .glo "_law_refuses", .glo "law", .glo "Poly", .glo "Field", .glo "ZeroDivisor", .glo "Malformed", .glo "Refused", .glo "Fault", .free "abs", .free "min", .free "max", .free "len", .free "range", .free "sum", .free "tuple", .free "list", .free "int", .free "sorted", .free "enumerate", .free "zip", .free "reversed", .free "isinstance", .free "bool", .free "ValueError", .int "MOST" 400, .cls "Poly", .cls "Field", .mkr "Poly", .mkr "Field", .noat "Poly" "field", .noat "Poly" "row", .noat "Field" "modulus", .noat "Field" "p", .noat "Field" "n", .noat "Field" "q", .meth "Poly" "__init__", .meth "Poly" "__sub__", .meth "Poly" "__mul__", .meth "Poly" "__floordiv__", .meth "Poly" "__mod__", .meth "Poly" "degree", .meth "Poly" "is_zero", .meth "Poly" "leading", .meth "Poly" "coefficient", .meth "Poly" "scaled", .meth "Poly" "monic", .meth "Poly" "derivative", .meth "Poly" "power_modulo", .meth "Poly" "key", .meth "Field" "__init__", .meth "Field" "__eq__", .meth "Field" "integer", .meth "Field" "zero", .meth "Field" "one", .meth "Field" "add", .meth "Field" "negative", .meth "Field" "multiply", .meth "Field" "inverse", .meth "Field" "power", .meth "Field" "member", .meth "Field" "members"]
def nm0 : List PySem.Str := ["_wall", "Fault", "ZeroDivisor", "Malformed", "Refused", "subtract", "cleared", "reduced", "kernel", "is_integer", "prime_powers", "is_prime", "inverse_modulo", "trimmed", "add_rows"]
def nm1 : List PySem.Str := ["subtract_rows", "multiply_rows", "divide_rows", "common_row", "power_row", "is_irreducible_row", "is_member_row", "member_of", "member_sum", "member_negative", "member_product", "member_inverse", "member_text", "_trimmed", "_add"]
def nm2 : List PySem.Str := ["_negative", "_multiply", "_divide", "Poly", "constant", "monomial", "variable", "common_divisor", "is_squarefree", "prime_root", "parts_of", "squarefree_parts", "checked", "padded", "fixed_space"]
def nm3 : List PySem.Str := ["parted", "divided", "factors", "MOST", "_checked_modulus", "Field", "_law_numbers", "_law_next", "_law_member", "_law_number", "_law_modulus", "_law_field", "_law_add", "_law_times", "_law_minus"]
def nm4 : List PySem.Str := ["_law_zero", "_law_one", "_law_trim", "_law_product", "_law_rest", "_law_monic", "_law_count", "_law_is_irreducible", "_law_key", "_law_irreducible", "_law_drawn", "_law_whole", "_law_refuses"]
def nms : List PySem.Str := nm0 ++ nm1 ++ nm2 ++ nm3 ++ nm4
def sd0 : List PySem.Str := ["Fault", "ZeroDivisor", "Malformed", "Refused", "subtract", "cleared", "reduced", "kernel", "is_integer", "prime_powers", "is_prime", "inverse_modulo", "trimmed", "add_rows", "subtract_rows"]
def sd1 : List PySem.Str := ["multiply_rows", "divide_rows", "common_row", "power_row", "is_irreducible_row", "is_member_row", "member_of", "member_sum", "member_negative", "member_product", "member_inverse", "_trimmed", "_add", "_negative", "_multiply"]
def sd2 : List PySem.Str := ["_divide", "Poly", "constant", "monomial", "variable", "common_divisor", "is_squarefree", "prime_root", "parts_of", "squarefree_parts", "checked", "padded", "fixed_space", "parted", "divided"]
def sd3 : List PySem.Str := ["factors", "_checked_modulus", "Field", "_law_numbers", "_law_next", "_law_member", "_law_number", "_law_modulus", "_law_field", "_law_add", "_law_times", "_law_minus", "_law_zero", "_law_one", "_law_trim"]
def sd4 : List PySem.Str := ["_law_product", "_law_rest", "_law_monic", "_law_count", "_law_is_irreducible", "_law_key", "_law_irreducible", "_law_drawn", "_law_whole", "_law_refuses", "law"]
def seedN : List PySem.Str := sd0 ++ sd1 ++ sd2 ++ sd3 ++ sd4
/-! ### the Hook of this claim: a small part of the heap, found from the names -/
def lev0 (g : Addr → Option Obj) : List Addr := seedN.map fun x => He.ga (He.frG g [mainGlobals]) x
def refsL (g : Addr → Option Obj) (as : List Addr) : List Addr := as.flatMap fun a => match g a with
  | some o => He.refsD o
  | none => []
/-- not a table of code objects -/
def noTab (g : Addr → Option Obj) (a : Addr) : Bool := match g a with
  | some ⟨.none, _, _, _⟩ => false
  | _ => true
def asZ (g : Addr → Option Obj) : List Addr :=
  let l0 := lev0 g
  let l1 := refsL g l0
  let l2 := refsL g l1
  let l3 := refsL g l2
  mainGlobals :: ((l0 ++ (l1 ++ (l2 ++ l3))).filter (noTab g))
def isTab : Option Obj → Bool
  | some ⟨.none, none, .fields ⟨[]⟩, ⟨[]⟩⟩ => true
  | _ => false
theorem isTab_ok {o : Option Obj} (h : isTab o = true) : o = some { cls := .none, data := .fields #[] } := by
  unfold isTab at h
  split at h
  · rfl
  · cases h
/-- a def's code object, its table -/
def cAd (K : PySem.W.Frag) (p : Str × Option Str) : Addr := match K.lookup (He.fAd K p) with
  | some ⟨_, _, .func fd, _⟩ => (match fd.code with
    | .ref c => c
    | _ => 0)
  | _ => 0
def cRf (K : PySem.W.Frag) (p : Str × Option Str) : Bool := match K.lookup (He.fAd K p) with
  | some ⟨_, _, .func fd, _⟩ => (match fd.code with
    | .ref _ => true
    | _ => false)
  | _ => false
theorem cRf_ok {K : PySem.W.Frag} {p : Str × Option Str} {oc : Value} {od : Option Addr} {fd : FuncData} {osl : Array (Option Value)} (h : cRf K p = true) (e : K.lookup (He.fAd K p) = some ⟨oc, od, .func fd, osl⟩) : fd.code = .ref (cAd K p) := by
  unfold cRf at h
  unfold cAd
  rw [e] at h ⊢
  dsimp only at h ⊢
  split at h
  · rename_i c q
    rw [q]
  · cases h
def tAd (K : PySem.W.Frag) (p : Str × Option Str) : Addr := match K.lookup (cAd K p) with
  | some ⟨_, _, .fields vs, _⟩ => (match (vs[11]? : Option Value) with
    | some (.ref P) => P
    | _ => 0)
  | _ => 0
def pDi : Str × Option Str := ("divided", none)
def pFa : Str × Option Str := ("factors", none)
def exK (K : PySem.W.Frag) : Bool :=
  PySem.W.selfFirst K (He.ga K "Poly") && (decide (PySem.W.mroIn K (He.ga K "Field") (.type "object") = some true) && (He.eqO (PySem.W.findIn K (.ref (He.ga K "Field")) "__ne__") (some (some (.builtin "object.__ne__"))) &&
    (He.eqO (PySem.W.findIn K (.ref (He.ga K "Field")) "__class__") (some (some (.builtin "object.__class__"))) && (He.eqO (PySem.W.specialIn K (.builtin "object.__class__") "__get__") (some (some (.builtin "getset_descriptor.__get__"))) && (decide (PySem.W.takesIn K (.builtin "object.__class__") = some true) &&
    ((cRf K pDi && (PySem.W.codeHdIn K (cAd K pDi) (tAd K pDi) && (K.lookup (tAd K pDi)).isNone)) && ((cRf K pFa && (PySem.W.codeHdIn K (cAd K pFa) (tAd K pFa) && (K.lookup (tAd K pFa)).isNone)) && !Nat.beq (tAd K pDi) (tAd K pFa))))))))
structure ExK (K : PySem.W.Frag) : Prop where
  sf : PySem.W.selfFirst K (He.ga K "Poly") = true
  mr : PySem.W.mroIn K (He.ga K "Field") (.type "object") = some true
  ne : PySem.W.findIn K (.ref (He.ga K "Field")) "__ne__" = some (some (.builtin "object.__ne__"))
  cl : PySem.W.findIn K (.ref (He.ga K "Field")) "__class__" = some (some (.builtin "object.__class__"))
  sp : PySem.W.specialIn K (.builtin "object.__class__") "__get__" = some (some (.builtin "getset_descriptor.__get__"))
  tk : PySem.W.takesIn K (.builtin "object.__class__") = some true
  c1 : cRf K pDi = true
  h1 : PySem.W.codeHdIn K (cAd K pDi) (tAd K pDi) = true
  n1 : K.lookup (tAd K pDi) = none
  c2 : cRf K pFa = true
  h2 : PySem.W.codeHdIn K (cAd K pFa) (tAd K pFa) = true
  n2 : K.lookup (tAd K pFa) = none
  nt : tAd K pDi ≠ tAd K pFa
theorem exK_ok {K : PySem.W.Frag} (h : exK K = true) : ExK K := by
  obtain ⟨a1, h⟩ := He.ba h
  obtain ⟨a2, h⟩ := He.ba h
  obtain ⟨a3, h⟩ := He.ba h
  obtain ⟨a4, h⟩ := He.ba h
  obtain ⟨a5, h⟩ := He.ba h
  obtain ⟨a6, h⟩ := He.ba h
  obtain ⟨h7, h⟩ := He.ba h
  obtain ⟨a7, h7⟩ := He.ba h7
  obtain ⟨a8, a9⟩ := He.ba h7
  obtain ⟨h8, h⟩ := He.ba h
  obtain ⟨b7, h8⟩ := He.ba h8
  obtain ⟨b8, b9⟩ := He.ba h8
  refine ⟨a1, of_decide_eq_true a2, He.eqO_ok a3, He.eqO_ok a4, He.eqO_ok a5, of_decide_eq_true a6, a7, a8, Option.isNone_iff_eq_none.mp a9, b7, b8, Option.isNone_iff_eq_none.mp b9, fun z => ?_⟩
  rw [z, Bool.not_eq_true'] at h
  rw [Nat.beq_refl] at h
  cases h
abbrev AlZ : Type := He.AlD × Bool
def obsZ (fa : List He.Fa) (fn : List He.DefD) (g : Addr → Option Obj) : AlZ :=
  let K := He.frG g (asZ g)
  (He.obsD fa fn K, exK K && (isTab (g (tAd K pDi)) && isTab (g (tAd K pFa))))
structure SaysZ (fa : List He.Fa) (fn : List He.DefD) (K : PySem.W.Frag) (h : Heap) : Prop where
  i : K.In h
  d : He.SaysD fa fn K
  x : exK K = true
  t1 : h.get? (tAd K pDi) = some { cls := .none, data := .fields #[] }
  t2 : h.get? (tAd K pFa) = some { cls := .none, data := .fields #[] }
def hookZ (fa : List He.Fa) (fn : List He.DefD) : PySem.W.Hook where
  α := AlZ
  obs := fun s => obsZ fa fn s.heap.get?
  val := fun _ => (He.valD fn, true)
  says := fun _ h => ∃ K : PySem.W.Frag, SaysZ fa fn K h
  of := fun _ s e => by
    have e1 : He.obsD fa fn (He.frG s.heap.get? (asZ s.heap.get?)) = He.valD fn := congrArg (fun z : AlZ => z.1) e
    have e2 : (exK (He.frG s.heap.get? (asZ s.heap.get?)) && (isTab (s.heap.get? (tAd (He.frG s.heap.get? (asZ s.heap.get?)) pDi)) && isTab (s.heap.get? (tAd (He.frG s.heap.get? (asZ s.heap.get?)) pFa)))) = true := congrArg (fun z : AlZ => z.2) e
    obtain ⟨x1, x2⟩ := He.ba e2
    obtain ⟨x3, x4⟩ := He.ba x2
    exact ⟨_, He.frG_in, e1, x1, isTab_ok x3, isTab_ok x4⟩
  keeps := fun _ _ _ ⟨K, q⟩ k => ⟨K, PySem.W.Frag.In.keeps q.i k, q.d, q.x, k _ _ q.t1, k _ _ q.t2⟩
theorem obsZ_eq {fa : List He.Fa} {fn : List He.DefD} {g : Addr → Option Obj} {s : Shared} (h : ∀ a, g a = s.heap.get? a) : obsZ fa fn g = (hookZ fa fn).obs s := by
  have e : g = s.heap.get? := funext h
  rw [e] <;> rfl
end FM
namespace FM
open PySem PySem.Spec PyProof.Rows L2
abbrev RowR : PySem.W.OpenRow := PySem.W.OpenLaw.row PySem.Challenge.rw_fieldmaps_k17_whole_factors_by_witness
abbrev hkR : PySem.W.Hook := hookZ fa fn
def obR (s : PySem.W.SharedT) : AlZ := obsZ fa fn (HandSHeadRun.getT s)
theorem obR_eq (s : PySem.W.SharedT) : obR s = hkR.obs s.abs := obsZ_eq (HandSHeadRun.getT_eq s)
theorem runR (w : World) : HandSHeadRun.RunEq RowR (PySem.W.view RowR.prog [81]) hkR obR 20000 nms w := by
  intro os
  kernel_rfl
end FM
/-! enumerate over a tuple -/
namespace PySem
open PySem.Builtin
theorem fm_meets_enumB0 {v : Value} {o : Obj} {H : Heap → Prop} (B : Begins v o H) :
    Meets (Builtin.«enumerate.__new__» ⟨[.type "enumerate", v], []⟩) (fun _ R s => H s.heap ∧
      R (.ok (.ret (.ref (s.heap.push o).objs.size))) { s with heap := (s.heap.push o).push { cls := .type "enumerate", data := .fields #[.none, .bool false, .ref s.heap.objs.size, rawInt 0, .none, .none] } }) :=
  .of_wp fun prog w A R s h => by
    obtain ⟨hp, g, d, tk, os⟩ := s; obtain ⟨h1, h⟩ := h
    have hsub := sub_enumerate
    have q1 : ∀ {A' : Around} {E : Value → Shared → Prop} {Q : Value → Shared → Prop}, Q (.ref hp.objs.size) ⟨hp.push o, g, d, tk, os⟩ → wpAny (model prog w) A' (pyIter v) Q E ⟨hp, g, d, tk, os⟩ :=
      fun q => B.iter prog w _ _ ⟨hp, g, d, tk, os⟩ _ h1 q
    wp_walk using q1
    refine wpAny_stack_any fun st => wpAny_pure ?_
    split
    · rename_i c _ _ _ _ _
      cases (c == Value.type "enumerate")
      · wp_walk using q1
        exact ⟨_, rfl, h⟩
      · wp_walk using q1
        exact ⟨_, rfl, h⟩
    · wp_walk using q1
      exact ⟨_, rfl, h⟩
theorem fm_enum_begins0 {prog : Program} {w : World} {A : Around} {E : Value → Shared → Prop} {s : Shared} {v : Value} {o : Obj} {H : Heap → Prop} {Q : Value → Shared → Prop} (B : Begins v o H) (h1 : H s.heap)
    (h : ∀ h', IsEnum h' (s.heap.objs.size + 1) s.heap.objs.size 0 .none → h'.get? s.heap.objs.size = some o → h'.objs.size = s.heap.objs.size + 2 →
      (∀ b o, s.heap.get? b = some o → h'.get? b = some o) → Q (.ref (s.heap.objs.size + 1)) { s with heap := h' }) :
    wpAny (model prog w) A (call (.type "enumerate") [v]) Q E s := by
  refine callType_new F.called_enumerate (by decide) (F.typeCall_enumerate_1 _) (F.newCall_enumerate_1 _) (fun obj => F.args_object_init_2 obj _) F.entry_enumerate_new
    (fm_meets_enumB0 B) ⟨h1, ?_⟩
  have hz : (s.heap.push o).objs.size = s.heap.objs.size + 1 := Heap.size_push ..
  show _ ∧ _
  rw [hz]
  have he : IsEnum ((s.heap.push o).push { cls := .type "enumerate", data := .fields #[.none, .bool false, .ref s.heap.objs.size, rawInt 0, .none, .none] }) (s.heap.objs.size + 1) s.heap.objs.size 0 .none := by
    have := Heap.get?_push_size (s.heap.push o) (o := { cls := .type "enumerate", data := .fields #[.none, .bool false, .ref s.heap.objs.size, rawInt 0, .none, .none] }) rfl
    rw [hz] at this; exact this
  exact ⟨⟨_, he, rfl⟩, h _ he (Heap.get?_push_of_some _ (Heap.get?_push_size _ B.free)) (by rw [Heap.size_push, hz]) fun b o x => Heap.get?_push_of_some _ (Heap.get?_push_of_some _ x)⟩
end PySem
namespace FM
open PySem PySem.Spec PyProof.Rows L2 LamX
def IteT (K : PySem.W.Frag) (a : Addr) : It :=
  ⟨fun i H => ∃ (xs : List V) (x : V), SqT K H a xs ∧ xs[i]? = some x, fun i H v H' => ∃ T x, v = .ref T ∧ H T = none ∧ H' = upd H T (.tup [.int (i : Nat), x]) ∧ ∀ xs, SqT K H a xs → xs[i]? = some x, fun i H => ∃ xs : List V, SqT K H a xs ∧ xs.length ≤ i⟩
theorem turn_enumT {P : Program} {w : World} {K : PySem.W.Frag} {elts : List Expr} {kk : Nat} {tpos : Pos} (a e it : Addr) (hai : a ≠ it) (hae : a ≠ e) :
    Turn P w K (.Tuple elts kk tpos) (IteT K a) [e, it] e (fun i h => (∃ old, IsEnum h e it ((i : Nat) : Int) old) ∧ h.IsTupleIter it a i ∧ e ≠ it) where
  mem := by simp
  obj := fun i h st b hb => by
    obtain ⟨⟨old, he⟩, ⟨o, ho, hc, hd⟩, _⟩ := st
    have e' : b = e ∨ b = it := by simpa using hb
    rcases e' with z | z
    · rw [z]; exact ⟨_, he, fun v q => nomatch q⟩
    · rw [z]; exact ⟨o, ho, fun v q => by rw [hd] at q; cases q⟩
  keep := fun i h h' st k => let ⟨⟨old, he⟩, hi, hne⟩ := st; ⟨⟨old, k e (by simp) _ he⟩, hi.at fun o q => k it (by simp) o q, hne⟩
  item := by
    intro X hP hw hK hc i pins s σ H E I hf st hg
    subst hP hw hK
    obtain ⟨⟨old, he⟩, hit, hne⟩ := st
    obtain ⟨xs, x, hq, hx⟩ := hg
    obtain ⟨its, rv, p, hz⟩ := I.tuple hq
    obtain ⟨u, hu, ru⟩ := rv.get hx
    have hel : e < s.heap.objs.size := Heap.lt_size he
    have hil : it < s.heap.objs.size := by obtain ⟨_, q, _⟩ := hit; exact Heap.lt_size q
    have ti : s.heap.IsTuple a its.toArray := p
    have hlen := rv.length
    have hil2 : i < xs.length := (List.getElem?_eq_some_iff.mp hx).1
    refine wpAny_pyNext_enum_itemD (Draws.tuple (A := X.A.in1) (I.ok.hd hc) it a hai its.toArray) he ⟨hit, ti⟩ (by simp; omega) hne (by simp; exact ⟨hne, Ne.symm hae⟩) fun x' h' tk hP ho hst' hT hsz hk => ?_
    have hit' := hst'.1
    have ex : x' = u := by
      have q1 : its.toArray[i]? = some x' := hP
      have q2 : its.toArray[i]? = some u := by simpa using hu
      rw [q1] at q2
      exact Option.some.inj q2
    subst ex
    refine ⟨_, rfl, wpAny_letOwnedTupleGo_enum (s := { s with heap := h', toks := tk + 1 }) ho fun h'' he' sb => ?_⟩
    have hT2 : h''.get? s.heap.objs.size = some { cls := .type "tuple", data := .seq #[.int i tk, x'] } := (sb.2 _ (Nat.ne_of_gt hel)).trans hT
    have new : ObjOk X.prog X.w (upd H s.heap.objs.size (.tup [.int (i : Nat), x])) h'' s.heap.objs.size (.tup [.int (i : Nat), x]) :=
      ⟨by show 2 ≤ sizeLine; decide, [.int i tk, x'], .cons ⟨_, rfl⟩ (.cons ru .nil), ⟨_, hT2, rfl, _, rfl⟩⟩
    have I1 : Inv X pins σ (upd H s.heap.objs.size (.tup [.int (i : Nat), x])) { s with heap := h'', toks := tk + 1 } :=
      I.turnedNew (ch := [e, it]) (fun b ob hb q => (sb.2 b (fun z => hb (by simp [z]))).trans (hk b ob (fun z => hb (by simp [z])) (fun z => hb (by simp [z])) q)) hf (Nat.le_refl _) new
    refine ⟨.ref s.heap.objs.size, _, I1, rfl, ⟨_, x, rfl, I.hok.fresh (Nat.le_refl _), rfl, fun ys hy => by rw [I.tuple_inj hy hq]; exact hx⟩, ⟨⟨x', ?_⟩, hit'.at fun o q => (sb.2 it (Ne.symm hne)).trans q, hne⟩, fun b hb => ?_⟩
    · have e1 : ((i + 1 : Nat) : Int) = (i : Int) + 1 := by omega
      rw [e1]; exact he'
    · have hb' : b < s.heap.objs.size := by
        have e' : b = e ∨ b = it := by simpa using hb
        rcases e' with z | z
        · rw [z]; exact hel
        · rw [z]; exact hil
      rw [upd_ne (Nat.ne_of_lt hb')]
      exact (hf b hb).1
  done := by
    intro X hP hw hK hc i pins s σ H E I hf st hg
    subst hP hw hK
    obtain ⟨⟨old, he⟩, hit, hne⟩ := st
    obtain ⟨xs, hq, hx⟩ := hg
    obtain ⟨its, rv, p, hz⟩ := I.tuple hq
    obtain ⟨f0, f1, f2, f3, f4, f5⟩ := hf it (by simp)
    have hl := rv.length
    have ti : s.heap.IsTuple a its.toArray := p
    have D : Draws X.prog X.w X.A.in1 it [it, a] i (fun _ _ => True) (fun j h => j = i ∧ h.IsTupleIter it a j ∧ h.IsTuple a its.toArray) := {
      live := fun _ _ st => let ⟨o, ho, _⟩ := st.2.1; ⟨o, ho⟩
      frame := fun _ _ _ st hk => ⟨st.1, st.2.1.at fun o e => hk it (by simp) o e, st.2.2.at fun o e => hk a (by simp) o e⟩
      item := fun j s Q E hi st hQ => by
        have := st.1
        omega
      done := fun s Q E st hE => wpAny_nextOf_tuple_end (I.ok.hd hc) st.2.1 st.2.2 (by simp; omega) hE }
    exact wpAny_pyNext_enum_endD D he ⟨rfl, hit, ti⟩ fun h' eb => ⟨rfl, I.turned (t' := s.toks) (fun b o hb q => eb b o hb q) f0 f1 f3 f4 f5⟩
  self := fun A i s Q E st h => let ⟨⟨_, he⟩, _⟩ := st; wpAny_pyIter_enum he h
def iEnumT (K : PySem.W.Frag) (ta : TA) : TI := fun σ H R => ta σ H fun vs H1 => ∃ a xs, vs = [.ref a] ∧ SqT K H1 a xs ∧ R (IteT K a) H1
theorem pi_enumT {X : Cx} {e : Expr} {ta : TA} {p pos tpos : Pos} {elts : List Expr} {kk : Nat} (hg : Gl X "enumerate") (hm : X.mg "enumerate" = none) (ha : PA X [e] ta) (hs : starEach [e] X.env = [(false, eval e X.env)] := by rfl) :
    PI X (.Tuple elts kk tpos) (.Call (.Name "enumerate" p) [e] [] pos) (iEnumT X.K ta) := by
  refine ⟨fun pins s σ H R I h => ?_⟩
  refine Call_ (ld_blt I hg hm boot_enumerate (PyProof.Rows.callWith_type1 (thn (ha.run pos pins s σ H _ I h) fun us s1 ⟨vs, H1, I1, r1, q1⟩ => ?_) hs rfl))
  obtain ⟨a, xs, ex, hq, q⟩ := q1
  subst ex
  cases r1 with
  | cons r rr =>
    cases rr
    cases r
    obtain ⟨its, rv, p', hz⟩ := I1.tuple hq
    have ti : s1.heap.IsTuple a its.toArray := p'
    have hal : a < s1.heap.objs.size := by obtain ⟨o, q, _⟩ := ti; exact Heap.lt_size q
    refine fm_enum_begins0 (begins_tuple a its.toArray) ti fun h' he hit hsz hk => wpAny_pyIter_enum he ?_
    have I2 : Inv X pins σ H1 { s1 with heap := h' } := I1.kept (t' := s1.toks) hk
    refine ⟨s1.heap.objs.size + 1, [s1.heap.objs.size + 1, s1.heap.objs.size], _, _, H1, rfl, I2, turn_enumT a (s1.heap.objs.size + 1) s1.heap.objs.size (Nat.ne_of_lt hal) (Nat.ne_of_lt (Nat.lt_succ_of_lt hal)), ⟨⟨.none, he⟩, ⟨_, hit, rfl, rfl⟩, Nat.succ_ne_self _⟩, fun b hb => ?_, q⟩
    have e' : b = s1.heap.objs.size + 1 ∨ b = s1.heap.objs.size := by simpa using hb
    have hle : s1.heap.objs.size ≤ b := by
      rcases e' with z | z
      · rw [z]; exact Nat.le_add_right _ _
      · rw [z]; exact Nat.le_refl _
    exact I1.fpOk hle (I1.hok.fresh hle)
/-- (0, x0), (1, x1), .. -/
def enumD {α : Type} (f : α → D) (xs : List α) : List D := xs.zipIdx.map fun q => .tup [.int (q.2 : Nat), f q.1]
theorem evi_enumT {L : Lc} {X : Cx} {S : SlS} {e : Expr} {p pos tpos : Pos} {elts : List Expr} {kk : Nat} {α : Type} {f : α → D} {xs : List α} (hm : X.mg "enumerate" = none) (h : EvE L X e S (.tup (xs.map f))) (hg : Gl X "enumerate" := by rfl) (hs : starEach [e] X.env = [(false, eval e X.env)] := by rfl) :
    EvI L X (.Tuple elts kk tpos) (.Call (.Name "enumerate" p) [e] [] pos) S (xs.zipIdx.map fun q => .tup [.int (q.2 : Nat), f q.1]) :=
  PI.imp (pi_enumT hg hm (eva_cons h eva_nil hs) hs) fun σ H R ⟨G, Rr, q⟩ => ⟨G, Rr, fun G1 H1 vs g1 i1 => by
    cases i1 with
    | cons ha r =>
      cases r
      cases ha with
      | @tup la _ va ea ra =>
        refine ⟨la, va, rfl, SqT.of (g1.gh _ _ ea), q G1 H1 _ g1 fun i G' H' s1 s2 => ?_⟩
        have qa : SqT X.K H' la va := SqT.of (s2 _ _ (s1 _ _ ea))
        refine ⟨fun d hd => ?_, fun hl => ⟨va, qa, ?_⟩⟩
        · obtain ⟨⟨x, j⟩, h1, rfl⟩ := map_get hd
          rw [List.getElem?_zipIdx] at h1
          cases e1 : xs[i]? with
          | none => rw [e1] at h1; cases h1
          | some x' =>
            rw [e1] at h1
            cases h1
            obtain ⟨vx, e2, i2⟩ := ra.get (i := i) (d := f x) (by rw [List.getElem?_map, e1]; rfl)
            refine ⟨⟨va, vx, qa, e2⟩, fun v H'' y => ?_⟩
            obtain ⟨T, x', rfl, hT, rfl, z1⟩ := y
            have w1 := z1 va qa
            rw [e2] at w1
            cases w1
            obtain ⟨g, i⟩ := is_pair (L := L) s2 hT (.int (i : Int)) (i2.mono s1)
            refine ⟨_, g, ?_⟩
            rw [show ((0 + _ : Nat) : Int) = _ from by rw [Nat.zero_add]]
            exact i
        · rw [List.length_map, List.length_zipIdx] at hl
          have := ra.length
          rw [List.length_map] at this
          omega⟩
end FM
set_option autoImplicit false
namespace FM
open PySem PySem.Spec PyProof.Rows L2 LamX
/-! ### == of data -/
mutual
def pd : D → PyData
  | .non => .none
  | .bl b => .bool b
  | .int i => .int i
  | .tup xs => .tuple (pdL xs)
  | .lst xs => .list (pdL xs)
  | .fld _ => .none
  | .pol _ _ => .none
  | .adr _ => .none
  | .scr _ => .none
def pdL : List D → List PyData
  | [] => []
  | d :: ds => pd d :: pdL ds
end
mutual
def pdOk : D → Bool
  | .non => true
  | .bl _ => true
  | .int _ => true
  | .tup xs => pdOkL xs
  | .lst xs => pdOkL xs
  | .fld _ => false
  | .pol _ _ => false
  | .adr _ => false
  | .scr _ => false
def pdOkL : List D → Bool
  | [] => true
  | d :: ds => pdOk d && pdOkL ds
end
section
variable {L : Lc} {G H : Hp} {K : PySem.W.Frag}
mutual
theorem is_dp (s : Sub G H) : ∀ {d : D} {v : V}, Is L G d v → pdOk d = true → Dp K H v (pd d)
  | _, _, .non, _ => .non
  | _, _, .bl b, _ => .bl b
  | _, _, .int i, _ => .int i
  | _, _, .tup e r, h => .tup (SqT.of (s _ _ e)) (isL_dp s r (by simpa [pdOk] using h))
  | _, _, .lst e r, h => .lst (SqL.of (s _ _ e)) (isL_dp s r (by simpa [pdOk] using h))
  | _, _, .fld _ _, h => by simp [pdOk] at h
  | _, _, .pol _ _ _, h => by simp [pdOk] at h
  | _, _, .adr _, h => by simp [pdOk] at h
  | _, _, .scr _, h => by simp [pdOk] at h
theorem isL_dp (s : Sub G H) : ∀ {ds : List D} {vs : List V}, IsL L G ds vs → pdOkL ds = true → DpAll K H vs (pdL ds)
  | _, _, .nil, _ => .nil
  | _, _, .cons a r, h => .cons (is_dp s a (by simp [pdOkL] at h; exact h.1)) (isL_dp s r (by simp [pdOkL] at h; exact h.2))
end
end
mutual
theorem pd_can : ∀ d : D, (pd d).canLay0 = true
  | .non => by simp [pd, PyData.canLay0]
  | .bl _ => by simp [pd, PyData.canLay0]
  | .int _ => by simp [pd, PyData.canLay0]
  | .tup xs => by simp only [pd, PyData.canLay0]; exact pdL_can xs
  | .lst xs => by simp only [pd, PyData.canLay0]; exact pdL_can xs
  | .fld _ => by simp [pd, PyData.canLay0]
  | .pol _ _ => by simp [pd, PyData.canLay0]
  | .adr _ => by simp [pd, PyData.canLay0]
  | .scr _ => by simp [pd, PyData.canLay0]
theorem pdL_can : ∀ ds : List D, PyData.canLayAll0 (pdL ds) = true
  | [] => by simp [pdL, PyData.canLayAll0]
  | d :: ds => by simp only [pdL, PyData.canLayAll0, pd_can d, pdL_can ds]; rfl
end
/-- data of such a depth -/
theorem pd_shaped {d : D} (h : (pd d).depth ≤ 64) : SeqAt.shaped (pd d) = true := by
  unfold SeqAt.shaped
  rw [pd_can, decide_eq_true h]
  rfl
theorem pdL_ints : ∀ xs : List Int, pdL (xs.map .int) = xs.map .int
  | [] => by simp [pdL]
  | x :: xs => by simp only [List.map_cons, pdL, pd, pdL_ints xs]
theorem depth_ints : ∀ xs : List Int, PyData.depthAll (xs.map PyData.int) = 0
  | [] => by simp [PyData.depthAll]
  | x :: xs => by simp only [List.map_cons, PyData.depthAll, PyData.depth, depth_ints xs]; rfl
theorem pdOk_ints : ∀ xs : List Int, pdOkL (xs.map .int) = true
  | [] => by simp [pdOkL]
  | x :: xs => by simp only [List.map_cons, pdOkL, pdOk, pdOk_ints xs]; rfl
theorem eqv_ints : ∀ xs ys : List Int, PyData.eqvAll (xs.map .int) (ys.map .int) = decide (xs = ys)
  | [], [] => by simp [PyData.eqvAll]
  | [], y :: ys => by simp [PyData.eqvAll]
  | x :: xs, [] => by simp [PyData.eqvAll]
  | x :: xs, y :: ys => by
    simp only [List.map_cons, PyData.eqvAll, PyData.eqv, eqv_ints xs ys]
    by_cases h : x = y
    · subst h
      by_cases h2 : xs = ys <;> simp [h2]
    · simp [h]
theorem depth_tI (xs : List Int) : (pd (tI xs)).depth ≤ 64 := by
  unfold tI
  simp only [pd, pdL_ints, PyData.depth, depth_ints]
  decide
theorem ok_tI (xs : List Int) : pdOk (tI xs) = true := by
  unfold tI
  simp only [pdOk, pdOk_ints]
section
variable {L : Lc} {X : Cx} {S : SlS} {a b : Expr} {pos : Pos}
theorem evt_eqD {d1 d2 : D} (hu : X.A.units + 64 < cLine) (ha : EvE L X a S d1) (hb : EvE L X b S d2) (h1 : pdOk d1 = true) (h2 : pdOk d2 = true) (h3 : (pd d1).depth ≤ 64) (h4 : (pd d2).depth ≤ 64) : EvT L X (.Compare a [.Eq] [b] pos) S (PyData.eqv (pd d1) (pd d2)) :=
  evt_cmp (op_eqD hu) ha hb (nomark _) fun G H v1 v2 Q s i1 i2 q => ⟨pd d1, pd d2, is_dp s i1 h1, is_dp s i2 h2, pd_shaped h3, pd_shaped h4, q G H (.refl s)⟩
theorem ev_eqD {d1 d2 : D} (hu : X.A.units + 64 < cLine) (ha : EvE L X a S d1) (hb : EvE L X b S d2) (h1 : pdOk d1 = true) (h2 : pdOk d2 = true) (h3 : (pd d1).depth ≤ 64) (h4 : (pd d2).depth ≤ 64) : EvE L X (.Compare a [.Eq] [b] pos) S (.bl (PyData.eqv (pd d1) (pd d2))) :=
  ev_cmp (op_eqD hu) ha hb (nomark _) fun G H v1 v2 Q s i1 i2 q => ⟨pd d1, pd d2, is_dp s i1 h1, is_dp s i2 h2, pd_shaped h3, pd_shaped h4, q G H _ (.refl s) (.bl _)⟩
theorem evt_neD {d1 d2 : D} (hu : X.A.units + 64 < cLine) (ha : EvE L X a S d1) (hb : EvE L X b S d2) (h1 : pdOk d1 = true) (h2 : pdOk d2 = true) (h3 : (pd d1).depth ≤ 64) (h4 : (pd d2).depth ≤ 64) : EvT L X (.Compare a [.NotEq] [b] pos) S (!PyData.eqv (pd d1) (pd d2)) :=
  evt_cmp (op_neD hu) ha hb (nomark _) fun G H v1 v2 Q s i1 i2 q => ⟨pd d1, pd d2, is_dp s i1 h1, is_dp s i2 h2, pd_shaped h3, pd_shaped h4, q G H (.refl s)⟩
theorem eqv_tI (xs ys : List Int) : PyData.eqv (pd (tI xs)) (pd (tI ys)) = decide (xs = ys) := by
  unfold tI
  simp only [pd, PyData.eqv, pdL_ints, eqv_ints]
theorem evt_eqT {xs ys : List Int} (hu : X.A.units + 64 < cLine) (ha : EvE L X a S (tI xs)) (hb : EvE L X b S (tI ys)) : EvT L X (.Compare a [.Eq] [b] pos) S (decide (xs = ys)) :=
  (evt_eqD hu ha hb (ok_tI _) (ok_tI _) (depth_tI _) (depth_tI _)).is (eqv_tI _ _)
theorem ev_eqT {xs ys : List Int} (hu : X.A.units + 64 < cLine) (ha : EvE L X a S (tI xs)) (hb : EvE L X b S (tI ys)) : EvE L X (.Compare a [.Eq] [b] pos) S (.bl (decide (xs = ys))) :=
  (ev_eqD hu ha hb (ok_tI _) (ok_tI _) (depth_tI _) (depth_tI _)).is (by rw [eqv_tI])
theorem evt_neT {xs ys : List Int} (hu : X.A.units + 64 < cLine) (ha : EvE L X a S (tI xs)) (hb : EvE L X b S (tI ys)) : EvT L X (.Compare a [.NotEq] [b] pos) S (!decide (xs = ys)) :=
  (evt_neD hu ha hb (ok_tI _) (ok_tI _) (depth_tI _) (depth_tI _)).is (by rw [eqv_tI])
/-! ### isinstance -/
theorem boot_isinstance' : bootBuiltins "isinstance" = some (.builtin "isinstance") := by decide +kernel
def tyN : D → Option String
  | .non => some "NoneType"
  | .bl _ => some "bool"
  | .int _ => some "int"
  | .tup _ => some "tuple"
  | .lst _ => some "list"
  | _ => none
theorem is_ty {G H : Hp} {d : D} {v : V} {n : String} {K : PySem.W.Frag} (s : Sub G H) (h : Is L G d v) (e : tyN d = some n) : TyX K H v (.type n) := by
  cases h with
  | non => cases e; exact .base .non
  | bl b => cases e; exact .base (.bl b)
  | int i => cases e; exact .base (.int i)
  | tup e1 r => cases e; exact .base (.tup (s _ _ e1))
  | lst e1 r => cases e; exact .base (.lst (s _ _ e1))
  | fld _ _ => cases e
  | pol _ _ _ => cases e
  | adr _ => cases e
  | scr _ => cases e
/-- isinstance(e, T), T a built-in class -/
theorem ev_isi {e : Expr} {d : D} {n T : String} {r : Bool} {x : Str} {p p2 : Pos} (hm : X.mg "isinstance" = none) (hT : X.mg x = none) (h : EvE L X e S d) (hn : tyN d = some n) (hr : kitB n T = some r) (hg : Gl X "isinstance" := by rfl) (hgT : Gl X x := by rfl) (hv : bootBuiltins x = some (.type T) := by decide +kernel)
    (hs : starEach [e, .Name x p2] X.env = (false, eval e X.env) :: starEach [.Name x p2] X.env := by rfl) (hs2 : starEach [.Name x p2] X.env = (false, eval (.Name x p2) X.env) :: starEach [] X.env := by rfl) (hpl : (backTo pos (starEach [.Name x p2] X.env)).any (·.1) = false := by rfl)
    (hx : x ≠ "__name__" := by decide) (hx2 : (x == ("__debug__" : Str)) = false := by decide) :
    EvE L X (.Call (.Name "isinstance" p) [e, .Name x p2] [] pos) S (.bl r) :=
  PE.imp (pe_callB call_isi hg hm boot_isinstance' (pa_cons h (pa_cons (pe_bltn (v := .ty T) hgT hT hv rfl hx hx2) pa_nil hs2) hs) (by decide) (by decide) hs hpl) fun σ H Q ⟨G, R, q⟩ => ⟨G, R, fun G1 H1 v g1 i1 => ⟨v, .ty T, .type n, .type T, r, rfl, .ty T, is_ty g1.gh i1 hn, kit_ty hr, q G1 H1 _ g1 (.bl _)⟩⟩
/-- isinstance(e, (T, U)) -/
theorem ev_isi2 {e : Expr} {d : D} {n T U : String} {r1 r2 : Bool} {x y : Str} {p p2 p3 p4 : Pos} {kk : Nat} (hm : X.mg "isinstance" = none) (hT : X.mg x = none) (hU : X.mg y = none) (h : EvE L X e S d) (hn : tyN d = some n) (hr : kitB n T = some r1) (hr2 : kitB n U = some r2) (hg : Gl X "isinstance" := by rfl) (hgT : Gl X x := by rfl) (hgU : Gl X y := by rfl)
    (hv : bootBuiltins x = some (.type T) := by decide +kernel) (hvU : bootBuiltins y = some (.type U) := by decide +kernel)
    (hs : starEach [e, .Tuple [.Name x p2, .Name y p3] kk p4] X.env = (false, eval e X.env) :: starEach [.Tuple [.Name x p2, .Name y p3] kk p4] X.env := by rfl) (hs2 : starEach [.Tuple [.Name x p2, .Name y p3] kk p4] X.env = (false, eval (.Tuple [.Name x p2, .Name y p3] kk p4) X.env) :: starEach [] X.env := by rfl)
    (hpl : (backTo pos (starEach [.Tuple [.Name x p2, .Name y p3] kk p4] X.env)).any (·.1) = false := by rfl)
    (hs3 : starEach [.Name x p2, .Name y p3] X.env = (false, eval (.Name x p2) X.env) :: starEach [.Name y p3] X.env := by rfl) (hs4 : starEach [.Name y p3] X.env = (false, eval (.Name y p3) X.env) :: starEach [] X.env := by rfl)
    (hx : x ≠ "__name__" := by decide) (hx2 : (x == ("__debug__" : Str)) = false := by decide) (hy : y ≠ "__name__" := by decide) (hy2 : (y == ("__debug__" : Str)) = false := by decide) :
    EvE L X (.Call (.Name "isinstance" p) [e, .Tuple [.Name x p2, .Name y p3] kk p4] [] pos) S (.bl (r1 || r2)) :=
  PE.imp (pe_callB call_isiT hg hm boot_isinstance' (pa_cons h (pa_cons (pe_tup (pa_cons (pe_bltn (v := .ty T) hgT hT hv rfl hx hx2) (pa_cons (pe_bltn (v := .ty U) hgU hU hvU rfl hy hy2) pa_nil hs4) hs3)) pa_nil hs2) hs) (by decide) (by decide) hs hpl) fun σ H Q ⟨G, R, q⟩ => ⟨G, R, fun G1 H1 v g1 i1 =>
    ⟨by show 2 ≤ sizeLine; decide, fun tp hp => ⟨v, tp, [.ty T, .ty U], .type n, [.type T, .type U], r1 || r2, rfl, upd_same, .cons (.ty T) (.cons (.ty U) .nil), is_ty (fun a o e => upd_sub hp a o (g1.gh a o e)) i1 hn, by
      refine kitAny_cons (kit_ty hr) (fun z => ?_) (fun z => by rw [z]; rfl)
      rw [z, Bool.false_or]
      refine kitAny_cons (kit_ty hr2) (fun z2 => ?_) (fun z2 => z2)
      rw [z2]
      rfl, q _ _ _ (g1.trans (Grow.more g1.gh hp)) (.bl _)⟩⟩⟩
end
end FM
set_option autoImplicit false
namespace FM
open PySem PySem.Spec PyProof.Rows L2 LamX
/-! # numbers and rows -/
structure Txt (K : PySem.W.Frag) (mg : Str → Option Value) (L : Lc) : Prop where
  cls : ClsT K L
  abs : mg "abs" = none
  min : mg "min" = none
  max : mg "max" = none
  len : mg "len" = none
  range : mg "range" = none
  sum : mg "sum" = none
  tuple : mg "tuple" = none
  list : mg "list" = none
  int : mg "int" = none
  sorted : mg "sorted" = none
  enumerate : mg "enumerate" = none
  zip : mg "zip" = none
  reversed : mg "reversed" = none
  isinstance : mg "isinstance" = none
  bool : mg "bool" = none
  most : ∃ t, mg "MOST" = some (.int 400 t)
/-! ## lists -/
def zc {α : Type} (q : α → Bool) (xs : List α) : Nat := (xs.reverse.takeWhile q).length
def dropZ {α : Type} (q : α → Bool) (xs : List α) : List α := xs.take (xs.length - zc q xs)
theorem tw_lt {α : Type} {q : α → Bool} : ∀ {l : List α} {i : Nat}, i < (l.takeWhile q).length → ∃ x, l[i]? = some x ∧ q x = true
  | [], i, h => by simp at h
  | a :: l, i, h => by
    by_cases ha : q a = true
    · rw [List.takeWhile_cons_of_pos ha] at h
      cases i with
      | zero => exact ⟨a, rfl, ha⟩
      | succ i => exact tw_lt (l := l) (i := i) (by simpa using h)
    · rw [List.takeWhile_cons_of_neg ha] at h
      simp at h
theorem tw_at {α : Type} {q : α → Bool} : ∀ {l : List α} {x : α}, l[(l.takeWhile q).length]? = some x → q x = false
  | [], x, h => by simp at h
  | a :: l, x, h => by
    by_cases ha : q a = true
    · rw [List.takeWhile_cons_of_pos ha] at h
      exact tw_at (l := l) (by simpa using h)
    · rw [List.takeWhile_cons_of_neg ha] at h
      simp at h
      subst h
      simpa using ha
theorem tw_le {α : Type} {q : α → Bool} (l : List α) : (l.takeWhile q).length ≤ l.length := (List.takeWhile_sublist q).length_le
theorem zc_le {α : Type} (q : α → Bool) (xs : List α) : zc q xs ≤ xs.length := by
  have := tw_le (q := q) xs.reverse
  rw [List.length_reverse] at this
  exact this
theorem zc_lt {α : Type} {q : α → Bool} {xs : List α} {i : Nat} (h : i < zc q xs) : ∃ x, xs[xs.length - 1 - i]? = some x ∧ q x = true := by
  obtain ⟨x, e, hq⟩ := tw_lt h
  have hi : i < xs.length := Nat.lt_of_lt_of_le h (zc_le q xs)
  rw [List.getElem?_reverse hi] at e
  exact ⟨x, e, hq⟩
theorem zc_at {α : Type} {q : α → Bool} {xs : List α} (h : zc q xs < xs.length) : ∃ x, xs[xs.length - 1 - zc q xs]? = some x ∧ q x = false := by
  have h2 : zc q xs < xs.reverse.length := by rw [List.length_reverse]; exact h
  have e : xs.reverse[zc q xs]? = some xs.reverse[zc q xs] := List.getElem?_eq_getElem h2
  have hq := tw_at e
  rw [List.getElem?_reverse h] at e
  exact ⟨_, e, hq⟩
theorem dropZ_len {α : Type} (q : α → Bool) (xs : List α) : (dropZ q xs).length ≤ xs.length := by
  unfold dropZ
  rw [List.length_take]
  omega
theorem getD_of {α : Type} {l : List α} {i : Nat} {z x : α} (h : l[i]? = some x) : l.getD i z = x := by
  rw [List.getD_eq_getElem?_getD, h]
  rfl
theorem get_of {α : Type} {l : List α} {i : Nat} (z : α) (h : i < l.length) : l[i]? = some (l.getD i z) := by
  rw [List.getD_eq_getElem?_getD, List.getElem?_eq_getElem h]
  rfl
theorem ixn {n : Nat} {i : Nat} (h : i < n) : ixN n (i : Int) = some i := by
  unfold ixN
  rw [if_pos (by omega), if_pos (by omega)]
  rfl
theorem atI_of {α : Type} {xs : List α} {i : Int} {j : Nat} {x : α} (hj : i = (j : Int)) (h : xs[j]? = some x) : atI xs i = some x := by
  rw [hj]
  exact atN h
theorem ixN_of {n : Nat} {i : Int} {j : Nat} (hj : i = (j : Int)) (h : j < n) : ixN n i = some j := by
  rw [hj]
  exact ixn h
/-- the schoolbook product, turn by turn -/
def mulIn {α : Type} (z : α) (ad ml : α → α → α) (out : List α) (i : Nat) (x : α) (b : List α) : Nat → List α
  | 0 => out
  | k + 1 => (mulIn z ad ml out i x b k).set (i + k) (ad ((mulIn z ad ml out i x b k).getD (i + k) z) (ml x (b.getD k z)))
def mulOut {α : Type} (z : α) (ad ml : α → α → α) (a b : List α) : Nat → List α
  | 0 => List.replicate (a.length + b.length) z
  | i + 1 => mulIn z ad ml (mulOut z ad ml a b i) i (a.getD i z) b b.length
theorem mulIn_len {α : Type} {z : α} {ad ml : α → α → α} {out : List α} {i : Nat} {x : α} {b : List α} : ∀ k, (mulIn z ad ml out i x b k).length = out.length
  | 0 => rfl
  | k + 1 => by rw [mulIn, List.length_set, mulIn_len k]
theorem mulOut_len {α : Type} {z : α} {ad ml : α → α → α} {a b : List α} : ∀ k, (mulOut z ad ml a b k).length = a.length + b.length
  | 0 => by rw [mulOut, List.length_replicate]
  | k + 1 => by rw [mulOut, mulIn_len, mulOut_len k]
/-- the division, turn by turn -/
def divIn {α : Type} (z : α) (sb : α → α → α → α) (rest : List α) (k : Nat) (f : α) (b : List α) : Nat → List α
  | 0 => rest
  | i + 1 => (divIn z sb rest k f b i).set (k + i) (sb ((divIn z sb rest k f b i).getD (k + i) z) f (b.getD i z))
def divSt {α : Type} (z : α) (fc : α → α → α) (sb : α → α → α → α) (a b : List α) (l : α) (m : Nat) : Nat → List α × List α
  | 0 => (List.replicate m z, a)
  | t + 1 => ((divSt z fc sb a b l m t).1.set (m - 1 - t) (fc ((divSt z fc sb a b l m t).2.getD (m - 1 - t + (b.length - 1)) z) l),
      divIn z sb (divSt z fc sb a b l m t).2 (m - 1 - t) (fc ((divSt z fc sb a b l m t).2.getD (m - 1 - t + (b.length - 1)) z) l) b b.length)
theorem divIn_len {α : Type} {z : α} {sb : α → α → α → α} {rest : List α} {k : Nat} {f : α} {b : List α} : ∀ i, (divIn z sb rest k f b i).length = rest.length
  | 0 => rfl
  | i + 1 => by rw [divIn, List.length_set, divIn_len i]
theorem divSt_len {α : Type} {z : α} {fc : α → α → α} {sb : α → α → α → α} {a b : List α} {l : α} {m : Nat} : ∀ t, (divSt z fc sb a b l m t).1.length = m ∧ (divSt z fc sb a b l m t).2.length = a.length
  | 0 => ⟨by rw [divSt, List.length_replicate], rfl⟩
  | t + 1 => ⟨by rw [divSt, List.length_set, (divSt_len t).1], by rw [divSt, divIn_len, (divSt_len t).2]⟩
/-! ## the mirrors -/
def isZ (x : Int) : Bool := decide (x = 0)
def trimM (row : List Int) (p : Int) : List Int := dropZ isZ (row.map (· % p))
def addM (a b : List Int) (p : Int) : List Int := trimM (((a ++ List.replicate (Max.max a.length b.length - a.length) 0).zip (b ++ List.replicate (Max.max a.length b.length - b.length) 0)).map fun (q : Int × Int) => q.1 + q.2) p
def subM (a b : List Int) (p : Int) : List Int := addM a (b.map fun x => -x) p
def mulM (a b : List Int) (p : Int) : List Int := trimM (mulOut 0 (· + ·) (· * ·) a b a.length) p
/-- Euclid's steps -/
def eu (a p : Int) : Nat → Int × Int × Int × Int
  | 0 => (p, a % p, 0, 1)
  | i + 1 => ((eu a p i).2.1, (eu a p i).1 - (eu a p i).1 / (eu a p i).2.1 * (eu a p i).2.1, (eu a p i).2.2.2, (eu a p i).2.2.1 - (eu a p i).1 / (eu a p i).2.1 * (eu a p i).2.2.2)
def euN (a p : Int) : Nat := ((List.range 6).find? fun i => decide ((eu a p i).2.1 = 0)).getD 0
def invM (a p : Int) : Int := (eu a p (euN a p)).2.2.1 % p
def PP (p : Int) : Prop := p = 2 ∨ p = 3 ∨ p = 5
theorem PP.pos {p : Int} (h : PP p) : 0 < p := by unfold PP at h; omega
theorem PP.le {p : Int} (h : PP p) : p ≤ 5 := by unfold PP at h; omega
def euOk (a p : Int) : Bool := (List.range (euN a p)).all (fun i => decide ((eu a p i).2.1 ≠ 0) && decide (0 < (eu a p i).2.1) && decide ((eu a p i).2.1 < 100) && decide (-100 < (eu a p i).1 / (eu a p i).2.1) && decide ((eu a p i).1 / (eu a p i).2.1 < 100)) && decide ((eu a p (euN a p)).2.1 = 0) && decide ((eu a p (euN a p)).1 = 1)
theorem eu_all {a p : Int} (hp : PP p) (h0 : 0 < a) (h1 : a < p) : euOk a p = true := by
  have h : (p = 2 ∧ a = 1) ∨ (p = 3 ∧ a = 1) ∨ (p = 3 ∧ a = 2) ∨ (p = 5 ∧ a = 1) ∨ (p = 5 ∧ a = 2) ∨ (p = 5 ∧ a = 3) ∨ (p = 5 ∧ a = 4) := by
    unfold PP at hp
    omega
  rcases h with ⟨rfl, rfl⟩ | ⟨rfl, rfl⟩ | ⟨rfl, rfl⟩ | ⟨rfl, rfl⟩ | ⟨rfl, rfl⟩ | ⟨rfl, rfl⟩ | ⟨rfl, rfl⟩ <;> decide +kernel
theorem invM_rg {a p : Int} (hp : PP p) : 0 ≤ invM a p ∧ invM a p < p := by
  have := hp.pos
  unfold invM
  exact ⟨Int.emod_nonneg _ (by omega), Int.emod_lt_of_pos _ this⟩
def lastI (b : List Int) : Int := b.getD (b.length - 1) 0
def divM (a b : List Int) (p : Int) : List Int × List Int :=
  let s := divSt 0 (fun r l => r * l % p) (fun r f y => (r - f * y) % p) a b (invM (lastI b) p) (a.length + 1 - b.length) (a.length + 1 - b.length)
  (trimM s.1 p, trimM s.2 p)
/-! ## the promises -/
inductive R_is_integer : List D → D → Prop
  | mk (i : Int) : R_is_integer [.int i] (.bl true)
inductive R_prime_powers : List D → D → Prop
  | mk (n : Int) (h : PP n) : R_prime_powers [.int n] (.tup [.tup [.int n, .int 1]])
inductive R_is_prime : List D → D → Prop
  | mk (n : Int) (h : PP n) : R_is_prime [.int n] (.bl true)
inductive R_inverse_modulo : List D → D → Prop
  | mk (a p : Int) (h : PP p) (h0 : 0 < a) (h1 : a < p) : R_inverse_modulo [.int a, .int p] (.int (invM a p))
inductive R_trimmed : List D → D → Prop
  | mk (k : Bool) (row : List Int) (p : Int) (hp : 0 < p) (hz : row.length ≤ 1000) : R_trimmed [dseq k (row.map .int), .int p] (tI (trimM row p))
inductive R_add_rows : List D → D → Prop
  | mk (k j : Bool) (a b : List Int) (p : Int) (hp : 0 < p) (ha : a.length ≤ 1000) (hb : b.length ≤ 1000) : R_add_rows [dseq k (a.map .int), dseq j (b.map .int), .int p] (tI (addM a b p))
inductive R_subtract_rows : List D → D → Prop
  | mk (k j : Bool) (a b : List Int) (p : Int) (hp : 0 < p) (ha : a.length ≤ 1000) (hb : b.length ≤ 1000) : R_subtract_rows [dseq k (a.map .int), dseq j (b.map .int), .int p] (tI (subM a b p))
def Bd (a : List Int) : Prop := ∀ x ∈ a, -1000000 < x ∧ x < 1000000
inductive R_multiply_rows : List D → D → Prop
  | mk (a b : List Int) (p : Int) (hp : 0 < p) (ha : a.length ≤ 400) (hb : b.length ≤ 400) (hd : Bd a) : R_multiply_rows [tI a, tI b, .int p] (tI (mulM a b p))
inductive R_divide_rows : List D → D → Prop
  | mk (a b : List Int) (p : Int) (hp : PP p) (ha : a.length ≤ 1000) (hb : b.length ≤ 1000) (h0 : b ≠ []) (h1 : 0 < lastI b) (h2 : lastI b < p) : R_divide_rows [tI a, tI b, .int p] (.tup [tI (divM a b p).1, tI (divM a b p).2])
inductive R_member_of : List D → D → Prop
  | mk (k : Bool) (row : List Int) (n : Int) (h : -1000 ≤ n ∧ n ≤ 1000) (hz : row.length ≤ 1000) : R_member_of [dseq k (row.map .int), .int n] (tI (row ++ List.replicate (n - row.length).toNat 0))
inductive R_member_sum : List D → D → Prop
  | mk (a b : List Int) (p : Int) (hp : 0 < p) (ha : a.length ≤ 1000) : R_member_sum [tI a, tI b, .int p] (tI ((a.zip b).map fun q => (q.1 + q.2) % p))
inductive R_member_negative : List D → D → Prop
  | mk (a : List Int) (p : Int) (hp : 0 < p) (ha : a.length ≤ 1000) : R_member_negative [tI a, .int p] (tI (a.map fun x => -x % p))
inductive R_is_member_row : List D → D → Prop
  | mk (v : List Int) (n p : Int) (hn : (v.length : Int) = n) (hz : v.length ≤ 1000) (hv : ∀ x ∈ v, 0 ≤ x ∧ x < p) : R_is_member_row [tI v, .int n, .int p] (.bl true)
section
variable {P : Program} {w : World} {K : PySem.W.Frag} {mg : Str → Option Value} {base : Heap} {L : Lc} {f : Addr} {fd : FuncData}
abbrev FunS (K : PySem.W.Frag) (x qual : Str) (st : Stmt) (f : Addr) (fd : FuncData) : Prop := FunD K x qual (defArgs st) (defBody st) (defScope st) [] [] f fd
theorem hu_of' {A : Around} {k : Nat} (hr : Room k A) : A.units + 64 < cLine := hr.units
/-! ### is_integer -/
theorem sc_is_integer : FnScope ["value"] ["value"] (defScope s_is_integer) := ⟨rfl, rfl, rfl, by decide +kernel, rfl, by decide +kernel, by decide +kernel⟩
theorem ok_is_integer (T : Txt K mg L) (F : FunS K "is_integer" "is_integer" s_is_integer f fd) : FnOk P w K mg base CX0 1 f fd ["value"] (spD L R_is_integer) := by
  refine fn_ev F sc_is_integer (fun ds r h => by cases h; rfl) fun cdv A outer s H E hr ds r h => ?_
  cases h with
  | mk i => exact .ret (evb_one (evs_ret ((ev_and (ev_isi T.isinstance T.int (ev_var 0) rfl (n := "int") (T := "int") (r := true) (by decide +kernel)) fun _ => ev_one (ev_not (ev_isi T.isinstance T.bool (ev_var 0) rfl (n := "int") (T := "bool") (r := false) (by decide +kernel)))).is rfl)))
/-! ### prime_powers -/
abbrev N_prime_powers : List Str := ["n", "found", "p", "k"]
theorem sc_prime_powers : FnScope N_prime_powers ["n"] (defScope s_prime_powers) := ⟨rfl, rfl, rfl, by decide +kernel, rfl, by decide +kernel, by decide +kernel⟩
theorem ok_prime_powers (T : Txt K mg L) (F : FunS K "prime_powers" "prime_powers" s_prime_powers f fd) : FnOk P w K mg base CX0 1 f fd ["n"] (spD L R_prime_powers) := by
  refine fn_ev F sc_prime_powers (fun ds r h => by cases h; rfl) fun cdv A outer s H E hr ds r h => ?_
  cases h with
  | mk n hn =>
    have nd := sc_prime_powers.nd
    refine .ret (evb_cons (evs_setn 1 (evn_lst eva_nil) nd) (evb_cons (evs_set 2 ev_int nd) (evb_cons (S' := [.val (.int n), .own [], .any, .any]) ?_ ?_)))
    · have fin : ∀ i : Nat, Weak [Sl.val (.int n), .own [], .val (.int (2 + (i : Int))), .any] [.val (.int n), .own [], .any, .any] := fun i => .same (.same (.any (.any .nil)))
      refine evs_weak (evs_while (W := fun i => [.val (.int n), .own [], .val (.int (2 + (i : Int))), .any]) (if n = 5 then 1 else 0) PassesOwn.never (fun i hi => ?_) ?_) (fin _)
      · have h5 : n = 5 := by
          by_cases q : n = 5
          · exact q
          · rw [if_neg q] at hi
            omega
        subst h5
        have hi0 : i = 0 := by
          have : i < 1 := hi
          omega
        subst hi0
        refine ⟨(evt_le (ev_mul (ev_var 2) (ev_var 2) (.inl (by decide))) (ev_var 0)).is (by decide), _, evb_weak (evb_cons (evs_set 3 ev_int nd) (evb_cons (evs_while (W := fun _ => [.val (.int 5), .own [], .val (.int 2), .val (.int 0)]) 0 PassesOwn.never (fun j hj => by omega) ((evt_eq (ev_mod (ev_var 0) (ev_var 2) (by decide)) ev_int).is (by decide)))
          (evb_cons (evs_ifF ((evt_gt (ev_var 3) ev_int).is (by decide)) evb_nil) (evb_one (evs_set 2 (ev_add (ev_var 2) ev_int) nd))))) (.same (.same (.same (.any .nil)))), .inl rfl⟩
      · rcases hn with rfl | rfl | rfl
        · exact (evt_le (ev_mul (ev_var 2) (ev_var 2) (.inl (by decide))) (ev_var 0)).is (by decide)
        · exact (evt_le (ev_mul (ev_var 2) (ev_var 2) (.inl (by decide))) (ev_var 0)).is (by decide)
        · exact (evt_le (ev_mul (ev_var 2) (ev_var 2) (.inl (by decide))) (ev_var 0)).is (by decide)
    · have h1 : decide (1 < n) = true := decide_eq_true (by unfold PP at hn; omega)
      exact evb_cons (evs_ifT ((evt_gt (ev_var 0) ev_int).is h1) (evb_one (evs_append 1 (ev_tup (eva_cons (ev_var 0) (eva_cons ev_int eva_nil))) rfl (by decide)))) (evb_one (evs_ret (ev_tupleL T.tuple (evq_own 1))))
end
end FM
set_option autoImplicit false
namespace FM
open PySem PySem.Spec PyProof.Rows L2 LamX
section
variable {P : Program} {w : World} {K : PySem.W.Frag} {mg : Str → Option Value} {base : Heap} {L : Lc} {f : Addr} {fd : FuncData}
/-! ### is_prime -/
theorem sc_is_prime : FnScope ["n"] ["n"] (defScope s_is_prime) := ⟨rfl, rfl, rfl, by decide +kernel, rfl, by decide +kernel, by decide +kernel⟩
theorem ok_is_prime (T : Txt K mg L) (C1 : FnC P w K mg base L "prime_powers" 1 ["n"] R_prime_powers) (F : FunS K "is_prime" "is_prime" s_is_prime f fd) : FnOk P w K mg base CX0 2 f fd ["n"] (spD L R_is_prime) := by
  refine fn_ev F sc_is_prime (fun ds r h => by cases h; rfl) fun cdv A outer s H E hr ds r h => ?_
  cases h with
  | mk n hn =>
    have h1 : decide (1 < n) = true := decide_eq_true (by unfold PP at hn; omega)
    refine .ret (evb_one (evs_ret ((ev_and (ev_gt (ev_var 0) ev_int) fun _ => ev_one (ev_eqD (d2 := .tup [.tup [.int n, .int 1]]) hr.units (ev_call C1 hr (eva_cons (ev_var 0) eva_nil) (.mk n hn)) (ev_tup (eva_cons (ev_tup (eva_cons (ev_var 0) (eva_cons ev_int eva_nil))) eva_nil)) (by simp [pdOk, pdOkL]) (by simp [pdOk, pdOkL]) (by simp [pd, pdL, PyData.depth, PyData.depthAll]) (by simp [pd, pdL, PyData.depth, PyData.depthAll]))).is ?_)))
    rw [h1]
    simp [pd, pdL, PyData.eqv, PyData.eqvAll]
/-! ### inverse_modulo -/
abbrev N_inverse_modulo : List Str := ["a", "p", "old", "new", "u", "v", "q"]
theorem sc_inverse_modulo : FnScope N_inverse_modulo ["a", "p"] (defScope s_inverse_modulo) := ⟨rfl, rfl, rfl, by decide +kernel, rfl, by decide +kernel, by decide +kernel⟩
theorem ok_inverse_modulo (T : Txt K mg L) (F : FunS K "inverse_modulo" "inverse_modulo" s_inverse_modulo f fd) : FnOk P w K mg base CX0 1 f fd ["a", "p"] (spD L R_inverse_modulo) := by
  refine fn_ev F sc_inverse_modulo (fun ds r h => by cases h; rfl) fun cdv A outer s H E hr ds r h => ?_
  cases h with
  | mk a p hp h0 h1 =>
    have nd := sc_inverse_modulo.nd
    have ok := eu_all hp h0 h1
    have hpos := hp.pos
    unfold euOk at ok
    rw [Bool.and_eq_true, Bool.and_eq_true, List.all_eq_true] at ok
    obtain ⟨⟨ok1, ok2⟩, ok3⟩ := ok
    have e2 := of_decide_eq_true ok2
    have e3 := of_decide_eq_true ok3
    refine .ret (evb_cons (evs_par 2 3 (eva_cons (ev_var 1) (eva_cons (ev_mod (ev_var 0) (ev_var 1) hpos) eva_nil)) rfl nd (by decide)) (evb_cons (evs_unpack (t := .two 4 5) (ev_tup (eva_cons ev_int (eva_cons ev_int eva_nil))) (evg_two 4 5 rfl nd)) ?_))
    refine evb_cons (S' := [.val (.int a), .val (.int p), .val (.int (eu a p (euN a p)).1), .val (.int (eu a p (euN a p)).2.1), .val (.int (eu a p (euN a p)).2.2.1), .val (.int (eu a p (euN a p)).2.2.2), .any])
      (evs_while (W := fun i => [.val (.int a), .val (.int p), .val (.int (eu a p i).1), .val (.int (eu a p i).2.1), .val (.int (eu a p i).2.2.1), .val (.int (eu a p i).2.2.2), .any]) (euN a p) PassesOwn.never (fun i hi => ?_) ?_) ?_
    · have q := ok1 i (List.mem_range.mpr hi)
      simp only [Bool.and_eq_true, decide_eq_true_eq] at q
      obtain ⟨⟨⟨⟨q1, q2⟩, q3⟩, q4⟩, q5⟩ := q
      have hm : CMul ((eu a p i).1 / (eu a p i).2.1) (eu a p i).2.1 := .inl ⟨by omega, by omega⟩
      refine ⟨(evt_ne (ev_var 3) ev_int).is (by simp [q1]), _, evb_weak (evb_cons (evs_set 6 (ev_fdiv (ev_var 2) (ev_var 3) ⟨q2, by omega⟩) nd) (evb_cons (evs_par 2 3 (eva_cons (ev_var 3) (eva_cons (ev_sub (ev_var 2) (ev_mul (ev_var 6) (ev_var 3) hm)) eva_nil)) rfl nd (by decide))
        (evb_one (evs_par 4 5 (eva_cons (ev_var 5) (eva_cons (ev_sub (ev_var 4) (ev_mul (ev_var 6) (ev_var 5) (.inl ⟨by omega, by omega⟩))) eva_nil)) rfl nd (by decide))))) ?_, .inl rfl⟩
      exact .same (.same (.same (.same (.same (.same (.any .nil))))))
    · exact (evt_ne (ev_var 3) ev_int).is (by rw [e2]; rfl)
    · exact evb_cons (evs_ifF ((evt_ne (ev_var 2) ev_int).is (by rw [e3]; rfl)) evb_nil) (evb_one (evs_ret (ev_mod (ev_var 4) (ev_var 1) hpos)))
/-! ### trimmed -/
abbrev N_trimmed : List Str := ["row", "p", "out", "x"]
theorem sc_trimmed : FnScope N_trimmed ["row", "p"] (defScope s_trimmed) := ⟨rfl, rfl, rfl, by decide +kernel, rfl, by decide +kernel, by decide +kernel⟩
theorem ok_trimmed (T : Txt K mg L) (F : FunS K "trimmed" "trimmed" s_trimmed f fd) : FnOk P w K mg base CX0 1 f fd ["row", "p"] (spD L R_trimmed) := by
  refine fn_ev F sc_trimmed (fun ds r h => by cases h; rfl) fun cdv A outer s H E hr ds r h => ?_
  cases h with
  | mk k row p hp hz =>
  refine .ret ?_
  refine evb_cons (evs_lc 2 (own := [("x", 3)]) (t := .one 3) (f := fun i => .int (i % p)) (evi_seq (ev_var 0)) (lcb (fun _ _ _ _ _ => evg_one 3 sc_trimmed.nd) rfl fun i d hd => ⟨_, rfl, fun _ _ _ _ _ => ev_mod (ev_var 3) (ev_var 1) hp⟩) (by omega) rfl sc_trimmed.nd (blkOk_by (N := N_trimmed) (sc := defScope s_trimmed) (by decide +kernel)) (sw_true rfl rfl rfl (by decide +kernel))) ?_
  have e1 : row.map (fun i => D.int (i % p)) = (row.map (· % p)).map .int := by rw [List.map_map]; rfl
  have hz2 : (row.map (· % p)).length ≤ 1000 := by rw [List.length_map]; exact hz
  rw [e1]
  show EvB L _ _ _ (.ret (tI (dropZ isZ (row.map (· % p)))))
  generalize row.map (· % p) = xs at hz2 ⊢
  have ln : ∀ i, ((xs.take (xs.length - i)).map D.int).length = xs.length - i := fun i => by rw [List.length_map, List.length_take]; omega
  have hzc := zc_le isZ xs
  refine evb_cons (evs_pre (S1 := [.val (dseq k (row.map .int)), .val (.int p), .own ((xs.take (xs.length - 0)).map .int), .any]) (by rw [Nat.sub_zero, List.take_length]; exact .same (.same (.same (.any .nil)))) (evs_while (W := fun i => [.val (dseq k (row.map .int)), .val (.int p), .own ((xs.take (xs.length - i)).map .int), .any]) (zc isZ xs) PassesOwn.never (fun i hi => ?_) ?_)) ?_
  · obtain ⟨x, hx, hq⟩ := zc_lt hi
    have hx0 : x = 0 := of_decide_eq_true hq
    subst hx0
    have hil : i < xs.length := by omega
    refine ⟨?_, _, evb_one (evs_pop 2 rfl ?_), .inl ?_⟩
    · refine EvT.is (EvW.t (evw_and (evt_gt (ev_len T.len (evq_own 2)) ev_int) fun _ => evw_and1 (evt_eq (ev_ix (evq_own 2) (ev_sub (ev_len T.len (evq_own 2)) ev_int) (d := .int 0) ?_) ev_int))) ?_
      · rw [ln, show ((xs.length - i : Nat) : Int) - 1 = ((xs.length - 1 - i : Nat) : Int) by omega]
        refine atN ?_
        rw [List.getElem?_map, List.getElem?_take_of_lt (by omega), hx]
        rfl
      · rw [ln]
        simp
        omega
    · intro z
      have := ln i
      rw [z] at this
      simp at this
      omega
    · show Out.nx [_, _, _, _] = _
      rw [← List.map_dropLast, List.dropLast_eq_take, List.take_take, List.length_take]
      rw [show min (min (xs.length - i) xs.length - 1) (xs.length - i) = xs.length - (i + 1) by omega]
  · by_cases hl : zc isZ xs < xs.length
    · obtain ⟨x, hx, hq⟩ := zc_at hl
      have hx0 : x ≠ 0 := fun z => by rw [z] at hq; cases hq
      refine EvT.is (EvW.t (evw_and (evt_gt (ev_len T.len (evq_own 2)) ev_int) fun _ => evw_and1 (evt_eq (ev_ix (evq_own 2) (ev_sub (ev_len T.len (evq_own 2)) ev_int) (d := .int x) ?_) ev_int))) ?_
      · rw [ln, show ((xs.length - zc isZ xs : Nat) : Int) - 1 = ((xs.length - 1 - zc isZ xs : Nat) : Int) by omega]
        refine atN ?_
        rw [List.getElem?_map, List.getElem?_take_of_lt (by omega), hx]
        rfl
      · rw [ln]
        simp [hx0]
    · refine EvT.is (EvW.t (evw_and (j := false) (evt_gt (ev_len T.len (evq_own 2)) ev_int) fun z => ?_)) ?_
      · rw [ln] at z
        simp at z
        omega
      · rw [Bool.and_false]
  · exact evb_one (evs_ret (ev_tupleL T.tuple (evq_own 2)))
/-! ### member_of, member_sum, member_negative, is_member_row -/
theorem sc_member_of : FnScope ["row", "n"] ["row", "n"] (defScope s_member_of) := ⟨rfl, rfl, rfl, by decide +kernel, rfl, by decide +kernel, by decide +kernel⟩
theorem ok_member_of (T : Txt K mg L) (F : FunS K "member_of" "member_of" s_member_of f fd) : FnOk P w K mg base CX0 1 f fd ["row", "n"] (spD L R_member_of) := by
  refine fn_ev F sc_member_of (fun ds r h => by cases h; rfl) fun cdv A outer s H E hr ds r h => ?_
  cases h with
  | mk k row n h hz =>
    have ln : (row.map D.int).length = row.length := List.length_map ..
    refine .ret (evb_one (evs_ret (EvE.is (ev_tupleL T.tuple (evq_n (evn_cat (evq_n (evn_list T.list (evq_of (ev_var 0)))) (evq_n (evn_rep (evq_n (evn_lst (eva_cons ev_int eva_nil))) (ev_sub (ev_var 1) (ev_len T.len (evq_of (ev_var 0)))) ?_)) ?_))) ?_)))
    · rw [ln]
      omega
    · rw [List.length_replicate, ln]
      omega
    · rw [ln]
      unfold tI
      rw [List.map_append, List.map_replicate]
abbrev N_member_sum : List Str := ["a", "b", "p", "x", "y"]
theorem sc_member_sum : FnScope N_member_sum ["a", "b", "p"] (defScope s_member_sum) := ⟨rfl, rfl, rfl, by decide +kernel, rfl, by decide +kernel, by decide +kernel⟩
theorem ok_member_sum (T : Txt K mg L) (F : FunS K "member_sum" "member_sum" s_member_sum f fd) : FnOk P w K mg base CX0 1 f fd ["a", "b", "p"] (spD L R_member_sum) := by
  refine fn_ev F sc_member_sum (fun ds r h => by cases h; rfl) fun cdv A outer s H E hr ds r h => ?_
  cases h with
  | mk a b p hp ha =>
    refine .ret (evb_one (evs_ret (EvE.is (ev_tupleL T.tuple (evq_n (evn_lc (own := [("x", 3), ("y", 4)]) (t := .two 3 4) (xs := a.zip b) (en := fun q => .tup [.int q.1, .int q.2]) (f := fun q => .int ((q.1 + q.2) % p)) ((evi_zipT T.zip (ev_var 0) (ev_var 1)).is (zipD_map _ _ _ _))
      (lcb (fun _ _ _ _ _ => evg_two 3 4 rfl sc_member_sum.nd) rfl fun i d hd => ⟨_, rfl, fun _ _ _ _ _ => ev_mod (ev_add (ev_var 3) (ev_var 4)) (ev_var 2) hp⟩) ?_ rfl sc_member_sum.nd (blkOk_by (N := N_member_sum) (sc := defScope s_member_sum) (by decide +kernel))))) ?_)))
    · rw [List.length_zip]
      omega
    · unfold tI
      rw [List.map_map]
      rfl
theorem sc_member_negative : FnScope ["a", "p", "x"] ["a", "p"] (defScope s_member_negative) := ⟨rfl, rfl, rfl, by decide +kernel, rfl, by decide +kernel, by decide +kernel⟩
theorem ok_member_negative (T : Txt K mg L) (F : FunS K "member_negative" "member_negative" s_member_negative f fd) : FnOk P w K mg base CX0 1 f fd ["a", "p"] (spD L R_member_negative) := by
  refine fn_ev F sc_member_negative (fun ds r h => by cases h; rfl) fun cdv A outer s H E hr ds r h => ?_
  cases h with
  | mk a p hp ha =>
    refine .ret (evb_one (evs_ret (EvE.is (ev_tupleL T.tuple (evq_n (evn_lc (own := [("x", 2)]) (t := .one 2) (xs := a) (en := .int) (f := fun x => .int (-x % p)) (evi_tup (ev_var 0))
      (lcb (fun _ _ _ _ _ => evg_one 2 sc_member_negative.nd) rfl fun i d hd => ⟨_, rfl, fun _ _ _ _ _ => ev_mod (ev_neg (ev_var 2)) (ev_var 1) hp⟩) (by omega) rfl sc_member_negative.nd (blkOk_by (N := ["a", "p", "x"]) (sc := defScope s_member_negative) (by decide +kernel))))) ?_)))
    unfold tI
    rw [List.map_map]
    rfl
theorem sc_is_member_row : FnScope ["value", "n", "p", "x"] ["value", "n", "p"] (defScope s_is_member_row) := ⟨rfl, rfl, rfl, by decide +kernel, rfl, by decide +kernel, by decide +kernel⟩
theorem ok_is_member_row (T : Txt K mg L) (C1 : FnC P w K mg base L "is_integer" 1 ["value"] R_is_integer) (F : FunS K "is_member_row" "is_member_row" s_is_member_row f fd) : FnOk P w K mg base CX0 2 f fd ["value", "n", "p"] (spD L R_is_member_row) := by
  refine fn_ev F sc_is_member_row (fun ds r h => by cases h; rfl) fun cdv A outer s H E hr ds r h => ?_
  cases h with
  | mk v n p hn hz hv =>
    have ln : (v.map D.int).length = v.length := List.length_map ..
    refine .ret (evb_cons (evs_ifF (EvT.is (EvW.t (evw_or (evt_not (evt_val (ev_isi T.isinstance T.tuple (ev_var 0) rfl (n := "tuple") (T := "tuple") (r := true) (by decide +kernel)))) fun _ => evw_or1 (evt_ne (ev_len T.len (evq_t (ev_var 0))) (ev_var 1)))) ?_) evb_nil) (evb_one (evs_ret (EvE.is (ev_eqI (ev_len T.len (evq_n (evn_lcIf (own := [("x", 3)]) (t := .one 3) (xs := v) (en := .int) (f := .int) (p := fun _ => false) (evi_tup (ev_var 0)) ⟨fun _ _ _ _ _ => evg_one 3 sc_is_member_row.nd, rfl, fun i d hd => ⟨_, rfl, fun _ _ _ _ _ => ⟨?_, fun z => by cases z⟩⟩⟩ (by omega) rfl sc_is_member_row.nd (blkOk_by (N := ["value", "n", "p", "x"]) (sc := defScope s_is_member_row) (by decide +kernel))))) ev_int) ?_))))
    · rw [ln, hn]
      simp
    · obtain ⟨h0, h1⟩ := hv d (List.mem_of_getElem? hd)
      refine evts_one (EvT.is (EvW.t (evw_or (evt_not (evt_val (ev_call C1 hr (eva_cons (ev_var 3) eva_nil) (.mk d)))) fun _ => evw_or (evt_lt (ev_var 3) ev_int) fun _ => evw_or1 (evt_ge (ev_var 3) (ev_var 2)))) ?_)
      simp
      omega
    · have e : v.filter (fun _ => false) = [] := List.filter_eq_nil_iff.mpr fun _ _ => by simp
      rw [e]
      rfl
end
end FM
set_option autoImplicit false
namespace FM
open PySem PySem.Spec PyProof.Rows L2 LamX
theorem boot_max' : bootBuiltins "max" = some (.builtin "max") := by decide +kernel
section
variable {L : Lc} {X : Cx} {S : SlS} {a b : Expr} {pos p : Pos} {i j : Int}
theorem ev_max2 (hm : X.mg "max" = none) (hc : X.calm = true) (ha : EvE L X a S (.int i)) (hb : EvE L X b S (.int j)) (hg : Gl X "max" := by rfl)
    (hs : starEach [a, b] X.env = (false, eval a X.env) :: starEach [b] X.env := by rfl) (hs2 : starEach [b] X.env = (false, eval b X.env) :: starEach [] X.env := by rfl) (hpl : (backTo pos (starEach [b] X.env)).any (·.1) = false := by rfl) :
    EvE L X (.Call (.Name "max" p) [a, b] [] pos) S (.int (if j > i then j else i)) :=
  PE.imp (pe_callB (call_max2 hc) hg hm boot_max' (eva_cons ha (eva_cons hb eva_nil hs2) hs) (by decide) (by decide) hs hpl) fun σ H Q ⟨G, R, q⟩ => ⟨G, R, fun G1 H1 vs g1 i1 => by
    cases i1 with
    | cons h1 r =>
      cases r with
      | cons h2 r =>
        cases r
        exact ⟨i, j, by rw [is_int h1, is_int h2], q G1 H1 _ g1 (.int _)⟩⟩
end
section
variable {P : Program} {w : World} {K : PySem.W.Frag} {mg : Str → Option Value} {base : Heap} {L : Lc} {f : Addr} {fd : FuncData}
/-! ### add_rows, subtract_rows -/
abbrev N_add_rows : List Str := ["a", "b", "p", "size", "low", "high", "x", "y"]
theorem sc_add_rows : FnScope N_add_rows ["a", "b", "p"] (defScope s_add_rows) := ⟨rfl, rfl, rfl, by decide +kernel, rfl, by decide +kernel, by decide +kernel⟩
theorem max_int (m n : Nat) : (if (n : Int) > m then (n : Int) else m) = ((Max.max m n : Nat) : Int) := by
  by_cases h : (n : Int) > m
  · rw [if_pos h, Nat.max_eq_right (by omega)]
  · rw [if_neg h, Nat.max_eq_left (by omega)]
theorem ok_add_rows (T : Txt K mg L) (C1 : FnC P w K mg base L "trimmed" 1 ["row", "p"] R_trimmed) (F : FunS K "add_rows" "add_rows" s_add_rows f fd) : FnOk P w K mg base CX0 2 f fd ["a", "b", "p"] (spD L R_add_rows) := by
  refine fn_ev F sc_add_rows (fun ds r h => by cases h; rfl) fun cdv A outer s H E hr ds r h => ?_
  cases h with
  | mk k j a b p hp ha hb =>
    have nd := sc_add_rows.nd
    have la : (a.map D.int).length = a.length := List.length_map ..
    have lb : (b.map D.int).length = b.length := List.length_map ..
    have hm1 : a.length ≤ Max.max a.length b.length := Nat.le_max_left ..
    have hm2 : b.length ≤ Max.max a.length b.length := Nat.le_max_right ..
    have hm3 : Max.max a.length b.length ≤ 1000 := Nat.max_le.mpr ⟨ha, hb⟩
    refine .ret (evb_cons (evs_set 3 (d := .int (Max.max a.length b.length : Nat)) ((ev_max2 T.max rfl (ev_len T.len (evq_of (ev_var 0))) (ev_len T.len (evq_of (ev_var 1)))).is (by rw [la, lb, max_int])) nd) ?_)
    generalize hM : Max.max a.length b.length = M at hm1 hm2 hm3 ⊢
    refine evb_cons (evs_set 4 (d := .lst ((a ++ List.replicate (M - a.length) 0).map .int)) ((ev_new (evn_cat (evq_n (evn_list T.list (evq_of (ev_var 0)))) (evq_n (evn_rep (evq_n (evn_lst (eva_cons ev_int eva_nil))) (ev_sub (ev_var 3) (ev_len T.len (evq_of (ev_var 0)))) ?_)) ?_)).is ?_) nd) ?_
    · rw [la]
      omega
    · rw [List.length_replicate, la]
      omega
    · rw [List.map_append, List.map_replicate, la, show ((M : Int) - (a.length : Int)).toNat = M - a.length by omega]
    refine evb_cons (evs_set 5 (d := .lst ((b ++ List.replicate (M - b.length) 0).map .int)) ((ev_new (evn_cat (evq_n (evn_list T.list (evq_of (ev_var 1)))) (evq_n (evn_rep (evq_n (evn_lst (eva_cons ev_int eva_nil))) (ev_sub (ev_var 3) (ev_len T.len (evq_of (ev_var 1)))) ?_)) ?_)).is ?_) nd) ?_
    · rw [lb]
      omega
    · rw [List.length_replicate, lb]
      omega
    · rw [List.map_append, List.map_replicate, lb, show ((M : Int) - (b.length : Int)).toNat = M - b.length by omega]
    refine evb_one (evs_ret (ev_call C1 hr (eva_cons (ev_new (evn_lc (own := [("x", 6), ("y", 7)]) (t := .two 6 7) (xs := (a ++ List.replicate (M - a.length) 0).zip (b ++ List.replicate (M - b.length) 0)) (en := fun q => .tup [.int q.1, .int q.2]) (f := fun q => .int (q.1 + q.2)) ((evi_zipL T.zip (ev_var 4) (ev_var 5)).is (zipD_map _ _ _ _))
      (lcb (fun _ _ _ _ _ => evg_two 6 7 rfl nd) rfl fun i d hd => ⟨_, rfl, fun _ _ _ _ _ => ev_add (ev_var 6) (ev_var 7)⟩) ?_ rfl nd (blkOk_by (N := N_add_rows) (sc := defScope s_add_rows) (by decide +kernel)))) (eva_cons (ev_var 2) eva_nil)) ?_))
    · rw [List.length_zip, List.length_append, List.length_append, List.length_replicate, List.length_replicate]
      omega
    · have e := R_trimmed.mk true (((a ++ List.replicate (M - a.length) 0).zip (b ++ List.replicate (M - b.length) 0)).map fun (q : Int × Int) => q.1 + q.2) p hp (by
        rw [List.length_map, List.length_zip, List.length_append, List.length_append, List.length_replicate, List.length_replicate]
        omega)
      unfold addM
      rw [hM]
      have e2 : dseq true ((((a ++ List.replicate (M - a.length) 0).zip (b ++ List.replicate (M - b.length) 0)).map fun (q : Int × Int) => q.1 + q.2).map .int) = .lst (((a ++ List.replicate (M - a.length) 0).zip (b ++ List.replicate (M - b.length) 0)).map fun (q : Int × Int) => .int (q.1 + q.2)) := by
        rw [List.map_map]
        rfl
      rw [e2] at e
      exact e
abbrev N_subtract_rows : List Str := ["a", "b", "p", "x"]
theorem sc_subtract_rows : FnScope N_subtract_rows ["a", "b", "p"] (defScope s_subtract_rows) := ⟨rfl, rfl, rfl, by decide +kernel, rfl, by decide +kernel, by decide +kernel⟩
theorem ok_subtract_rows (T : Txt K mg L) (C1 : FnC P w K mg base L "add_rows" 2 ["a", "b", "p"] R_add_rows) (F : FunS K "subtract_rows" "subtract_rows" s_subtract_rows f fd) : FnOk P w K mg base CX0 3 f fd ["a", "b", "p"] (spD L R_subtract_rows) := by
  refine fn_ev F sc_subtract_rows (fun ds r h => by cases h; rfl) fun cdv A outer s H E hr ds r h => ?_
  cases h with
  | mk k j a b p hp ha hb =>
    have nd := sc_subtract_rows.nd
    refine .ret (evb_one (evs_ret (ev_call C1 hr (eva_cons (ev_var 0) (eva_cons ((ev_new (evn_lc (own := [("x", 3)]) (t := .one 3) (xs := b) (en := .int) (f := fun x => .int (-x)) (evi_seq (ev_var 1)) (lcb (fun _ _ _ _ _ => evg_one 3 nd) rfl fun i d hd => ⟨_, rfl, fun _ _ _ _ _ => ev_neg (ev_var 3)⟩) (by omega) rfl nd (blkOk_by (N := N_subtract_rows) (sc := defScope s_subtract_rows) (by decide +kernel)))).is (c := dseq true ((b.map fun x => -x).map .int)) (by rw [List.map_map]; rfl)) (eva_cons (ev_var 2) eva_nil))) (.mk k true a (b.map fun x => -x) p hp ha (by rw [List.length_map]; exact hb)))))
/-! ### multiply_rows -/
abbrev N_multiply_rows : List Str := ["a", "b", "p", "out", "i", "x", "k", "y", "_"]
theorem sc_multiply_rows : FnScope N_multiply_rows ["a", "b", "p"] (defScope s_multiply_rows) := ⟨rfl, rfl, rfl, by decide +kernel, rfl, by decide +kernel, by decide +kernel⟩
theorem zipIdx_get {α : Type} {xs : List α} {i : Nat} {q : α × Nat} (h : xs.zipIdx[i]? = some q) : xs[i]? = some q.1 ∧ q.2 = i := by
  rw [List.getElem?_zipIdx] at h
  cases e : xs[i]? with
  | none => rw [e] at h; cases h
  | some x =>
    rw [e] at h
    cases h
    exact ⟨rfl, by simp⟩
theorem rep_range (n : Nat) (d : D) : (List.range n).map (fun _ => d) = List.replicate n d := by
  rw [List.map_const', List.length_range]
theorem ok_multiply_rows (T : Txt K mg L) (C1 : FnC P w K mg base L "trimmed" 1 ["row", "p"] R_trimmed) (F : FunS K "multiply_rows" "multiply_rows" s_multiply_rows f fd) : FnOk P w K mg base CX0 2 f fd ["a", "b", "p"] (spD L R_multiply_rows) := by
  refine fn_ev F sc_multiply_rows (fun ds r h => by cases h; rfl) fun cdv A outer s H E hr ds r h => ?_
  cases h with
  | mk a b p hp ha hb hd =>
    have nd := sc_multiply_rows.nd
    have la : (a.map D.int).length = a.length := List.length_map ..
    have lb : (b.map D.int).length = b.length := List.length_map ..
    let O : Nat → List Int := mulOut 0 (· + ·) (· * ·) a b
    have lO : ∀ i, (O i).length = a.length + b.length := fun i => mulOut_len i
    refine .ret (evb_cons (S' := [.val (tI a), .val (tI b), .val (.int p), .own ((O 0).map .int), .any, .any, .any, .any, .any]) ((evs_lc 3 (own := [("_", 8)]) (t := .one 8) (xs := List.range (a.length + b.length)) (en := fun (i : Nat) => .int (0 + (i : Int) * 1)) (f := fun _ => .int 0) ((evi_range1 T.range (ev_add (ev_len T.len (evq_t (ev_var 0))) (ev_len T.len (evq_t (ev_var 1)))) (by rw [la, lb]; omega)).is (by rw [la, lb]; rfl)) (lcb (fun _ _ _ _ _ => evg_one 8 nd) rfl fun i d hd => ⟨_, rfl, fun _ _ _ _ _ => ev_int⟩) (by rw [List.length_range]; omega) rfl nd (blkOk_by (N := N_multiply_rows) (sc := defScope s_multiply_rows) (by decide +kernel)) (sw_true rfl rfl rfl (by decide +kernel))).is ?_) ?_)
    · show Out.nx [_, _, _, Sl.own _, _, _, _, _, _] = _
      rw [rep_range]
      show _ = Out.nx [_, _, _, Sl.own ((List.replicate (a.length + b.length) 0).map D.int), _, _, _, _, _]
      rw [List.map_replicate]
    refine evb_cons (evs_forT (xs := a.zipIdx) (en := fun q => .tup [.int (q.2 : Nat), .int q.1]) (t := .two 4 5) (W := fun i => [.val (tI a), .val (tI b), .val (.int p), .own ((O i).map .int), .any, .any, .any, .any, .any]) (evi_enumT T.enumerate (ev_var 0)) (evg_two 4 5 rfl nd) PassesOwn.never rfl fun i q hq => ?_) ?_
    · obtain ⟨hx, hi⟩ := zipIdx_get hq
      obtain ⟨x, i'⟩ := q
      subst hi
      have hil : i' < a.length := (List.getElem?_eq_some_iff.mp hx).1
      have hxb := hd x (List.mem_of_getElem? hx)
      let M : Nat → List Int := mulIn 0 (· + ·) (· * ·) (O i') i' x b
      have lM : ∀ k, (M k).length = a.length + b.length := fun k => by
        show (mulIn _ _ _ _ _ _ _ k).length = _
        rw [mulIn_len, lO]
      refine ⟨_, _, rfl, evb_weak (evb_one (evs_forT (xs := b.zipIdx) (en := fun q => .tup [.int (q.2 : Nat), .int q.1]) (t := .two 6 7) (W := fun k => [.val (tI a), .val (tI b), .val (.int p), .own ((M k).map .int), .val (.int (i' : Nat)), .val (.int x), .any, .any, .any]) (evi_enumT T.enumerate (ev_var 1)) (evg_two 6 7 rfl nd) PassesOwn.never rfl fun k q hq => ?_)) (S2 := [.val (tI a), .val (tI b), .val (.int p), .own ((O (i' + 1)).map .int), .any, .any, .any, .any, .any]) ?_, .inl rfl⟩
      · obtain ⟨hy, hk⟩ := zipIdx_get hq
        obtain ⟨y, k'⟩ := q
        subst hk
        have hkl : k' < b.length := (List.getElem?_eq_some_iff.mp hy).1
        refine ⟨_, _, rfl, evb_weak (evb_one (evs_item 3 (j := i' + k') (ev_add (ev_ix (evq_own 3) (ev_add (ev_var 4) (ev_var 6)) (d := .int ((M k').getD (i' + k') 0)) (atI_of (j := i' + k') (by simp) ?_)) (ev_mul (ev_var 5) (ev_var 7) (.inl ⟨by omega, by omega⟩))) (ev_add (ev_var 4) (ev_var 6)) (ixN_of (by simp) ?_))) ?_, .inl rfl⟩
        · rw [List.getElem?_map, get_of 0 (by rw [lM]; omega)]
          rfl
        · rw [List.length_map, lM]
          omega
        · show Weak [_, _, _, Sl.own _, _, _, _, _, _] _
          have e : ((M k').map D.int).set (i' + k') (.int ((M k').getD (i' + k') 0 + x * y)) = (M (k' + 1)).map .int := by
            rw [← List.map_set]
            show _ = (mulIn 0 (· + ·) (· * ·) (O i') i' x b (k' + 1)).map D.int
            rw [mulIn, getD_of hy]
          rw [e]
          exact .same (.same (.same (.same (.same (.same (.any (.any (.any .nil))))))))
      · have e : M b.length = O (i' + 1) := by
          show mulIn _ _ _ _ _ _ _ _ = mulOut _ _ _ _ _ _
          rw [mulOut, getD_of hx]
        rw [List.length_zipIdx, e]
        exact .same (.same (.same (.same (.any (.any (.any (.any (.any .nil))))))))
    · rw [List.length_zipIdx]
      refine evb_frz 3 rfl (evb_one (evs_ret (ev_call C1 hr (eva_cons (ev_var 3) (eva_cons (ev_var 2) eva_nil)) (.mk true (O a.length) p hp (by rw [lO]; omega)))))
/-! ### divide_rows -/
abbrev N_divide_rows : List Str := ["a", "b", "p", "rest", "last", "quotient", "k", "factor", "i", "y", "_"]
theorem sc_divide_rows : FnScope N_divide_rows ["a", "b", "p"] (defScope s_divide_rows) := ⟨rfl, rfl, rfl, by decide +kernel, rfl, by decide +kernel, by decide +kernel⟩
theorem ok_divide_rows (T : Txt K mg L) (C1 : FnC P w K mg base L "trimmed" 1 ["row", "p"] R_trimmed) (C2 : FnC P w K mg base L "inverse_modulo" 1 ["a", "p"] R_inverse_modulo) (F : FunS K "divide_rows" "divide_rows" s_divide_rows f fd) : FnOk P w K mg base CX0 2 f fd ["a", "b", "p"] (spD L R_divide_rows) := by
  refine fn_ev F sc_divide_rows (fun ds r h => by cases h; rfl) fun cdv A outer s H E hr ds r h => ?_
  cases h with
  | mk a b p hp ha hb hne h1 h2 =>
    have nd := sc_divide_rows.nd
    have la : (a.map D.int).length = a.length := List.length_map ..
    have lb : (b.map D.int).length = b.length := List.length_map ..
    have bpos : 0 < b.length := List.length_pos_iff.mpr hne
    have ppos := hp.pos
    have ple := hp.le
    obtain ⟨li0, li1⟩ := invM_rg (a := lastI b) hp
    let m : Nat := a.length + 1 - b.length
    let O : Nat → List Int × List Int := divSt 0 (fun r l => r * l % p) (fun r f y => (r - f * y) % p) a b (invM (lastI b) p) m
    have lO1 : ∀ i, (O i).1.length = m := fun i => (divSt_len i).1
    have lO2 : ∀ i, (O i).2.length = a.length := fun i => (divSt_len i).2
    let W : Nat → SlS := fun t => [.val (tI a), .val (tI b), .val (.int p), .own ((O t).2.map .int), .val (.int (invM (lastI b) p)), .own ((O t).1.map .int), .any, .any, .any, .any, .any]
    refine .ret (evb_cons (evs_ifF ((evt_eq (ev_len T.len (evq_t (ev_var 1))) ev_int).is (by rw [lb]; simp; omega)) evb_nil) (evb_cons (evs_setn 3 (evn_list T.list (evq_t (ev_var 0))) nd) (evb_cons (evs_set 4 (ev_call C2 hr (eva_cons (ev_ix (evq_t (ev_var 1)) (ev_sub (ev_len T.len (evq_t (ev_var 1))) ev_int) (d := .int (lastI b)) (atI_of (j := b.length - 1) (by rw [lb]; omega) ?_)) (eva_cons (ev_var 2) eva_nil)) (.mk (lastI b) p hp h1 h2)) nd) (evb_cons (S' := W 0) ?_ ?_))))
    · rw [List.getElem?_map, get_of 0 (show b.length - 1 < b.length by omega)]
      rfl
    · refine (evs_lc 5 (own := [("_", 10)]) (t := .one 10) (xs := List.range m) (en := fun (i : Nat) => .int (0 + (i : Int) * 1)) (f := fun _ => .int 0) ((evi_range1 T.range (ev_max2 T.max rfl (ev_add (ev_sub (ev_len T.len (evq_t (ev_var 0))) (ev_len T.len (evq_t (ev_var 1)))) ev_int) ev_int) ?_).is ?_) (lcb (fun _ _ _ _ _ => evg_one 10 nd) rfl fun i d hd => ⟨_, rfl, fun _ _ _ _ _ => ev_int⟩) (by rw [List.length_range]; omega) rfl nd (blkOk_by (N := N_divide_rows) (sc := defScope s_divide_rows) (by decide +kernel)) (sw_true rfl rfl rfl (by decide +kernel))).is ?_
      · rw [la, lb]
        split <;> omega
      · rw [la, lb]
        have e : (if 0 > (a.length : Int) - b.length + 1 then (0 : Int) else (a.length : Int) - b.length + 1).toNat = m := by
          split <;> omega
        rw [e]
        rfl
      · show Out.nx [_, _, _, _, _, Sl.own _, _, _, _, _, _] = _
        rw [rep_range]
        show _ = Out.nx [_, _, _, _, _, Sl.own ((List.replicate m 0).map D.int), _, _, _, _, _]
        rw [List.map_replicate]
        rfl
    refine evb_cons (evs_forN (lo := (m : Int) - 1) (c := -1) (n := m) (t := .one 6) (W := W) ((evi_down T.range (ev_sub (ev_len T.len (evq_own 5)) ev_int) (ev_neg ev_int) (ev_neg ev_int) ?_).is ?_) (evg_one 6 nd) PassesOwn.never rfl fun t ht => ?_) ?_
    · rw [List.length_map, lO1]
      omega
    · rw [List.length_map, lO1]
      rw [show ((m : Int) - 1 - -1).toNat = m by omega]
    · let k : Nat := m - 1 - t
      have hk : (m : Int) - 1 + (t : Int) * -1 = (k : Nat) := by omega
      have hkm : k < m := by omega
      have hkb : k + (b.length - 1) < a.length := by omega
      let fac : Int := (O t).2.getD (k + (b.length - 1)) 0 * invM (lastI b) p % p
      have hf0 : 0 ≤ fac := Int.emod_nonneg _ (by omega)
      have hf1 : fac < p := Int.emod_lt_of_pos _ ppos
      let M : Nat → List Int := divIn 0 (fun r f y => (r - f * y) % p) (O t).2 k fac b
      have lM : ∀ i, (M i).length = a.length := fun i => by
        show (divIn _ _ _ _ _ _ i).length = _
        rw [divIn_len, lO2]
      rw [hk]
      refine ⟨_, _, rfl, evb_cons (evs_set 7 (d := .int fac) (ev_mod (ev_mul (ev_ix (evq_own 3) (ev_sub (ev_add (ev_var 6) (ev_len T.len (evq_t (ev_var 1)))) ev_int) (d := .int ((O t).2.getD (k + (b.length - 1)) 0)) (atI_of (j := k + (b.length - 1)) (by rw [lb]; omega) ?_)) (ev_var 4) (.inr ⟨by omega, by omega⟩)) (ev_var 2) ppos) nd) (evb_cons (evs_item 5 (j := k) (ev_var 7) (ev_var 6) (ixN_of rfl ?_)) (evb_weak (evb_one (evs_forT (xs := b.zipIdx) (en := fun q => .tup [.int (q.2 : Nat), .int q.1]) (t := .two 8 9)
        (W := fun i => [.val (tI a), .val (tI b), .val (.int p), .own ((M i).map .int), .val (.int (invM (lastI b) p)), .own (((O t).1.map .int).set k (.int fac)), .val (.int (k : Nat)), .val (.int fac), .any, .any, .any]) (evi_enumT T.enumerate (ev_var 1)) (evg_two 8 9 rfl nd) PassesOwn.never rfl fun i q hq => ?_)) (S2 := W (t + 1)) ?_)), .inl rfl⟩
      · rw [List.getElem?_map, get_of 0 (by rw [lO2]; exact hkb)]
        rfl
      · rw [List.length_map, lO1]
        exact hkm
      · obtain ⟨hy, hi⟩ := zipIdx_get hq
        obtain ⟨y, i'⟩ := q
        subst hi
        have hil : i' < b.length := (List.getElem?_eq_some_iff.mp hy).1
        refine ⟨_, _, rfl, evb_weak (evb_one (evs_item 3 (j := k + i') (ev_mod (ev_sub (ev_ix (evq_own 3) (ev_add (ev_var 6) (ev_var 8)) (d := .int ((M i').getD (k + i') 0)) (atI_of (j := k + i') (by simp) ?_)) (ev_mul (ev_var 7) (ev_var 9) (.inl ⟨by omega, by omega⟩))) (ev_var 2) ppos) (ev_add (ev_var 6) (ev_var 8)) (ixN_of (by simp) ?_))) ?_, .inl rfl⟩
        · rw [List.getElem?_map, get_of 0 (by rw [lM]; omega)]
          rfl
        · rw [List.length_map, lM]
          omega
        · show Weak [_, _, _, Sl.own _, _, _, _, _, _, _, _] _
          have e : ((M i').map D.int).set (k + i') (.int (((M i').getD (k + i') 0 - fac * y) % p)) = (M (i' + 1)).map .int := by
            rw [← List.map_set]
            show _ = (divIn 0 (fun r f y => (r - f * y) % p) (O t).2 k fac b (i' + 1)).map D.int
            rw [divIn, getD_of hy]
          rw [e]
          exact .same (.same (.same (.same (.same (.same (.same (.same (.any (.any (.any .nil))))))))))
      · have e1 : M b.length = (O (t + 1)).2 := rfl
        have e2 : ((O t).1.map D.int).set k (.int fac) = (O (t + 1)).1.map .int := by
          rw [← List.map_set]
          rfl
        rw [List.length_zipIdx, e1, e2]
        exact .same (.same (.same (.same (.same (.same (.any (.any (.any (.any (.any .nil))))))))))
    · refine evb_frz 3 rfl (evb_frz 5 rfl (evb_one (evs_ret (ev_tup (eva_cons (ev_call C1 hr (eva_cons (ev_var 5) (eva_cons (ev_var 2) eva_nil)) (.mk true (O m).1 p ppos (by rw [lO1]; omega))) (eva_cons (ev_call C1 hr (eva_cons (ev_var 3) (eva_cons (ev_var 2) eva_nil)) (.mk true (O m).2 p ppos (by rw [lO2]; omega))) eva_nil))))))
end
end FM
set_option autoImplicit false
namespace FM
open PySem PySem.Spec PyProof.Rows L2 LamX
/-! ## Euclid, powers, members -/
def okL (xs : List Int) : Bool := decide (xs.length ≤ 100) && xs.all fun x => decide (0 ≤ x) && decide (x < 1000)
theorem okL_len {xs : List Int} (h : okL xs = true) : xs.length ≤ 100 := by
  unfold okL at h
  rw [Bool.and_eq_true] at h
  exact of_decide_eq_true h.1
theorem okL_bd {xs : List Int} (h : okL xs = true) : Bd xs := fun x hx => by
  unfold okL at h
  rw [Bool.and_eq_true, List.all_eq_true] at h
  have q := h.2 x hx
  rw [Bool.and_eq_true] at q
  have q1 := of_decide_eq_true q.1
  have q2 := of_decide_eq_true q.2
  exact ⟨by omega, by omega⟩
/-- a divisor -/
def okD (b : List Int) (p : Int) : Bool := okL b && !b.isEmpty && decide (0 < lastI b) && decide (lastI b < p)
theorem okD_all {b : List Int} {p : Int} (h : okD b p = true) : okL b = true ∧ b ≠ [] ∧ 0 < lastI b ∧ lastI b < p := by
  unfold okD at h
  rw [Bool.and_eq_true, Bool.and_eq_true, Bool.and_eq_true] at h
  obtain ⟨⟨⟨h1, h2⟩, h3⟩, h4⟩ := h
  refine ⟨h1, fun z => ?_, of_decide_eq_true h3, of_decide_eq_true h4⟩
  rw [z] at h2
  cases h2
def gcS (a b : List Int) (p : Int) : Nat → List Int × List Int
  | 0 => (a, b)
  | i + 1 => ((gcS a b p i).2, (divM (gcS a b p i).1 (gcS a b p i).2 p).2)
def gcN (a b : List Int) (p : Int) : Nat := ((List.range 12).find? fun i => (gcS a b p i).2.isEmpty).getD 0
def gcOk (a b : List Int) (p : Int) : Bool := ((List.range (gcN a b p)).all fun i => okL (gcS a b p i).1 && okD (gcS a b p i).2 p) && (gcS a b p (gcN a b p)).2.isEmpty && okD (gcS a b p (gcN a b p)).1 p
def gcM (a b : List Int) (p : Int) : List Int := mulM (gcS a b p (gcN a b p)).1 [invM (lastI (gcS a b p (gcN a b p)).1) p] p
def pwS (a m : List Int) (k p : Int) : Nat → List Int × List Int × Int
  | 0 => ((divM [1] m p).2, (divM a m p).2, k)
  | i + 1 => (if (pwS a m k p i).2.2 % 2 = 1 then (divM (mulM (pwS a m k p i).1 (pwS a m k p i).2.1 p) m p).2 else (pwS a m k p i).1, (divM (mulM (pwS a m k p i).2.1 (pwS a m k p i).2.1 p) m p).2, (pwS a m k p i).2.2 / 2)
def pwN (a m : List Int) (k p : Int) : Nat := ((List.range 12).find? fun i => decide ((pwS a m k p i).2.2 = 0)).getD 0
def pwOk (a m : List Int) (k p : Int) : Bool := okL a && okD m p && ((List.range (pwN a m k p)).all fun i => okL (pwS a m k p i).1 && okL (pwS a m k p i).2.1 && decide (0 < (pwS a m k p i).2.2) && okL (mulM (pwS a m k p i).1 (pwS a m k p i).2.1 p) && okL (mulM (pwS a m k p i).2.1 (pwS a m k p i).2.1 p)) && decide ((pwS a m k p (pwN a m k p)).2.2 = 0)
def pwM (a m : List Int) (k p : Int) : List Int := (pwS a m k p (pwN a m k p)).1
/-- x to the powers p^i -/
def irS (m : List Int) (p : Int) : Nat → List Int
  | 0 => (divM [0, 1] m p).2
  | i + 1 => pwM (irS m p i) m p p
def irOk (m : List Int) (p : Int) : Bool := okD m p && decide (2 ≤ m.length) && (List.range ((m.length - 1) / 2)).all fun i => pwOk (irS m p i) m p p && okL (irS m p (i + 1)) && okL m && okL (subM (irS m p (i + 1)) [0, 1] p) && gcOk m (subM (irS m p (i + 1)) [0, 1] p) p && decide ((gcM m (subM (irS m p (i + 1)) [0, 1] p) p).length = 1)
def padM (row : List Int) (n : Nat) : List Int := row ++ List.replicate (n - row.length) 0
def mprod (a b m : List Int) (p : Int) : List Int := padM (divM (mulM (trimM a p) (trimM b p) p) m p).2 (m.length - 1)
def mvS (a m : List Int) (p : Int) : Nat → List Int × List Int × List Int × List Int
  | 0 => (m, trimM a p, [], [1])
  | i + 1 => ((mvS a m p i).2.1, (divM (mvS a m p i).1 (mvS a m p i).2.1 p).2, (mvS a m p i).2.2.2, subM (mvS a m p i).2.2.1 (mulM (divM (mvS a m p i).1 (mvS a m p i).2.1 p).1 (mvS a m p i).2.2.2 p) p)
def mvN (a m : List Int) (p : Int) : Nat := ((List.range 12).find? fun i => decide ((mvS a m p i).2.1.length ≤ 1)).getD 0
def mvOk (a m : List Int) (p : Int) : Bool := okL a && okD m p && decide ((mvS a m p 0).2.1.length ≠ 0) && ((List.range (mvN a m p)).all fun i => okL (mvS a m p i).1 && okD (mvS a m p i).2.1 p && decide (1 < (mvS a m p i).2.1.length) && okL (divM (mvS a m p i).1 (mvS a m p i).2.1 p).1 && okL (mvS a m p i).2.2.2 && okL (mvS a m p i).2.2.1 && okL (mulM (divM (mvS a m p i).1 (mvS a m p i).2.1 p).1 (mvS a m p i).2.2.2 p)) &&
  okD (mvS a m p (mvN a m p)).2.1 p && decide ((mvS a m p (mvN a m p)).2.1.length = 1) && okL (mvS a m p (mvN a m p)).2.2.2
def minv (a m : List Int) (p : Int) : List Int := padM (mulM (mvS a m p (mvN a m p)).2.2.2 [invM (lastI (mvS a m p (mvN a m p)).2.1) p] p) (m.length - 1)
inductive R_common_row : List D → D → Prop
  | mk (a b : List Int) (p : Int) (hp : PP p) (h : gcOk a b p = true) : R_common_row [tI a, tI b, .int p] (tI (gcM a b p))
inductive R_power_row : List D → D → Prop
  | mk (a m : List Int) (k p : Int) (hp : PP p) (hk : 0 ≤ k) (h : pwOk a m k p = true) : R_power_row [tI a, .int k, tI m, .int p] (tI (pwM a m k p))
inductive R_is_irreducible_row : List D → D → Prop
  | mk (m : List Int) (p : Int) (hp : PP p) (h : irOk m p = true) : R_is_irreducible_row [tI m, .int p] (.bl true)
inductive R_member_product : List D → D → Prop
  | mk (a b m : List Int) (p : Int) (hp : PP p) (ha : a.length ≤ 100) (hb : b.length ≤ 100) (hm : okD m p = true) : R_member_product [tI a, tI b, tI m, .int p] (tI (mprod a b m p))
inductive R_member_inverse : List D → D → Prop
  | mk (a m : List Int) (p : Int) (hp : PP p) (h : mvOk a m p = true) : R_member_inverse [tI a, tI m, .int p] (tI (minv a m p))
theorem trimM_len (row : List Int) (p : Int) : (trimM row p).length ≤ row.length := by
  unfold trimM
  refine Nat.le_trans (dropZ_len _ _) ?_
  rw [List.length_map]
  exact Nat.le_refl _
theorem trimM_bd {row : List Int} {p : Int} (hp : PP p) : Bd (trimM row p) := fun x hx => by
  unfold trimM dropZ at hx
  obtain ⟨y, _, rfl⟩ := List.mem_map.mp (List.mem_of_mem_take hx)
  have h1 := Int.emod_nonneg y (show p ≠ 0 by have := hp.pos; omega)
  have h2 := Int.emod_lt_of_pos y hp.pos
  have := hp.le
  exact ⟨by omega, by omega⟩
theorem mulM_len (a b : List Int) (p : Int) : (mulM a b p).length ≤ a.length + b.length := by
  unfold mulM
  refine Nat.le_trans (trimM_len _ _) ?_
  rw [mulOut_len]
  exact Nat.le_refl _
theorem divM_len (a b : List Int) (p : Int) : (divM a b p).2.length ≤ a.length := by
  unfold divM
  refine Nat.le_trans (trimM_len _ _) ?_
  rw [(divSt_len _).2]
  exact Nat.le_refl _
theorem lastI_of {b : List Int} (h : b ≠ []) : b[b.length - 1]? = some (lastI b) := get_of 0 (by have := List.length_pos_iff.mpr h; omega)
section
variable {P : Program} {w : World} {K : PySem.W.Frag} {mg : Str → Option Value} {base : Heap} {L : Lc} {f : Addr} {fd : FuncData}
/-! ### common_row -/
theorem sc_common_row : FnScope ["a", "b", "p"] ["a", "b", "p"] (defScope s_common_row) := ⟨rfl, rfl, rfl, by decide +kernel, rfl, by decide +kernel, by decide +kernel⟩
theorem ok_common_row (T : Txt K mg L) (C1 : FnC P w K mg base L "divide_rows" 2 ["a", "b", "p"] R_divide_rows) (C2 : FnC P w K mg base L "inverse_modulo" 1 ["a", "p"] R_inverse_modulo) (C3 : FnC P w K mg base L "multiply_rows" 2 ["a", "b", "p"] R_multiply_rows) (F : FunS K "common_row" "common_row" s_common_row f fd) : FnOk P w K mg base CX0 3 f fd ["a", "b", "p"] (spD L R_common_row) := by
  refine fn_ev F sc_common_row (fun ds r h => by cases h; rfl) fun cdv A outer s H E hr ds r h => ?_
  cases h with
  | mk a b p hp ok =>
    have nd := sc_common_row.nd
    unfold gcOk at ok
    rw [Bool.and_eq_true, Bool.and_eq_true, List.all_eq_true] at ok
    obtain ⟨⟨ok1, ok2⟩, ok3⟩ := ok
    have ln : ∀ xs : List Int, (xs.map D.int).length = xs.length := fun xs => List.length_map ..
    have e2 : (gcS a b p (gcN a b p)).2 = [] := List.isEmpty_iff.mp ok2
    obtain ⟨o1, o2, o3, o4⟩ := okD_all ok3
    have o5 := List.length_pos_iff.mpr o2
    have o6 := okL_len o1
    refine .ret (evb_cons (evs_while (W := fun i => [.val (tI (gcS a b p i).1), .val (tI (gcS a b p i).2), .val (.int p)]) (gcN a b p) PassesOwn.never (fun i hi => ?_) ?_) ?_)
    · have q := ok1 i (List.mem_range.mpr hi)
      rw [Bool.and_eq_true] at q
      obtain ⟨q1, q2, q3, q4⟩ := okD_all q.2
      have q5 := List.length_pos_iff.mpr q2
      have q6 := okL_len q.1
      have q7 := okL_len q1
      exact ⟨(evt_gt (ev_len T.len (evq_t (ev_var 1))) ev_int).is (by rw [ln]; simp; omega), _, evb_one (evs_par 0 1 (eva_cons (ev_var 1) (eva_cons (ev_ix (evq_t (ev_call C1 hr (eva_cons (ev_var 0) (eva_cons (ev_var 1) (eva_cons (ev_var 2) eva_nil))) (.mk _ _ p hp (by omega) (by omega) q2 q3 q4))) ev_int (atN (i := 1) rfl)) eva_nil)) rfl nd (by decide)), .inl rfl⟩
    · exact (evt_gt (ev_len T.len (evq_t (ev_var 1))) ev_int).is (by rw [ln, e2]; rfl)
    · refine evb_cons (evs_ifF ((evt_eq (ev_len T.len (evq_t (ev_var 0))) ev_int).is (by rw [ln]; simp; omega)) evb_nil) (evb_one (evs_ret (ev_call C3 hr (eva_cons (ev_var 0) (eva_cons (ev_tup (eva_cons (ev_call C2 (hr.mono (by decide)) (eva_cons (ev_ix (evq_t (ev_var 0)) (ev_sub (ev_len T.len (evq_t (ev_var 0))) ev_int) (d := .int (lastI (gcS a b p (gcN a b p)).1)) (atI_of (j := (gcS a b p (gcN a b p)).1.length - 1) (by rw [ln]; omega) ?_)) (eva_cons (ev_var 2) eva_nil)) (.mk _ p hp o3 o4)) eva_nil)) (eva_cons (ev_var 2) eva_nil))) (.mk _ [_] p hp.pos (by omega) (by simp) (okL_bd o1)))))
      rw [List.getElem?_map, lastI_of o2]
      rfl
/-! ### power_row -/
abbrev N_power_row : List Str := ["a", "k", "m", "p", "out", "base"]
theorem sc_power_row : FnScope N_power_row ["a", "k", "m", "p"] (defScope s_power_row) := ⟨rfl, rfl, rfl, by decide +kernel, rfl, by decide +kernel, by decide +kernel⟩
theorem ok_power_row (T : Txt K mg L) (C1 : FnC P w K mg base L "divide_rows" 2 ["a", "b", "p"] R_divide_rows) (C3 : FnC P w K mg base L "multiply_rows" 2 ["a", "b", "p"] R_multiply_rows) (F : FunS K "power_row" "power_row" s_power_row f fd) : FnOk P w K mg base CX0 3 f fd ["a", "k", "m", "p"] (spD L R_power_row) := by
  refine fn_ev F sc_power_row (fun ds r h => by cases h; rfl) fun cdv A outer s H E hr ds r h => ?_
  cases h with
  | mk a m k p hp hk ok =>
    have nd := sc_power_row.nd
    unfold pwOk at ok
    rw [Bool.and_eq_true, Bool.and_eq_true, Bool.and_eq_true, List.all_eq_true] at ok
    obtain ⟨⟨⟨oa, om⟩, ok1⟩, ok2⟩ := ok
    have e2 := of_decide_eq_true ok2
    obtain ⟨o1, o2, o3, o4⟩ := okD_all om
    have o6 := okL_len o1
    have o7 := okL_len oa
    have dv : ∀ x : List Int, x.length ≤ 100 → R_divide_rows [tI x, tI m, .int p] (.tup [tI (divM x m p).1, tI (divM x m p).2]) := fun x hx => .mk _ _ p hp (by omega) (by omega) o2 o3 o4
    refine .ret (evb_cons (evs_set 4 (ev_ix (evq_t (ev_call C1 hr (eva_cons (d := tI [1]) (ev_tup (eva_cons ev_int eva_nil)) (eva_cons (ev_var 2) (eva_cons (ev_var 3) eva_nil))) (dv [1] (by decide)))) ev_int (atN (i := 1) rfl)) nd) (evb_cons (evs_set 5 (ev_ix (evq_t (ev_call C1 hr (eva_cons (ev_var 0) (eva_cons (ev_var 2) (eva_cons (ev_var 3) eva_nil))) (dv a o7))) ev_int (atN (i := 1) rfl)) nd) (evb_cons (evs_while (W := fun i => [.val (tI a), .val (.int (pwS a m k p i).2.2), .val (tI m), .val (.int p), .val (tI (pwS a m k p i).1), .val (tI (pwS a m k p i).2.1)]) (pwN a m k p) PassesOwn.never (fun i hi => ?_) ?_) ?_)))
    · have q := ok1 i (List.mem_range.mpr hi)
      rw [Bool.and_eq_true, Bool.and_eq_true, Bool.and_eq_true, Bool.and_eq_true] at q
      obtain ⟨⟨⟨⟨q1, q2⟩, q3⟩, q4⟩, q5⟩ := q
      have k0 := of_decide_eq_true q3
      have l1 := okL_len q1
      have l2 := okL_len q2
      refine ⟨(evt_gt (ev_var 1) ev_int).is (decide_eq_true k0), _, evb_cons (S' := [.val (tI a), .val (.int (pwS a m k p i).2.2), .val (tI m), .val (.int p), .val (tI (pwS a m k p (i + 1)).1), .val (tI (pwS a m k p i).2.1)]) (evs_if (evt_eq (ev_mod (ev_var 1) ev_int (by decide)) ev_int) (fun z => ?_) (fun z => ?_)) (evb_cons (evs_set 5 (ev_ix (evq_t (ev_call C1 hr (eva_cons (ev_call C3 hr (eva_cons (ev_var 5) (eva_cons (ev_var 5) (eva_cons (ev_var 3) eva_nil))) (.mk _ _ p hp.pos (by omega) (by omega) (okL_bd q2))) (eva_cons (ev_var 2) (eva_cons (ev_var 3) eva_nil))) (dv _ (okL_len q5)))) ev_int (atN (i := 1) rfl)) nd)
        (evb_one (evs_set 1 (ev_fdiv (ev_var 1) ev_int ⟨by decide, by decide⟩) nd))), .inl rfl⟩
      · have z' := of_decide_eq_true z
        refine (evb_one (evs_set 4 (ev_ix (evq_t (ev_call C1 hr (eva_cons (ev_call C3 hr (eva_cons (ev_var 4) (eva_cons (ev_var 5) (eva_cons (ev_var 3) eva_nil))) (.mk _ _ p hp.pos (by omega) (by omega) (okL_bd q1))) (eva_cons (ev_var 2) (eva_cons (ev_var 3) eva_nil))) (dv _ (okL_len q4)))) ev_int (atN (i := 1) rfl)) nd)).is ?_
        show Out.nx [_, _, _, _, _, _] = Out.nx [_, _, _, _, Sl.val (tI (if _ then _ else _)), _]
        rw [if_pos z']
      · have z' := of_decide_eq_false z
        refine evb_nil.is ?_
        show Out.nx [_, _, _, _, _, _] = Out.nx [_, _, _, _, Sl.val (tI (if _ then _ else _)), _]
        rw [if_neg z']
    · exact (evt_gt (ev_var 1) ev_int).is (by rw [e2]; rfl)
    · exact evb_one (evs_ret (ev_var 4))
/-! ### is_irreducible_row -/
abbrev N_is_irreducible_row : List Str := ["m", "p", "n", "power", "_"]
theorem sc_is_irreducible_row : FnScope N_is_irreducible_row ["m", "p"] (defScope s_is_irreducible_row) := ⟨rfl, rfl, rfl, by decide +kernel, rfl, by decide +kernel, by decide +kernel⟩
theorem ok_is_irreducible_row (T : Txt K mg L) (C1 : FnC P w K mg base L "divide_rows" 2 ["a", "b", "p"] R_divide_rows) (C2 : FnC P w K mg base L "power_row" 3 ["a", "k", "m", "p"] R_power_row) (C3 : FnC P w K mg base L "common_row" 3 ["a", "b", "p"] R_common_row) (C4 : FnC P w K mg base L "subtract_rows" 3 ["a", "b", "p"] R_subtract_rows)
    (F : FunS K "is_irreducible_row" "is_irreducible_row" s_is_irreducible_row f fd) : FnOk P w K mg base CX0 4 f fd ["m", "p"] (spD L R_is_irreducible_row) := by
  refine fn_ev F sc_is_irreducible_row (fun ds r h => by cases h; rfl) fun cdv A outer s H E hr ds r h => ?_
  cases h with
  | mk m p hp ok =>
    have nd := sc_is_irreducible_row.nd
    unfold irOk at ok
    rw [Bool.and_eq_true, Bool.and_eq_true, List.all_eq_true] at ok
    obtain ⟨⟨om, o2⟩, ok1⟩ := ok
    have hl := of_decide_eq_true o2
    obtain ⟨o1, o2, o3, o4⟩ := okD_all om
    have o6 := okL_len o1
    have ln : ∀ xs : List Int, (xs.map D.int).length = xs.length := fun xs => List.length_map ..
    let n : Nat := m.length - 1
    have hn : (m.length : Int) - 1 = (n : Nat) := by omega
    refine .ret (evb_cons (evs_set 2 (d := .int (n : Nat)) ((ev_sub (ev_len T.len (evq_t (ev_var 0))) ev_int).is (by rw [ln, hn])) nd) (evb_cons (evs_ifF ((evt_lt (ev_var 2) ev_int).is (decide_eq_false (by omega))) evb_nil) (evb_cons (evs_set 3 (ev_ix (evq_t (ev_call C1 (hr.mono (by decide)) (eva_cons (d := tI [0, 1]) (ev_tup (eva_cons ev_int (eva_cons ev_int eva_nil))) (eva_cons (ev_var 0) (eva_cons (ev_var 1) eva_nil))) (.mk [0, 1] m p hp (by decide) (by omega) o2 o3 o4))) ev_int (atN (i := 1) rfl)) nd)
      (evb_cons (S' := [.val (tI m), .val (.int p), .val (.int (n : Nat)), .any, .any]) ?_ (evb_one (evs_ret ev_bl))))))
    refine evs_weak (evs_pre (S1 := [.val (tI m), .val (.int p), .val (.int (n : Nat)), .val (tI (irS m p 0)), .any]) (.same (.same (.same (.same (.any .nil))))) (evs_forN (lo := 0) (c := 1) (n := n / 2) (t := .one 4) (W := fun i => [.val (tI m), .val (.int p), .val (.int (n : Nat)), .val (tI (irS m p i)), .any]) ((evi_range1 T.range (ev_fdiv (ev_var 2) ev_int ⟨by decide, by decide⟩) ?_).is ?_) (evg_one 4 nd) PassesOwn.never rfl fun i hi => ?_)) (.same (.same (.same (.any (.any .nil)))))
    · omega
    · congr 1
    · have q := ok1 i (List.mem_range.mpr hi)
      rw [Bool.and_eq_true, Bool.and_eq_true, Bool.and_eq_true, Bool.and_eq_true, Bool.and_eq_true] at q
      obtain ⟨⟨⟨⟨⟨q1, q2⟩, q3⟩, q4⟩, q5⟩, q6⟩ := q
      refine ⟨_, _, rfl, evb_weak (evb_cons (evs_set 3 (ev_call C2 hr (eva_cons (ev_var 3) (eva_cons (ev_var 1) (eva_cons (ev_var 0) (eva_cons (ev_var 1) eva_nil)))) (.mk _ m p p hp (by have := hp.pos; omega) q1)) nd) (evb_one (evs_ifF ((evt_ne (ev_len T.len (evq_t (ev_call C3 hr (eva_cons (ev_var 0) (eva_cons (ev_call C4 hr (eva_cons (ev_var 3) (eva_cons (d := tI [0, 1]) (ev_tup (eva_cons ev_int (eva_cons ev_int eva_nil))) (eva_cons (ev_var 1) eva_nil))) (.mk false false _ [0, 1] p hp.pos (by have := okL_len q2; exact Nat.le_trans this (by decide)) (by decide))) (eva_cons (ev_var 1) eva_nil))) (.mk m _ p hp q5)))) ev_int).is ?_) evb_nil))) (.same (.same (.same (.same (.any .nil))))), .inl rfl⟩
      have e6 := of_decide_eq_true q6
      rw [ln]
      show (!decide (((gcM m (subM (irS m p (i + 1)) [0, 1] p) p).length : Int) = 1)) = false
      rw [e6]
      rfl
/-! ### member_product -/
abbrev N_member_product : List Str := ["a", "b", "modulus", "p", "row"]
theorem sc_member_product : FnScope N_member_product ["a", "b", "modulus", "p"] (defScope s_member_product) := ⟨rfl, rfl, rfl, by decide +kernel, rfl, by decide +kernel, by decide +kernel⟩
theorem ok_member_product (T : Txt K mg L) (C0 : FnC P w K mg base L "trimmed" 1 ["row", "p"] R_trimmed) (C1 : FnC P w K mg base L "divide_rows" 2 ["a", "b", "p"] R_divide_rows) (C2 : FnC P w K mg base L "multiply_rows" 2 ["a", "b", "p"] R_multiply_rows) (C3 : FnC P w K mg base L "member_of" 1 ["row", "n"] R_member_of)
    (F : FunS K "member_product" "member_product" s_member_product f fd) : FnOk P w K mg base CX0 3 f fd ["a", "b", "modulus", "p"] (spD L R_member_product) := by
  refine fn_ev F sc_member_product (fun ds r h => by cases h; rfl) fun cdv A outer s H E hr ds r h => ?_
  cases h with
  | mk a b m p hp ha hb hm =>
    have nd := sc_member_product.nd
    obtain ⟨o1, o2, o3, o4⟩ := okD_all hm
    have o6 := okL_len o1
    have hr1 : Room 1 _ := hr.mono (by decide)
    have ln : ∀ xs : List Int, (xs.map D.int).length = xs.length := fun xs => List.length_map ..
    have ta := trimM_len a p
    have tb := trimM_len b p
    have mpos := List.length_pos_iff.mpr o2
    have lm := mulM_len (trimM a p) (trimM b p) p
    have ld := divM_len (mulM (trimM a p) (trimM b p) p) m p
    refine .ret (evb_cons (evs_set 4 (ev_call C2 hr (eva_cons (ev_call C0 hr1 (eva_cons (ev_var 0) (eva_cons (ev_var 3) eva_nil)) (.mk false a p hp.pos (by omega))) (eva_cons (ev_call C0 hr1 (eva_cons (ev_var 1) (eva_cons (ev_var 3) eva_nil)) (.mk false b p hp.pos (by omega))) (eva_cons (ev_var 3) eva_nil))) (.mk _ _ p hp.pos (by omega) (by omega) (trimM_bd hp))) nd)
      (evb_one (evs_ret (ev_call C3 hr1 (eva_cons (ev_ix (evq_t (ev_call C1 hr (eva_cons (ev_var 4) (eva_cons (ev_var 2) (eva_cons (ev_var 3) eva_nil))) (.mk _ m p hp (by omega) (by omega) o2 o3 o4))) ev_int (atN (i := 1) rfl)) (eva_cons (ev_sub (ev_len T.len (evq_t (ev_var 2))) ev_int) eva_nil)) ?_))))
    have e := R_member_of.mk false (divM (mulM (trimM a p) (trimM b p) p) m p).2 ((m.map D.int).length - 1) (by rw [ln]; omega) (by omega)
    have e2 : ((((m.map D.int).length : Int) - 1) - ((divM (mulM (trimM a p) (trimM b p) p) m p).2.length : Int)).toNat = m.length - 1 - (divM (mulM (trimM a p) (trimM b p) p) m p).2.length := by
      rw [ln]
      omega
    rw [e2] at e
    exact e
/-! ### member_inverse -/
abbrev N_member_inverse : List Str := ["a", "modulus", "p", "first", "second", "u", "v", "quotient", "rest"]
theorem sc_member_inverse : FnScope N_member_inverse ["a", "modulus", "p"] (defScope s_member_inverse) := ⟨rfl, rfl, rfl, by decide +kernel, rfl, by decide +kernel, by decide +kernel⟩
theorem ok_member_inverse (T : Txt K mg L) (C0 : FnC P w K mg base L "trimmed" 1 ["row", "p"] R_trimmed) (C1 : FnC P w K mg base L "divide_rows" 2 ["a", "b", "p"] R_divide_rows) (C2 : FnC P w K mg base L "multiply_rows" 2 ["a", "b", "p"] R_multiply_rows) (C3 : FnC P w K mg base L "member_of" 1 ["row", "n"] R_member_of)
    (C4 : FnC P w K mg base L "subtract_rows" 3 ["a", "b", "p"] R_subtract_rows) (C5 : FnC P w K mg base L "inverse_modulo" 1 ["a", "p"] R_inverse_modulo) (F : FunS K "member_inverse" "member_inverse" s_member_inverse f fd) : FnOk P w K mg base CX0 4 f fd ["a", "modulus", "p"] (spD L R_member_inverse) := by
  refine fn_ev F sc_member_inverse (fun ds r h => by cases h; rfl) fun cdv A outer s H E hr ds r h => ?_
  cases h with
  | mk a m p hp ok =>
    have nd := sc_member_inverse.nd
    unfold mvOk at ok
    rw [Bool.and_eq_true, Bool.and_eq_true, Bool.and_eq_true, Bool.and_eq_true, Bool.and_eq_true, Bool.and_eq_true, List.all_eq_true] at ok
    obtain ⟨⟨⟨⟨⟨⟨oa, om⟩, ok0⟩, ok1⟩, ok2⟩, ok3⟩, ok4⟩ := ok
    have z0 := of_decide_eq_true ok0
    obtain ⟨o1, o2, o3, o4⟩ := okD_all om
    have o6 := okL_len o1
    have o7 := okL_len oa
    have l1 := of_decide_eq_true ok3
    obtain ⟨r1, r2, r3, r4⟩ := okD_all ok2
    have hr1 : Room 1 _ := hr.mono (by decide)
    have hr2 : Room 2 _ := hr.mono (by decide)
    have ln : ∀ xs : List Int, (xs.map D.int).length = xs.length := fun xs => List.length_map ..
    have mpos := List.length_pos_iff.mpr o2
    refine .ret (evb_cons (evs_par 3 4 (eva_cons (ev_var 1) (eva_cons (ev_call C0 hr1 (eva_cons (ev_var 0) (eva_cons (ev_var 2) eva_nil)) (.mk false a p hp.pos (by omega))) eva_nil)) rfl nd (by decide)) (evb_cons (evs_ifF ((evt_eq (ev_len T.len (evq_t (ev_var 4))) ev_int).is ?_) evb_nil) (evb_cons (evs_unpack (t := .two 5 6) (d := .tup [tI [], tI [1]]) (ev_tup (eva_cons (ev_tup eva_nil) (eva_cons (ev_tup (eva_cons ev_int eva_nil)) eva_nil))) (evg_two 5 6 rfl nd)) ?_)))
    · rw [ln]
      exact decide_eq_false (by
        have : (trimM a p).length ≠ 0 := z0
        omega)
    refine evb_cons (S' := [.val (tI a), .val (tI m), .val (.int p), .val (tI (mvS a m p (mvN a m p)).1), .val (tI (mvS a m p (mvN a m p)).2.1), .val (tI (mvS a m p (mvN a m p)).2.2.1), .val (tI (mvS a m p (mvN a m p)).2.2.2), .any, .any]) (evs_while (W := fun i => [.val (tI a), .val (tI m), .val (.int p), .val (tI (mvS a m p i).1), .val (tI (mvS a m p i).2.1), .val (tI (mvS a m p i).2.2.1), .val (tI (mvS a m p i).2.2.2), .any, .any]) (mvN a m p) PassesOwn.never (fun i hi => ?_) ?_) ?_
    · have q := ok1 i (List.mem_range.mpr hi)
      rw [Bool.and_eq_true, Bool.and_eq_true, Bool.and_eq_true, Bool.and_eq_true, Bool.and_eq_true, Bool.and_eq_true] at q
      obtain ⟨⟨⟨⟨⟨⟨q1, q2⟩, q3⟩, q4⟩, q5⟩, q6⟩, q7⟩ := q
      have g1 := of_decide_eq_true q3
      obtain ⟨d1, d2, d3, d4⟩ := okD_all q2
      have l1 := okL_len q1
      have l2 := okL_len d1
      have l4 := okL_len q4
      have l5 := okL_len q5
      have l6 := okL_len q6
      have l7 := okL_len q7
      refine ⟨(evt_gt (ev_len T.len (evq_t (ev_var 4))) ev_int).is (by rw [ln]; exact decide_eq_true (by omega)), _, evb_weak (evb_cons (evs_unpack (t := .two 7 8) (ev_call C1 hr2 (eva_cons (ev_var 3) (eva_cons (ev_var 4) (eva_cons (ev_var 2) eva_nil))) (.mk _ _ p hp (by omega) (by omega) d2 d3 d4)) (evg_two 7 8 rfl nd)) (evb_cons (evs_par 3 4 (eva_cons (ev_var 4) (eva_cons (ev_var 8) eva_nil)) rfl nd (by decide))
        (evb_one (evs_par 5 6 (eva_cons (ev_var 6) (eva_cons (ev_call C4 hr (eva_cons (ev_var 5) (eva_cons (ev_call C2 hr2 (eva_cons (ev_var 7) (eva_cons (ev_var 6) (eva_cons (ev_var 2) eva_nil))) (.mk _ _ p hp.pos (by omega) (by omega) (okL_bd q4))) (eva_cons (ev_var 2) eva_nil))) (.mk false false _ _ p hp.pos (by omega) (by omega))) eva_nil)) rfl nd (by decide))))) ?_, .inl rfl⟩
      exact .same (.same (.same (.same (.same (.same (.same (.any (.any .nil))))))))
    · exact (evt_gt (ev_len T.len (evq_t (ev_var 4))) ev_int).is (by rw [ln, l1]; rfl)
    · have lv := okL_len ok4
      have lmu := mulM_len (mvS a m p (mvN a m p)).2.2.2 [invM (lastI (mvS a m p (mvN a m p)).2.1) p] p
      rw [List.length_singleton] at lmu
      refine evb_one (evs_ret (ev_call C3 hr1 (eva_cons (ev_call C2 hr2 (eva_cons (ev_var 6) (eva_cons (d := tI [_]) (ev_tup (eva_cons (ev_call C5 hr1 (eva_cons (ev_ix (evq_t (ev_var 4)) ev_int (d := .int (lastI (mvS a m p (mvN a m p)).2.1)) (atN (i := 0) ?_)) (eva_cons (ev_var 2) eva_nil)) (.mk _ p hp r3 r4)) eva_nil)) (eva_cons (ev_var 2) eva_nil))) (.mk _ [_] p hp.pos (by omega) (by simp) (okL_bd ok4))) (eva_cons (ev_sub (ev_len T.len (evq_t (ev_var 1))) ev_int) eva_nil)) ?_))
      · have e := lastI_of r2
        rw [l1] at e
        rw [List.getElem?_map, e]
        rfl
      · have e := R_member_of.mk false (mulM (mvS a m p (mvN a m p)).2.2.2 [invM (lastI (mvS a m p (mvN a m p)).2.1) p] p) ((m.map D.int).length - 1) (by rw [ln]; omega) (by omega)
        have e2 : ((((m.map D.int).length : Int) - 1) - ((mulM (mvS a m p (mvN a m p)).2.2.2 [invM (lastI (mvS a m p (mvN a m p)).2.1) p] p).length : Int)).toNat = m.length - 1 - (mulM (mvS a m p (mvN a m p)).2.2.2 [invM (lastI (mvS a m p (mvN a m p)).2.1) p] p).length := by
          rw [ln]
          omega
        rw [e2] at e
        exact e
end
end FM
set_option autoImplicit false
namespace FM
open PySem PySem.Spec PyProof.Rows L2 LamX
/-! ### a builtin's call of a def: the same frames, less room -/
section
variable {X : Cx} {CX : CXT} {k : Nat} {f C : Addr} {fd : FuncData} {ps : List Str} {sp : Sp} {E : XK}
theorem run_in {A : Around} {pins : List (Addr × Obj)} {σ : L2.St} {H : Hp} {s : Shared} {Q : VK} {us : List Value} {vs : List V} (F : FnOk X.prog X.w X.K X.mg X.base CX0 k f fd ps sp) (hr : Room k A) (hfr : A.frames = X.A.frames) (hb : L2.Binds X.K fd ps [])
    (I : Inv X pins σ H s) (r : Vals vs us) (h : sp vs H Q E0) : wpAny (model X.prog X.w) A (call (.ref f) us) (EP X pins σ Q) X.xe s := by
  have e0 : Env0 X.prog X.w X.K X.mg X.base A X.stack s H := by
    have e := I.env0
    exact ⟨by rw [hfr]; exact e.frames, e.mod, e.bs, e.bsz, e.funs, e.frf, e.hok, e.bare⟩
  have hl : us.length = ps.length := by rw [← r.length]; exact F.len _ _ _ _ h
  refine wpAny_call (codeAny_mono (F.run A X.stack s H ⟨us, []⟩ us vs Q E0 hr e0 (by
    have := hb s us I.kIn (by rw [List.append_nil]; exact hl)
    rw [List.append_nil] at this
    exact this) r h) fun r s' hq => ?_)
  cases r with
  | error e => exact hq.elim
  | ok fl =>
    cases fl with
    | ret u => exact I.after hq
    | next => exact False.elim hq
    | brk => exact False.elim hq
    | cont => exact False.elim hq
end
/-- what the written part says of a class's own operator -/
structure OpIn (K : PySem.W.Frag) (C : Addr) (nm : Str) (f : Addr) : Prop where
  hc : PySem.W.selfFirst K C = true
  hs : PySem.W.findIn K (.ref C) nm = some (some (.ref f))
  hf : PySem.W.isFn K (.ref f) = true
theorem relV_ne {v : V} {u : Value} (r : RelV v u) {Q : Value → Shared → Prop} {s : Shared} (h : Q u s) : PySem.W.CmpBack Q u s := by
  cases v with
  | non => cases r; exact h
  | bl b => cases r; exact h
  | int i => obtain ⟨t, rfl⟩ := r; exact h
  | str i => obtain ⟨t, rfl⟩ := r; exact h
  | byt i => obtain ⟨t, rfl⟩ := r; exact h
  | flt i => obtain ⟨t, rfl⟩ := r; exact h
  | ref a => cases r; exact h
  | ty n => cases r; exact h
section
variable {X : Cx} {k : Nat} {f C : Addr} {fd : FuncData} {ps : List Str} {sp : Sp}
theorem op_ownB {op : Operator} (O : OpIn X.K C (PySem.dunder op.info.2) f) (F : FnOk X.prog X.w X.K X.mg X.base CX0 k f fd ps sp) (hr : Room k X.A) (hb : L2.Binds X.K fd ps []) :
    OpR X (binaryOp op) (fun x y H Q => ∃ a b dx dy fs gs, x = .ref a ∧ y = .ref b ∧ H a = some (.ins C dx fs) ∧ H b = some (.ins C dy gs) ∧ sp [x, y] H Q E0) := by
  intro pins s σ H x y v u Q I rx ry h
  obtain ⟨a, b, dx, dy, fs, gs, rfl, rfl, ha, hb', q⟩ := h
  cases rx
  cases ry
  obtain ⟨mA, J, _⟩ := ins_get I.hok ha
  obtain ⟨mB, J', _⟩ := ins_get I.hok hb'
  obtain ⟨od, J, _⟩ := J.look
  obtain ⟨od', J', _⟩ := J'.look
  obtain ⟨m, hF⟩ := I.fr
  refine PySem.W.binop_K hF I.ok.mod.kin J J'.type O.hc O.hs O.hf (thn (run_in (vs := [V.ref a, V.ref b]) F hr rfl hb I (.cons rfl (.cons rfl .nil)) q) fun u' s' ⟨z, H', I', rz, ez⟩ => ?_)
  exact relV_ne rz ⟨z, H', I', rz, ez⟩
end
end FM
namespace PySem
open PySem.Builtin PyProof.Rows
section
variable {prog : Program} {w : World} {A : Around} {E : Value → Shared → Prop} {s : Shared} {K : W.Frag} {x C f : Addr} {ox : Obj} {od : Option Obj} {y : Value}
theorem fm_ne_entry {Q : Fin → Shared → Prop} (X : K.In s.heap) (I : W.InstAt s.heap x ox C od) (hs : W.findIn K (.ref C) "__eq__" = some (some (.ref f))) (hf : W.isFn K (.ref f) = true) (hu : A.units < cLine)
    (h : wpAny (model prog w) A (call (.ref f) [.ref x, y]) (fun v s' => ∃ b, v = .bool b ∧ Q (.done (.ret (.bool (!b)))) s') E s) : wpAny (model prog w) A (Builtin.«object.__ne__» ⟨[.ref x, y], []⟩) Q E s := by
  unfold Builtin.«object.__ne__»
  repeat (first
    | with_reducible refine wpAny_cRoomFor hu ?_
    | (refine wpAny_bind (m := callSpecialIfBound? (.ref x) (Str.ofString "__eq__") [y])
        (W.ifBound_K X I hs hf (wpAny_mono h (fun r s' hr => by
          obtain ⟨b, rfl, hq⟩ := hr
          repeat (first | exact hq | exact wpAny_pure hq | exact wpAny_truthy_bool hq | (refine wpAny_bind (m := truthy (.bool _)) (wpAny_truthy_bool ?_)) | wp_step)) fun _ _ e => e)))
    | wp_step)
theorem fm_ifBound_ne {M : Model} {args : List Value} {Q : Option Value → Shared → Prop} (X : K.In s.heap) (I : W.InstAt s.heap x ox C od) (hs : W.findIn K (.ref C) "__ne__" = some (some (.builtin "object.__ne__")))
    (h : wpAny M A (call (.builtin "object.__ne__") (.ref x :: args)) (fun v => Q (some v)) E s) : wpAny M A (callSpecialIfBound? (.ref x) "__ne__" args) Q E s := by
  simp only [callSpecialIfBound?, bindSpecialIfBound?]
  refine wpAny_holding (wpAny_bind (wpAny_bind (wpAny_bind (I.type.here ((W.looks_findIn X hs).here ?_)))))
  refine wpAny_bind (wpAny_askSetting (wpAny_ite ?_))
  have fin : wpAny M A (call (.builtin "object.__ne__") ([.ref x] ++ args) >>= fun v => pure (some v)) Q E s := wpAny_bind (wpAny_mono h (fun v s' h' => wpAny_pure h') fun _ _ h' => h')
  split
  · exact wpAny_bind (wpAny_of_eq (F.cmp_object.ne.bind _) (wpAny_pure (by exact fin)))
  · exact wpAny_tryCatch (wpAny_bind (wpAny_of_eq (F.cmp_object.ne.bind _) (wpAny_pure (by exact fin))))
theorem fm_rc_ne {Q : Value → Shared → Prop} (hu : A.units + 1 < cLine) (X : K.In s.heap) (I : W.InstAt s.heap x ox C od) (hm : W.mroIn K C (.type "object") = some true) (hy : W.Looks (model prog w) s.heap (typeOf y) (.ref C)) (hne : W.findIn K (.ref C) "__ne__" = some (some (.builtin "object.__ne__")))
    (hs : W.findIn K (.ref C) "__eq__" = some (some (.ref f))) (hf : W.isFn K (.ref f) = true)
    (h : wpAny (model prog w) A.in1 (call (.ref f) [.ref x, y]) (fun v s' => ∃ b, v = .bool b ∧ Q (.bool (!b)) s') E s) : wpAny (model prog w) A (richCompare .NotEq (.ref x) y) Q E s := by
  have one : wpAny (model prog w) A (tryCompare (.ref x) "__ne__" y) (fun r s' => ∃ v, r = some v ∧ Q v s') E s := by
    unfold tryCompare
    refine wpAny_bind (fm_ifBound_ne X I hne (wpAny_call (codeAny_call_builtin F.cmp_object.ne.plain F.cmpEntry_ne (W.check_slot F.cmpKind_ne F.cmpSplit_ne (I.type.andThen (W.looks_mroIn X hm)) (F.cmpArgs_ne _ _) ?_))))
    refine fm_ne_entry (A := A.in1) X I hs hf hu (wpAny_mono h (fun v s' hv => ?_) fun _ _ e => e)
    obtain ⟨b, rfl, hq⟩ := hv
    first | exact ⟨b, rfl, wpAny_pure ⟨_, rfl, hq⟩⟩ | exact ⟨b, rfl, _, rfl, hq⟩
  unfold richCompare
  simp only [oneThing_ref]
  refine wpAny_holding (wpAny_bind (wpAny_cRoomFor (Nat.lt_of_succ_lt hu) ?_))
  refine wpAny_bind (I.type.here (wpAny_bind (hy.here ?_)))
  rw [show (Value.ref C != Value.ref C) = false from by simp]
  simp only [Bool.false_eq_true, if_false]
  refine wpAny_bind (wpAny_pure ?_)
  simp only [Bool.false_eq_true, if_false]
  refine wpAny_bind (wpAny_mono one (fun r s' z => ?_) fun _ _ e => e)
  obtain ⟨v, rfl, hq⟩ := z
  exact wpAny_pure hq
end
end PySem
namespace FM
open PySem PySem.Spec PyProof.Rows L2 LamX
/-- what the written part says for != by an own == -/
structure NeIn (K : PySem.W.Frag) (C f : Addr) : Prop where
  hm : PySem.W.mroIn K C (.type "object") = some true
  hne : PySem.W.findIn K (.ref C) "__ne__" = some (some (.builtin "object.__ne__"))
  hs : PySem.W.findIn K (.ref C) "__eq__" = some (some (.ref f))
  hf : PySem.W.isFn K (.ref f) = true
theorem room_in1 {k : Nat} {A : Around} (r : Room (k + 1) A) : Room k A.in1 := r.in1
section
variable {X : Cx} {k : Nat} {f C : Addr} {fd : FuncData} {ps : List Str} {sp : Sp}
theorem op_ownNe (O : NeIn X.K C f) (F : FnOk X.prog X.w X.K X.mg X.base CX0 k f fd ps sp) (hr : Room (k + 1) X.A) (hb : L2.Binds X.K fd ps []) :
    OpR X (compareOp .NotEq) (fun x y H Q => ∃ a b dx dy fs gs, x = .ref a ∧ y = .ref b ∧ H a = some (.ins C dx fs) ∧ H b = some (.ins C dy gs) ∧ sp [x, y] H (fun v H' => ∃ t, v = .bl t ∧ Q (.bl (!t)) H') E0) := by
  intro pins s σ H x y v u Q I rx ry h
  obtain ⟨a, b, dx, dy, fs, gs, rfl, rfl, ha, hb', q⟩ := h
  cases rx
  cases ry
  obtain ⟨mA, J, _⟩ := ins_get I.hok ha
  obtain ⟨mB, J', _⟩ := ins_get I.hok hb'
  obtain ⟨od, J, _⟩ := J.look
  obtain ⟨od', J', _⟩ := J'.look
  refine PySem.W.cmp_ofNotEq (PySem.fm_rc_ne (by have := hr.un; omega) I.kIn J O.hm J'.type O.hne O.hs O.hf (thn (run_in (vs := [V.ref a, V.ref b]) F (room_in1 hr) rfl hb I (.cons rfl (.cons rfl .nil)) q) fun u' s' ⟨z, H', I', rz, t, ez, q'⟩ => ?_))
  subst ez
  cases rz
  exact ⟨t, rfl, .bl (!t), H', I', rfl, q'⟩
end
/-! ### the layer's rules -/
section
variable {L : Lc} {X : Cx} {S : SlS} {a b : Expr} {pos : Pos} {d1 d2 r : D}
/-- an instance's data -/
inductive InsD (L : Lc) : Addr → D → Prop
  | fld (F : FldD) : InsD L L.CF (.fld F)
  | pol (F : FldD) (row : List (List Int)) : InsD L L.CP (.pol F row)
theorem ins_of {L : Lc} {C : Addr} {d : D} {G : Hp} {v : V} (i : InsD L C d) (h : Is L G d v) : ∃ a dx fs, v = .ref a ∧ G a = some (.ins C dx fs) := by
  cases i with
  | fld F => cases h with | fld e em => exact ⟨_, _, _, rfl, e⟩
  | pol F row => cases h with | pol e _ _ => exact ⟨_, _, _, rfl, e⟩
/-- a op b by the class's own def -/
theorem ev_ownop {op : Operator} {C f : Addr} {fd : FuncData} {k : Nat} {ps : List Str} {R : List D → D → Prop} (O : OpIn X.K C (PySem.dunder op.info.2) f) (F : FnOk X.prog X.w X.K X.mg X.base CX0 k f fd ps (spD L R)) (hr : Room k X.A) (hb : L2.Binds X.K fd ps []) (ha : EvE L X a S d1) (hbb : EvE L X b S d2)
    (i1 : InsD L C d1) (i2 : InsD L C d2) (hR : R [d1, d2] r) : EvE L X (.BinOp a op b pos) S r :=
  PE.imp (pe_op (op_ownB O F hr hb) ha hbb) fun σ H Q ⟨G, Rr, q⟩ => ⟨G, Rr, fun G1 H1 v1 g1 j1 => ⟨G1, Rr.grow g1, fun G2 H2 v2 g2 j2 => by
    have j1' := j1.mono g2.gg
    obtain ⟨x, dx, fs, rfl, hx⟩ := ins_of i1 j1'
    obtain ⟨y, dy, gs, rfl, hy⟩ := ins_of i2 j2
    exact ⟨x, y, dx, dy, fs, gs, rfl, rfl, g2.gh _ _ hx, g2.gh _ _ hy, G2, _, r, g2.gh, g2.tg (g1.tg Rr.tabs), .cons j1' (.cons j2 .nil), hR, fun G3 H3 v g3 i3 => q G3 H3 v ((g1.trans g2).trans g3) i3⟩⟩⟩
/-- a != b by the class's own == -/
theorem evt_ownne {C f : Addr} {fd : FuncData} {k : Nat} {ps : List Str} {R : List D → D → Prop} {t : Bool} (O : NeIn X.K C f) (F : FnOk X.prog X.w X.K X.mg X.base CX0 k f fd ps (spD L R)) (hr : Room (k + 1) X.A) (hb : L2.Binds X.K fd ps []) (ha : EvE L X a S d1) (hbb : EvE L X b S d2)
    (i1 : InsD L C d1) (i2 : InsD L C d2) (hR : R [d1, d2] (.bl t)) : EvT L X (.Compare a [.NotEq] [b] pos) S (!t) :=
  PT.imp (pt_cmpR (op_ownNe O F hr hb) ha hbb (nomark _)) fun σ H Q ⟨G, Rr, q⟩ => ⟨G, Rr, fun G1 H1 v1 g1 j1 => ⟨G1, Rr.grow g1, fun G2 H2 v2 g2 j2 => by
    have j1' := j1.mono g2.gg
    obtain ⟨x, dx, fs, rfl, hx⟩ := ins_of i1 j1'
    obtain ⟨y, dy, gs, rfl, hy⟩ := ins_of i2 j2
    exact ⟨x, y, dx, dy, fs, gs, rfl, rfl, g2.gh _ _ hx, g2.gh _ _ hy, G2, _, .bl t, g2.gh, g2.tg (g1.tg Rr.tabs), .cons j1' (.cons j2 .nil), hR, fun G3 H3 v g3 i3 => ⟨t, is_bl i3, !t, rfl, q G3 H3 ((g1.trans g2).trans g3)⟩⟩⟩⟩
end
/-! ### instances made -/
def dropH (H : Hp) (a : Addr) : Hp := fun b => if b = a then Option.none else H b
theorem dropH_same {H : Hp} {a : Addr} : dropH H a a = Option.none := by
  unfold dropH
  rw [if_pos rfl]
theorem dropH_ne {H : Hp} {a b : Addr} (h : b ≠ a) : dropH H a b = H b := by
  unfold dropH
  rw [if_neg h]
theorem dropH_upd {H : Hp} {a : Addr} {o : HO} (h : H a = Option.none) : dropH (upd H a o) a = H := by
  funext b
  by_cases q : b = a
  · subst q
    rw [dropH_same, h]
  · rw [dropH_ne q, upd_ne q]
/-- what __init__ promises by values: the instance at x, empty at first, is r at the end -/
def spI (L : Lc) (C : Addr) (R : List D → D → Prop) : Sp := fun vs H Q _ => ∃ G ds r x dx vs', vs = .ref x :: vs' ∧ Sub G H ∧ TbG L H G ∧ G x = none ∧ H x = some (.ins C dx []) ∧ IsL L G ds vs' ∧ R ds r ∧
  ∀ G' H', Grow L G (dropH H x) G' H' → Is L G' r (.ref x) → Q .non H'
structure MkC (P : Program) (w : World) (K : PySem.W.Frag) (mg : Str → Option Value) (base : Heap) (L : Lc) (x : Str) (C : Addr) (k : Nat) (ps : List Str) (R : List D → D → Prop) : Prop where
  ex : ∃ f fd, Mk K C f ∧ mg x = some (.ref C) ∧ L2.Binds K fd ps [] ∧ FnOk P w K mg base CX0 k f fd ps (spI L C R)
theorem ev_make {L : Lc} {X : Cx} {S : SlS} {e : Expr} {es : List Expr} {pos p : Pos} {ds : List D} {r : D} {x : Str} {C : Addr} {k : Nat} {ps : List Str} {R : List D → D → Prop} (M : MkC X.prog X.w X.K X.mg X.base L x C k ps R) (hr : Room (k + 1) X.A) (ha : EvA L X (e :: es) S ds) (hR : R ds r) (hg : Gl X x := by rfl)
    (hdb : (x == ("__debug__" : Str)) = false := by decide) (he : starEach (e :: es) X.env = (false, eval e X.env) :: starEach es X.env := by rfl) (hpl : (backTo pos (starEach es X.env)).any (·.1) = false := by rfl) :
    EvE L X (.Call (.Name x p) (e :: es) [] pos) S r := by
  obtain ⟨f, fd, h1, h2, h3, h4⟩ := M.ex
  refine PE.imp (pe_make h1 h4 hr hg h2 h3 .nil pass0 ha hdb he hpl) fun σ H Q ⟨G, Rr, q⟩ => ⟨G, Rr, fun G1 H1 vs g1 i1 x dx nx ndx nex => ?_⟩
  show spI L C R (_ :: (vs ++ [])) _ _ E0
  rw [List.append_nil]
  have hn2 : upd H1 dx (.own x) x = none := by rw [upd_ne (Ne.symm nex)]; exact nx
  have gx : G1 x = none := sub_none g1.gh nx
  have sub1 : Sub G1 (upd H1 dx (.own x)) := fun a u e => upd_sub ndx a u (g1.gh a u e)
  refine ⟨G1, ds, r, x, dx, vs, rfl, fun a u e => upd_sub hn2 a u (sub1 a u e), ((g1.tg Rr.tabs).ext (upd_sub ndx)).ext (upd_sub hn2), gx, upd_same, i1, hR, fun G2 H2 g2 i2 => ⟨rfl, ?_⟩⟩
  rw [dropH_upd hn2] at g2
  exact q G2 H2 _ ((g1.trans (Grow.more g1.gh ndx)).trans g2) i2
/-- the start of __init__ -/
theorem dropH_sub {H : Hp} {x : Addr} {G : Hp} (s : Sub G H) (gx : G x = none) : Sub G (dropH H x) := fun a u e => by
  rw [dropH_ne (ne_of_none e gx)]
  exact s a u e
theorem dropH_tabs {T : List (Addr × Str)} {H : Hp} {x C dx : Addr} {fs : List (Str × V)} (hx : H x = some (.ins C dx fs)) (t : Tabs T H) : Tabs T (dropH H x) := tabs_keep t fun b o e _ n2 => by
  rw [dropH_ne]
  · exact e
  · rintro rfl
    rw [hx] at e
    cases e
    exact n2 _ _ _ rfl
theorem rep_startI {L : Lc} {N : List Str} {H G : Hp} {ds : List D} {vs : List V} {x C dx : Addr} (s : Sub G H) (t : TbG L H G) (gx : G x = none) (hx : H x = some (.ins C dx [])) (r : IsL L G ds vs) :
    Rep L ⟨dropH H x, G⟩ (.inst (x, C) [] :: stS N.tail ds) (L2.start N (.ref x :: vs)) H G := by
  have R0 := (rep_start (N := N.tail) s t r).r
  have e0 : L2.start N (.ref x :: vs) = some (.ref x) :: L2.start N.tail vs := by
    unfold L2.start
    rw [List.map_cons, List.length_cons, List.cons_append, List.length_tail]
    congr 3
    omega
  rw [e0]
  have own0 : ∀ i, Owns (.inst (x, C) [] :: stS N.tail ds) i → i = 0 := fun i ho => by
    cases i with
    | zero => rfl
    | succ i =>
      obtain ⟨s1, e, hs⟩ := ho
      have e' : (stS N.tail ds)[i]? = some s1 := by simpa using e
      unfold stS at e'
      rcases List.mem_append.mp (List.mem_of_getElem? e') with q | q
      · obtain ⟨d, _, rfl⟩ := List.mem_map.mp q
        rcases hs with ⟨_, z⟩ | ⟨_, _, z⟩ <;> cases z
      · rw [(List.mem_replicate.mp q).2] at hs
        rcases hs with ⟨_, z⟩ | ⟨_, _, z⟩ <;> cases z
  refine ⟨⟨by rw [List.length_cons, List.length_cons, R0.len], s, t, fun i d e => ?_, fun i xs e => ?_, fun i C' fs e => ?_, fun i j l h1 h2 _ _ => (own0 i h1).trans (own0 j h2).symm⟩, ⟨fun _ _ e => e, fun a u e _ => ?_, s, fun a h _ => h, fun _ => t.t, fun n => n, fun a ps e => ⟨ps, ?_⟩⟩, fun i l ho e => ?_⟩
  · cases i with
    | zero => cases e
    | succ i => exact R0.val i d e
  · cases own0 i ⟨_, e, .inl ⟨_, rfl⟩⟩
    cases e
  · cases own0 i ⟨_, e, .inr ⟨_, _, rfl⟩⟩
    cases e
    exact ⟨x, dx, [], rfl, hx, gx, .nil, rfl, rfl⟩
  · have n : a ≠ x := fun z => by
      subst z
      have e2 : dropH H a a = some _ := e
      rw [dropH_same] at e2
      cases e2
    have e2 : dropH H x a = some _ := e
    rw [dropH_ne n] at e2
    exact e2
  · have n : a ≠ x := fun z => by
      subst z
      have e2 : dropH H a a = some _ := e
      rw [dropH_same] at e2
      cases e2
    have e2 : dropH H x a = some _ := e
    rw [dropH_ne n] at e2
    exact e2
  · cases own0 i ho
    cases e
    exact dropH_same
/-- the end of __init__: what the fields tell -/
def instD (L : Lc) (C : Addr) : List (Str × D) → D → Prop
  | [(f1, d1), (f2, .int p), (f3, .int n), (f4, .int q)], r => C = L.CF ∧ f1 = "modulus" ∧ f2 = "p" ∧ f3 = "n" ∧ f4 = "q" ∧ ∃ m, d1 = tI m ∧ r = .fld ⟨p, n, q, m⟩
  | [(f1, .fld F), (f2, d2)], r => C = L.CP ∧ f1 = "field" ∧ f2 = "row" ∧ ∃ row, d2 = tII row ∧ r = .pol F row
  | _, _ => False
section
variable {P : Program} {w : World} {K : PySem.W.Frag} {mg : Str → Option Value} {base : Heap} {L : Lc}
theorem inst_is {G : Hp} {C x dx : Addr} {fs : List (Str × D)} {vs : List (Str × V)} {r : D} (h : instD L C fs r) (e : G x = some (.ins C dx vs)) (i : IsL L G (fs.map (·.2)) (vs.map (·.2))) (n : vs.map (·.1) = fs.map (·.1)) : Is L G r (.ref x) := by
  unfold instD at h
  split at h
  · obtain ⟨rfl, rfl, rfl, rfl, rfl, m, rfl, rfl⟩ := h
    match vs, n, i with
    | [(a1, v1), (a2, v2), (a3, v3), (a4, v4)], n, .cons i1 (.cons i2 (.cons i3 (.cons i4 .nil))) =>
      simp at n
      obtain ⟨rfl, rfl, rfl, rfl⟩ := n
      cases i2
      cases i3
      cases i4
      cases i1 with
      | tup e1 r1 =>
        rw [r1.ints] at e1
        exact .fld e e1
  · obtain ⟨rfl, rfl, rfl, row, rfl, rfl⟩ := h
    match vs, n, i with
    | [(a1, v1), (a2, v2)], n, .cons i1 (.cons i2 .nil) =>
      simp at n
      obtain ⟨rfl, rfl⟩ := n
      exact .pol e i1 i2
  · exact h.elim
theorem init_ev {x qual : Str} {st : Stmt} {dvs : List V} {kws : List (Str × V)} {f C : Addr} {fd : FuncData} {N ps : List Str} {k : Nat} {R : List D → D → Prop} (F : FunD K x qual (defArgs st) (defBody st) (defScope st) dvs kws f fd) (Sc : FnScope N ps (defScope st))
    (hl : ∀ ds r, R ds r → ds.length + 1 = ps.length)
    (body : ∀ (cdv : Value) (A : Around) (outer : List Env) (s : Shared) (H : Hp) (E : XK), Room k (A.deeper (envOfC qual (defScope st) s.heap.objs.size f cdv)) → ∀ ds r, R ds r → ∀ z : Addr,
      ∃ fs S', instD L C fs r ∧ S'[0]? = some (.inst (z, C) fs) ∧ EvB L (BodyX P w K mg base N qual (defScope st) f cdv A outer s H E) (defBody st) (.inst (z, C) [] :: stS N.tail ds) (.nx S')) :
    FnOk P w K mg base CX0 (k + 1) f fd ps (spI L C R) := by
  refine F.ok Sc (fun vs H Q E ⟨G, ds, r, x, dx, vs', hv, s, t, gx, hx, i, hR, q⟩ => by rw [hv, List.length_cons, ← i.length]; exact hl ds r hR) fun cdv A outer s H vs Q E hr ⟨G, ds, r, x, dx, vs', hv, sb, t, gx, hx, i, hR, q⟩ => ?_
  subst hv
  obtain ⟨fs, S', hi, hs, h⟩ := body cdv A outer s H E hr ds r hR x
  refine ⟨_, h.nox, ⟨dropH H x, G⟩, G, rep_startI sb t gx hx i, fun σ' H' G' sg R' => ?_⟩
  obtain ⟨l, dx', vs2, h1, h2, h3, h4, h5, h6⟩ := R'.r.inst 0 (x, C) fs hs
  have h6' : l = x := h6
  subst h6'
  have g2 : Grow L G (dropH H l) (upd G' l (.ins C dx' vs2)) H' := R'.g.tell dropH_same h2 h3
  exact q _ H' g2 (inst_is hi upd_same (h4.mono (upd_sub h3)) h5)
end
end FM
set_option autoImplicit false
namespace FM
open PySem
open Sem (wp)
/-! ## a run leaves the sleeping generators that it does not wake -/
/-- the same to look at; it cannot be woken -/
def stuckOf : GenState → GenState
  | .suspended _ l c p fs cl => .suspended (fun _ => .unsupported "") l c p fs cl
  | x => x
def isSusp : GenState → Bool
  | .suspended .. => true
  | _ => false
theorem stuck_seen (x : GenState) : (stuckOf x).seen = x.seen := by cases x <;> rfl
def cleanF (fs : List Frame) : Prop := splitAtGen fs = none
def cleanG : GenState → Prop
  | .suspended _ _ _ _ fs _ => cleanF fs
  | _ => True
/-- O: the generators that slept -/
def ov (O : Nat → Option GenState) (s : Shared) : Shared := { s with gens := s.gens.mapIdx fun i x => (O i).getD x }
structure ClO (O : Nat → Option GenState) (s : Shared) : Prop where
  st : ∀ i x y, s.gens[i]? = some x → O i = some y → x = stuckOf y ∧ isSusp y = true
  cl : ∀ i x, s.gens[i]? = some x → O i = none → cleanG x
  sz : ∀ i y, O i = some y → i < s.gens.size
theorem cleanF_ret {k h g l c p kp} {fs : List Frame} : cleanF (.ret k h g l c p kp :: fs) ↔ cleanF fs := by
  unfold cleanF
  rw [splitAtGen_ret, Option.map_eq_none_iff]
theorem not_clean_gen {g k l c p} {fs : List Frame} (h : cleanF (.gen g k l c p :: fs)) : False := by
  unfold cleanF at h
  rw [splitAtGen_gen] at h
  cases h
theorem cleanF_app {a b : List Frame} (ha : cleanF a) (hb : cleanF b) : cleanF (a ++ b) := by
  induction a with
  | nil => exact hb
  | cons f a ih =>
    cases f with
    | ret k h g l c p kp => exact cleanF_ret.mpr (ih (cleanF_ret.mp ha))
    | gen g k l c p => exact (not_clean_gen ha).elim
theorem no_run0 {M : Model} {Γ : Ctx} {p : Pos} {x : String} {s s' : Shared} {e : End} (h : Runs M Γ p (.unsupported x) [] s e s') : False := by cases h
theorem no_run {M : Model} {Γ : Ctx} {p : Pos} {x : String} {fs : List Frame} {s s' : Shared} {e : End} (h : Runs M Γ p (.unsupported x) fs s e s') : False := by
  cases h with
  | segRet h _ => exact no_run0 h
  | segGen h _ => exact no_run0 h
  | segSuspOut _ h => exact no_run0 h
  | segSuspGen _ h _ _ => exact no_run0 h
section
variable {O : Nat → Option GenState} {s : Shared}
theorem ov_get (i : Nat) : (ov O s).gens[i]? = (s.gens[i]?).map fun x => (O i).getD x := by
  show (s.gens.mapIdx _)[i]? = _
  rw [Array.getElem?_mapIdx]
theorem ov_size : (ov O s).gens.size = s.gens.size := by
  show (s.gens.mapIdx _).size = _
  rw [Array.size_mapIdx]
theorem set_get (s : Shared) (g : Nat) (x : GenState) (i : Nat) : (s.setGen g x).gens[i]? = if g = i then (if i < s.gens.size then some x else none) else s.gens[i]? := by
  show (s.gens.setIfInBounds g x)[i]? = _
  rw [Array.getElem?_setIfInBounds]
  by_cases h : g = i
  · subst h
    simp
  · simp [h]
theorem ov_set {g : Nat} {x : GenState} (h : O g = none) : ov O (s.setGen g x) = (ov O s).setGen g x := by
  have e : (ov O (s.setGen g x)).gens = ((ov O s).setGen g x).gens := by
    refine Array.ext_getElem? fun i => ?_
    rw [ov_get, set_get, set_get, ov_get, ov_size]
    by_cases q : g = i
    · subst q
      rw [if_pos rfl, if_pos rfl, h]
      split <;> rfl
    · rw [if_neg q, if_neg q]
  show { s with gens := (ov O (s.setGen g x)).gens } = { s with gens := ((ov O s).setGen g x).gens }
  rw [e]
theorem ov_push {c : GenState} (h : O s.gens.size = none) : ov O { s with gens := s.gens.push c } = { ov O s with gens := (ov O s).gens.push c } := by
  have e : (ov O { s with gens := s.gens.push c }).gens = (ov O s).gens.push c := by
    refine Array.ext_getElem? fun i => ?_
    rw [ov_get]
    show ((s.gens.push c)[i]?).map _ = _
    rw [Array.getElem?_push, Array.getElem?_push, ov_size, ov_get]
    by_cases q : i = s.gens.size
    · rw [if_pos q, if_pos q, q, h]
      rfl
    · rw [if_neg q, if_neg q]
  show { s with gens := (ov O { s with gens := s.gens.push c }).gens } = _
  rw [e]
  rfl
theorem ClO.set {g : Nat} {x : GenState} (C : ClO O s) (h : O g = none) (hx : cleanG x) : ClO O (s.setGen g x) where
  st := fun i y z e1 e2 => by
    rw [set_get] at e1
    by_cases q : g = i
    · subst q
      rw [h] at e2
      cases e2
    · rw [if_neg q] at e1
      exact C.st i y z e1 e2
  cl := fun i y e1 e2 => by
    rw [set_get] at e1
    by_cases q : g = i
    · subst q
      rw [if_pos rfl] at e1
      split at e1
      · cases e1; exact hx
      · cases e1
    · rw [if_neg q] at e1
      exact C.cl i y e1 e2
  sz := fun i y e => by
    show i < (s.gens.setIfInBounds g x).size
    rw [Array.size_setIfInBounds]
    exact C.sz i y e
theorem ClO.push {c : GenState} (C : ClO O s) (hc : cleanG c) : ClO O { s with gens := s.gens.push c } where
  st := fun i y z e1 e2 => by
    have hi := C.sz i z e2
    rw [show ({ s with gens := s.gens.push c } : Shared).gens[i]? = s.gens[i]? from by show (s.gens.push c)[i]? = _; rw [Array.getElem?_push, if_neg (by omega)]] at e1
    exact C.st i y z e1 e2
  cl := fun i y e1 e2 => by
    have e1 : (s.gens.push c)[i]? = some y := e1
    rw [Array.getElem?_push] at e1
    split at e1
    · cases e1; exact hc
    · exact C.cl i y e1 e2
  sz := fun i y e => by
    show i < (s.gens.push c).size
    rw [Array.size_push]
    have := C.sz i y e
    omega
theorem ClO.out (C : ClO O s) : O s.gens.size = none := by
  cases e : O s.gens.size with
  | none => rfl
  | some y => exact absurd (C.sz _ y e) (Nat.lt_irrefl _)
theorem ClO.not_susp {g : Nat} {y : GenState} (C : ClO O s) (e : s.gens[g]? = some y) (h : isSusp y = false) : O g = none := by
  cases q : O g with
  | none => rfl
  | some z =>
    obtain ⟨h1, h2⟩ := C.st g y z e q
    subst h1
    cases z <;> simp_all [stuckOf, isSusp]
theorem ov_at {g : Nat} {y : GenState} (e : s.gens[g]? = some y) (h : O g = none) : (ov O s).gens[g]? = some y := by
  rw [ov_get, e, h]
  rfl
theorem ov_seen {g : Nat} {st : GenState} (C : ClO O s) (hs : s.gens[g]? = some st) : ∃ y, (ov O s).gens[g]? = some y ∧ y.seen = st.seen := by
  cases q : O g with
  | none => exact ⟨st, ov_at hs q, rfl⟩
  | some y =>
    obtain ⟨h1, h2⟩ := C.st g st y hs q
    exact ⟨y, by rw [ov_get, hs, q]; rfl, by rw [h1, stuck_seen]⟩
def cleanE : End → Prop
  | .susp _ _ _ _ _ _ fs => cleanF fs
  | _ => True
theorem cleanE_gen {e : End} (h : cleanE e) : cleanG e.genState := by
  cases e with
  | ret r => trivial
  | susp v g l k c p fs => exact h
end
theorem sw_runs {O : Nat → Option GenState} {M : Model} {Γ : Ctx} {p : Pos} {t : Sem PySem.Fin} {fs : List Frame} {s s' : Shared} {e : End} (h : Runs M Γ p t fs s e s') : cleanF fs → ClO O s → ClO O s' ∧ cleanE e ∧ Runs M Γ p t fs (ov O s) e (ov O s') := by
  induction h with
  | done => exact fun _ C => ⟨C, trivial, .done⟩
  | raise => exact fun _ C => ⟨C, trivial, .raise⟩
  | again hq _ ih => exact fun f C => by obtain ⟨a, b, c⟩ := ih f C; exact ⟨a, b, .again hq c⟩
  | rule _ ih => exact fun f C => by obtain ⟨a, b, c⟩ := ih f C; exact ⟨a, b, .rule c⟩
  | «at» _ ih => exact fun f C => by obtain ⟨a, b, c⟩ := ih f C; exact ⟨a, b, .at c⟩
  | load hl _ ih => exact fun f C => by obtain ⟨a, b, c⟩ := ih f C; exact ⟨a, b, .load hl c⟩
  | update hl _ ih => exact fun f C => by obtain ⟨a, b, c⟩ := ih f ⟨C.st, C.cl, C.sz⟩; exact ⟨a, b, .update hl c⟩
  | loadIfAlive _ ih => exact fun f C => by obtain ⟨a, b, c⟩ := ih f C; exact ⟨a, b, .loadIfAlive c⟩
  | point _ ih => exact fun f C => by obtain ⟨a, b, c⟩ := ih f C; exact ⟨a, b, .point c⟩
  | alloc _ ih => exact fun f C => by obtain ⟨a, b, c⟩ := ih f ⟨C.st, C.cl, C.sz⟩; exact ⟨a, b, .alloc c⟩
  | fresh _ ih => exact fun f C => by obtain ⟨a, b, c⟩ := ih f ⟨C.st, C.cl, C.sz⟩; exact ⟨a, b, .fresh c⟩
  | ask _ ih => exact fun f C => by obtain ⟨a, b, c⟩ := ih f C; exact ⟨a, b, .ask c⟩
  | choose hn _ ih => exact fun f C => by obtain ⟨a, b, c⟩ := ih f ⟨C.st, C.cl, C.sz⟩; exact ⟨a, b, .choose hn c⟩
  | os _ ih => exact fun f C => by obtain ⟨a, b, c⟩ := ih f ⟨C.st, C.cl, C.sz⟩; exact ⟨a, b, .os c⟩
  | handled _ ih => exact fun f C => by obtain ⟨a, b, c⟩ := ih f C; exact ⟨a, b, .handled c⟩
  | genState hs _ ih =>
    intro f C
    obtain ⟨a, b, c⟩ := ih f C
    obtain ⟨y, hy, he⟩ := ov_seen C hs
    refine ⟨a, b, .genState hy ?_⟩
    rw [he]
    exact c
  | stack _ ih => exact fun f C => by obtain ⟨a, b, c⟩ := ih f C; exact ⟨a, b, .stack c⟩
  | thread _ ih => exact fun f C => by obtain ⟨a, b, c⟩ := ih f C; exact ⟨a, b, .thread c⟩
  | newGen _ ih =>
    intro f C
    obtain ⟨a, b, c⟩ := ih f (C.push trivial)
    refine ⟨a, b, .newGen ?_⟩
    rw [ov_push C.out] at c
    rw [ov_size]
    exact c
  | call _ _ ih1 ih2 =>
    intro f C
    obtain ⟨a, b, c⟩ := ih1 rfl C
    obtain ⟨a2, b2, c2⟩ := ih2 rfl a
    exact ⟨a2, b2, .call c c2⟩
  | callSusp _ ih =>
    intro f C
    obtain ⟨a, b, c⟩ := ih rfl C
    exact ⟨a, cleanF_app b (cleanF_ret.mpr rfl), .callSusp c⟩
  | «yield» => exact fun f C => ⟨C, rfl, .yield⟩
  | resumeFresh hg _ hq _ ih1 ih2 =>
    intro f C
    have o := C.not_susp hg rfl
    obtain ⟨a, b, c⟩ := ih1 rfl (C.set o trivial)
    obtain ⟨a2, b2, c2⟩ := ih2 rfl (a.set o (cleanE_gen b))
    rw [ov_set o] at c c2
    exact ⟨a2, b2, .resumeFresh (ov_at hg o) c hq c2⟩
  | @resumeSuspended Γ p g r l k s0 k₀ l₀ c₀ p₀ fs cl e₁ s₁ e s' hg hr hq _ ih1 ih2 =>
    intro f C
    cases q : O g with
    | some y =>
      obtain ⟨h1, h2⟩ := C.st g _ y hg q
      cases y with
      | suspended k2 l2 c2 p2 fs2 cl2 =>
        simp only [stuckOf] at h1
        injection h1 with z1 z2 z3 z4 z5 z6
        subst z1
        exact (no_run hr).elim
      | _ => cases h2
    | none =>
      have cf : cleanF fs := C.cl g _ hg q
      obtain ⟨a, b, c⟩ := ih1 cf (C.set q trivial)
      obtain ⟨a2, b2, c2⟩ := ih2 rfl (a.set q (cleanE_gen b))
      rw [ov_set q] at c c2
      exact ⟨a2, b2, .resumeSuspended (ov_at hg q) c hq c2⟩
  | resumeJustStarted hg hv _ ih => exact fun f C => by obtain ⟨a, b, c⟩ := ih f C; exact ⟨a, b, .resumeJustStarted (ov_at hg (C.not_susp hg rfl)) hv c⟩
  | resumeThrowFresh hg _ ih =>
    intro f C
    have o := C.not_susp hg rfl
    obtain ⟨a, b, c⟩ := ih rfl (C.set o trivial)
    rw [ov_set o] at c
    exact ⟨a, b, .resumeThrowFresh (ov_at hg o) c⟩
  | resumeRunning hg _ ih => exact fun f C => by obtain ⟨a, b, c⟩ := ih f C; exact ⟨a, b, .resumeRunning (ov_at hg (C.not_susp hg rfl)) c⟩
  | resumeFinished hg _ ih => exact fun f C => by obtain ⟨a, b, c⟩ := ih f C; exact ⟨a, b, .resumeFinished (ov_at hg (C.not_susp hg rfl)) c⟩
  | segRet _ _ ih1 ih2 =>
    intro f C
    obtain ⟨a, b, c⟩ := ih1 rfl C
    obtain ⟨a2, b2, c2⟩ := ih2 (cleanF_ret.mp f) a
    exact ⟨a2, b2, .segRet c c2⟩
  | segGen _ _ _ _ => exact fun f C => (not_clean_gen f).elim
  | segSuspOut hs _ ih =>
    intro f C
    obtain ⟨a, b, c⟩ := ih rfl C
    exact ⟨a, cleanF_app b f, .segSuspOut hs c⟩
  | segSuspGen hs _ _ _ _ _ =>
    intro f C
    unfold cleanF at f
    rw [f] at hs
    cases hs
theorem sw_wakes {O : Nat → Option GenState} {M : Model} {Γ : Ctx} {p : Pos} {g : Nat} {r : Resume} {s s' : Shared} {res : GenResult} (C : ClO O s) (h : Wakes M Γ p g r s res s') : ClO O s' ∧ Wakes M Γ p g r (ov O s) res (ov O s') := by
  unfold Wakes at h
  cases hg : s.gens[g]? with
  | none => rw [hg] at h; exact h.elim
  | some y =>
    rw [hg] at h
    cases q : O g with
    | some z =>
      obtain ⟨h1, h2⟩ := C.st g y z hg q
      cases z with
      | suspended k2 l2 c2 p2 fs2 cl2 =>
        subst h1
        obtain ⟨e₁, s₁, hr, _⟩ := h
        exact (no_run hr).elim
      | _ => cases h2
    | none =>
      have hg2 := ov_at hg q
      unfold Wakes
      rw [hg2]
      cases y with
      | fresh c =>
        cases r with
        | send v =>
          cases v with
          | none =>
            obtain ⟨e₁, s₁, hr, hq, h1, h2⟩ := h
            obtain ⟨a, b, c⟩ := sw_runs hr rfl (C.set q trivial)
            rw [ov_set q] at c
            subst h2
            exact ⟨a.set q (cleanE_gen b), e₁, ov O s₁, c, hq, h1, ov_set q⟩
          | _ => obtain ⟨h1, h2⟩ := h; subst h2; exact ⟨C, h1, rfl⟩
        | throw x =>
          obtain ⟨h1, h2⟩ := h
          subst h2
          exact ⟨C.set q trivial, h1, ov_set q⟩
      | suspended k l c0 p0 fs cl =>
        obtain ⟨e₁, s₁, hr, hq, h1, h2⟩ := h
        obtain ⟨a, b, c⟩ := sw_runs hr (C.cl g _ hg q) (C.set q trivial)
        rw [ov_set q] at c
        subst h2
        exact ⟨a.set q (cleanE_gen b), e₁, ov O s₁, c, hq, h1, ov_set q⟩
      | running => obtain ⟨h1, h2⟩ := h; subst h2; exact ⟨C, h1, rfl⟩
      | finished => obtain ⟨h1, h2⟩ := h; subst h2; exact ⟨C, h1, rfl⟩
def SwQ {α : Type} (O : Nat → Option GenState) (Q : α → Pos → Shared → Prop) : α → Pos → Shared → Prop := fun a p s' => ∃ s1, s' = ov O s1 ∧ ClO O s1 ∧ Q a p s1
theorem sw_wp {α : Type} (O : Nat → Option GenState) (M : Model) (Γ : Ctx) (t : Sem α) : ∀ (Q : α → Pos → Shared → Prop) (E : Value → Pos → Shared → Prop) (p : Pos) (s : Shared), ClO O s → wp M Γ t Q E p s →
    wp M Γ t (SwQ O Q) (SwQ O E) p (ov O s) := by
  induction t with
  | pure a => intro Q E p s C h; exact ⟨s, rfl, C, h⟩
  | raise e => intro Q E p s C h; exact ⟨s, rfl, C, h⟩
  | unsupported _ => intro Q E p s _ h; exact h
  | finish _ => intro Q E p s _ h; exact h
  | rule _ k ih => intro Q E p s C h; exact ih () Q E p s C h
  | «at» p' k ih => intro Q E p s C h; exact ih () Q E p' s C h
  | load a _ k ih => intro Q E p s C h; obtain ⟨o, ho, h⟩ := h; exact ⟨o, ho, ih o Q E p s C h⟩
  | update a _ f k ih => intro Q E p s C h; exact ⟨h.1, ih () Q E p { s with heap := s.heap.update a f } ⟨C.st, C.cl, C.sz⟩ h.2⟩
  | loadIfAlive a k ih => intro Q E p s C h; exact ih _ Q E p s C h
  | point _ k ih => intro Q E p s C h; exact ih () Q E p s C h
  | register _ _ => intro Q E p s _ h; exact h
  | alloc o k ih => intro Q E p s C h; exact ih _ Q E p { s with heap := s.heap.push o } ⟨C.st, C.cl, C.sz⟩ h
  | fresh k ih => intro Q E p s C h; exact ih _ Q E p { s with toks := s.toks + 1 } ⟨C.st, C.cl, C.sz⟩ h
  | ask k ih => intro Q E p s C h; exact ih _ Q E p s C h
  | choose src m k ih => intro Q E p s C h; exact ⟨h.1, ih _ Q E p { s with drawn := s.drawn.bump src } ⟨C.st, C.cl, C.sz⟩ h.2⟩
  | os q _ k ih => intro Q E p s C h; exact ih _ Q E p { s with os := (Os.step s.os q).1 } ⟨C.st, C.cl, C.sz⟩ h
  | call c hd _ _ k ih =>
    intro Q E p s C h
    obtain ⟨r, s', hr, h⟩ := h
    obtain ⟨a, _, c⟩ := sw_runs hr rfl C
    exact ⟨r, ov O s', c, ih r Q E p s' a h⟩
  | handled own k ih => intro Q E p s C h; exact ih _ Q E p s C h
  | genState g k ih =>
    intro Q E p s C h
    obtain ⟨st, hs, h⟩ := h
    obtain ⟨y, hy, he⟩ := ov_seen C hs
    exact ⟨y, hy, by rw [he]; exact ih _ Q E p s C h⟩
  | newGen c k ih =>
    intro Q E p s C h
    have := ih _ Q E p { s with gens := s.gens.push (.fresh c) } (C.push trivial) h
    rw [ov_push C.out] at this
    show wp M Γ (k (ov O s).gens.size) _ _ p _
    rw [ov_size]
    exact this
  | resume g r _ k ih =>
    intro Q E p s C h
    obtain ⟨res, s', hw, h⟩ := h
    obtain ⟨a, b⟩ := sw_wakes C hw
    exact ⟨res, ov O s', b, ih res Q E p s' a h⟩
  | yield _ _ _ _ => intro Q E p s _ h; exact h
  | stack k ih => intro Q E p s C h; exact ih _ Q E p s C h
  | fork _ _ => intro Q E p s _ h; exact h
  | thread k ih => intro Q E p s C h; exact ih _ Q E p s C h
  | await _ _ _ _ _ => intro Q E p s _ h; exact h
/-! ### at a state -/
def slept (s : Shared) : Nat → Option GenState := fun i => match s.gens[i]? with
  | some x => if isSusp x then some x else none
  | none => none
def stuckS (s : Shared) : Shared := { s with gens := s.gens.map stuckOf }
theorem ov_stuck (s : Shared) : ov (slept s) (stuckS s) = s := by
  have e : (ov (slept s) (stuckS s)).gens = s.gens := by
    refine Array.ext_getElem? fun i => ?_
    rw [ov_get]
    show ((s.gens.map stuckOf)[i]?).map _ = _
    rw [Array.getElem?_map]
    cases q : s.gens[i]? with
    | none => rfl
    | some x =>
      show some ((slept s i).getD (stuckOf x)) = some x
      unfold slept
      rw [q]
      cases x <;> rfl
  show { s with gens := (ov (slept s) (stuckS s)).gens } = s
  rw [e]
theorem clO_stuck (s : Shared) : ClO (slept s) (stuckS s) where
  st := fun i x y e1 e2 => by
    have e1 : (s.gens.map stuckOf)[i]? = some x := e1
    rw [Array.getElem?_map] at e1
    unfold slept at e2
    cases q : s.gens[i]? with
    | none => rw [q] at e2; cases e2
    | some z =>
      rw [q] at e1 e2
      cases e1
      dsimp only at e2
      split at e2
      · rename_i hz
        cases e2
        exact ⟨rfl, hz⟩
      · cases e2
  cl := fun i x e1 e2 => by
    have e1 : (s.gens.map stuckOf)[i]? = some x := e1
    rw [Array.getElem?_map] at e1
    unfold slept at e2
    cases q : s.gens[i]? with
    | none => rw [q] at e1; cases e1
    | some z =>
      rw [q] at e1 e2
      cases e1
      cases z with
      | suspended k l c p fs cl => cases e2
      | _ => trivial
  sz := fun i y e => by
    show i < (s.gens.map stuckOf).size
    rw [Array.size_map]
    unfold slept at e
    cases q : s.gens[i]? with
    | none => rw [q] at e; cases e
    | some z => exact (Array.getElem?_eq_some_iff.mp q).1
/-- what held of the stuck state's run holds of the true one's; the sleepers sleep on -/
theorem sw_any {α : Type} {M : Model} {A : Around} {t : Sem α} {Q : α → Shared → Prop} {E : Value → Shared → Prop} {s : Shared} (h : wpAny M A t Q E (stuckS s)) :
    wpAny M A t (fun a s' => ∃ s1, s' = ov (slept s) s1 ∧ ClO (slept s) s1 ∧ Q a s1) (fun a s' => ∃ s1, s' = ov (slept s) s1 ∧ ClO (slept s) s1 ∧ E a s1) s := fun Γ p hΓ => by
  have := sw_wp (slept s) M Γ t _ _ p (stuckS s) (clO_stuck s) (h Γ p hΓ)
  rw [ov_stuck] at this
  exact this
/-- a sleeper is where it was -/
theorem sw_at {s s1 : Shared} {g : Nat} {x : GenState} (C : ClO (slept s) s1) (h : s.gens[g]? = some x) (hx : isSusp x = true) : (ov (slept s) s1).gens[g]? = some x := by
  have e : slept s g = some x := by
    unfold slept
    rw [h]
    exact if_pos hx
  have hl := C.sz g x e
  rw [ov_get, Array.getElem?_eq_getElem hl, e]
  rfl
end FM
set_option autoImplicit false
namespace FM
open PySem PySem.Spec PyProof.Rows L2 LamX
/-! ## for over a sleeping generator -/
/-- an iterator that is a generator: g its number, tn: where it stands, told of its sleeping state -/
structure TurnG (X : Cx) (J : It) (it : Addr) (g : Nat) (fp : List Addr) (tn : Nat → GenState → Heap → Prop) : Prop where
  obj : ∀ i x h, tn i x h → ∀ b ∈ fp, ∃ o, h.get? b = some o ∧ ∀ v, o.data ≠ .cell v
  susp : ∀ i x h, tn i x h → isSusp x = true
  keep : ∀ i x h h', tn i x h → (∀ b ∈ fp, ∀ o, h.get? b = some o → h'.get? b = some o) → tn i x h'
theorem inv_stuck {X : Cx} {pins : List (Addr × Obj)} {σ : L2.St} {H : Hp} {s : Shared} (I : Inv X pins σ H s) : Inv X pins σ H (stuckS s) := by
  refine ⟨⟨I.ok.mod, I.ok.kind, I.ok.glob, I.ok.blt, I.ok.above, I.ok.inj, I.ok.has, I.ok.cab, I.ok.hd, I.ok.frames, I.ok.stk, I.ok.exf, I.ok.bs, I.ok.bsz, I.ok.noex, I.ok.exfs, I.ok.funs, I.ok.frf⟩, I.os, fun y hy => ?_, I.base, I.loc, I.cell, I.free, I.freeC, I.pin, I.hok, I.len⟩
  obtain ⟨x, hx, rfl⟩ := Array.mem_map.mp hy
  have := I.bare x hx
  cases x <;> exact this
theorem inv_ov {X : Cx} {pins : List (Addr × Obj)} {σ : L2.St} {H : Hp} {s s1 : Shared} (hb : AllBare s.gens) (I : Inv X pins σ H s1) : Inv X pins σ H (ov (slept s) s1) := by
  refine ⟨⟨I.ok.mod, I.ok.kind, I.ok.glob, I.ok.blt, I.ok.above, I.ok.inj, I.ok.has, I.ok.cab, I.ok.hd, I.ok.frames, I.ok.stk, I.ok.exf, I.ok.bs, I.ok.bsz, I.ok.noex, I.ok.exfs, I.ok.funs, I.ok.frf⟩, I.os, fun y hy => ?_, I.base, I.loc, I.cell, I.free, I.freeC, I.pin, I.hok, I.len⟩
  obtain ⟨i, hi, e⟩ := Array.mem_iff_getElem.mp hy
  have e2 : (ov (slept s) s1).gens[i]? = some y := by rw [Array.getElem?_eq_getElem hi, e]
  rw [ov_get] at e2
  cases q : s1.gens[i]? with
  | none => rw [q] at e2; cases e2
  | some x =>
    rw [q] at e2
    have e3 : (slept s i).getD x = y := Option.some.inj e2
    cases z : slept s i with
    | none => rw [z] at e3; subst e3; exact I.bare x (Array.mem_of_getElem? q)
    | some w =>
      rw [z] at e3
      subst e3
      unfold slept at z
      cases u : s.gens[i]? with
      | none => rw [u] at z; cases z
      | some t =>
        rw [u] at z
        dsimp only at z
        split at z
        · cases z; exact hb w (Array.mem_of_getElem? u)
        · cases z
end FM
set_option autoImplicit false
namespace FM
open PySem PySem.Spec PyProof.Rows L2 LamX
/-! ## a piece of a generator's run, up to its next end -/
def Sgp (M : Model) (A : Around) (Ph : End → Shared → Prop) (c : Code) (t : Sem PySem.Fin) (fs : List Frame) (s : Shared) : Prop :=
  ∀ (Γ : PySem.Ctx) (p : Pos), Γ.code = c → Γ.Woken A → ∃ e s', Runs M Γ p t fs s e s' ∧ Ph e s'
abbrev NoE : Value → Shared → Prop := fun _ _ => False
section
variable {M : Model} {A : Around} {Ph : End → Shared → Prop} {c : Code} {fs : List Frame} {s : Shared}
theorem sgp_wrap {α : Type} {m : Sem α} {K : α → Sem PySem.Fin} {J : Value → Sem PySem.Fin} {gd : Bool → Bool} {lv : List Value → List Value}
    (h : wpAny M (A.over c fs) m (fun a s' => Sgp M A Ph c (K a) fs s') NoE s) : Sgp M A Ph c (m.wrap K J gd lv) fs s := by
  intro Γ p hc hw
  subst hc
  exact runs_wrap_of_wp K J gd lv m (h (Γ.over fs) p (hw.over fs)) (fun a p' s' q => q Γ p' rfl hw) (fun x p' s' q => q.elim)
theorem sgp_bind_wrap {α β : Type} {m : Sem α} {f : α → Sem β} {K : β → Sem PySem.Fin} {J : Value → Sem PySem.Fin} {gd : Bool → Bool} {lv : List Value → List Value}
    (h : wpAny M (A.over c fs) m (fun a s' => Sgp M A Ph c ((f a).wrap K J gd lv) fs s') NoE s) : Sgp M A Ph c ((m >>= f).wrap K J gd lv) fs s := by
  rw [Sem.bind_eq_wrap', Sem.wrap_wrap]
  exact sgp_wrap h
theorem sgp_call {c' : Code} {h : Option Value} {g : Bool} {l : List Value} {k : Result → Sem PySem.Fin} (hc : ∀ p, Sgp M A Ph c' (M.den c') (.ret k h g l c p [] :: fs) s) : Sgp M A Ph c (.call c' h g l k) fs s := by
  intro Γ p e hw
  subst e
  obtain ⟨e, s', hr, q⟩ := hc p (Γ.goto c') p rfl (hw.goto c')
  exact ⟨e, s', runs_call_seg hr, q⟩
theorem sgp_leaf {k : Result → Sem PySem.Fin} {h : Option Value} {g : Bool} {l kp : List Value} {c1 : Code} {p1 : Pos} (r : Result) (hk : Sgp M A Ph c1 (k r) fs s) : Sgp M A Ph c (leafOf r) (.ret k h g l c1 p1 kp :: fs) s := by
  intro Γ p e hw
  subst e
  obtain ⟨e, s', hr, q⟩ := hk (Γ.goto c1) p1 rfl (hw.goto c1)
  exact ⟨e, s', Runs.pop r hr, q⟩
theorem sgp_again {c' : Code} (hq : c'.quiet = true) (hc : Sgp M A Ph c' (M.den c') fs s) : Sgp M A Ph c (.pure (.again c')) fs s := by
  intro Γ p e hw
  subst e
  obtain ⟨e, s', hr, q⟩ := hc (Γ.goto c') p rfl (hw.goto c')
  exact ⟨e, s', Runs.head (c₁ := c') (fun _ _ x => .again hq x) hr, q⟩
theorem sgp_end (r : Result) (h : Ph (.ret r) s) : Sgp M A Ph c (leafOf r) [] s := by
  intro Γ p e hw
  exact ⟨.ret r, s, Runs.leaf r, h⟩
theorem sgp_yield {v : Value} {g : Bool} {l : List Value} {k : Resume → Sem PySem.Fin} (hfs : splitAtGen fs = none) (h : ∀ p, Ph (.susp v g l k c p fs) s) : Sgp M A Ph c (.yield v g l k) fs s := by
  intro Γ p e hw
  subst e
  exact ⟨_, s, Runs.yield' fs hfs, h p⟩
theorem sgp_point {l : List Value} {k : Unit → Sem PySem.Fin} (h : Sgp M A Ph c (k ()) fs s) : Sgp M A Ph c (.point l k) fs s :=
  sgp_wrap (m := point) (K := k) (J := .raise) (gd := id) (lv := fun _ => l) (wpAny_point h)
theorem sgp_at {p' : Pos} {k : Unit → Sem PySem.Fin} (h : Sgp M A Ph c (k ()) fs s) : Sgp M A Ph c (.at p' k) fs s :=
  sgp_wrap (m := standAt p') (K := k) (J := .raise) (gd := id) (lv := id) (wpAny_standAt h)
/-! ### statements -/
variable {env : Env} {K : Flow → Sem PySem.Fin} {J : Value → Sem PySem.Fin} {gd : Bool → Bool} {lv : List Value → List Value}
theorem sgp_one {st : Stmt} (h : ∀ K' : Flow → Sem PySem.Fin, K' .next = K .next → Sgp M A Ph c ((exec st env).wrap K' J gd lv) fs s) : Sgp M A Ph c ((execs [st] env).wrap K J gd lv) fs s := by
  rw [execs_cons_wrap]
  exact h _ rfl
theorem sgp_Yield {e : Expr} {yp pos : Pos} (hfs : splitAtGen fs = none) (hgd : gd false = false) (hfg : fs.any Frame.guarded = false) (hco : env.scope.isCoroutine = false) (hi : interactive env = false)
    (h : wpAny M (A.over c fs) (eval e env) (fun v s' => ∀ (k : Resume → Sem PySem.Fin) (g : Bool) (l : List Value) (p : Pos), (End.susp v g l k c p fs).quiet = true → (∀ Ph' s2, Sgp M A Ph' c (K .next) fs s2 → Sgp M A Ph' c (k (.send .none)) fs s2) → Ph (.susp v g l k c p fs) s') NoE s) :
    Sgp M A Ph c ((exec (.Expr (.Yield (some e) yp) pos) env).wrap K J gd lv) fs s := by
  have hy : ∀ v, yieldOut env v = yieldValue v := fun v => by simp only [yieldOut, hco, Bool.false_eq_true, if_false]
  rw [exec_Expr env _ pos hi rfl]
  show Sgp M A Ph c (.at pos fun _ => ((eval e env >>= fun v => (standAt yp >>= fun _ => yieldOut env v)) >>= fun x => dropValue (.Yield (some e) yp) pos x).wrap K J gd lv) fs s
  simp only [hy]
  refine sgp_at ?_
  rw [Sem.bind_eq_wrap', Sem.bind_eq_wrap', Sem.wrap_wrap, Sem.wrap_wrap]
  refine sgp_wrap (wpAny_mono h (fun v s' q => ?_) fun _ _ x => x)
  refine sgp_at (sgp_yield hfs fun p => q _ _ _ _ ?_ fun Ph' s2 w => ?_)
  · show (!(gd false || fs.any Frame.guarded)) = true
    rw [hgd, hfg]
    rfl
  · exact w
theorem sgp_For {tg iter : Expr} {body : List Stmt} {pos : Pos} (hs : ∀ x, foldedSetIterable iter env x = pure x)
    (h : wpAny M (A.over c fs) (eval iter env) (fun x s1 => wpAny M (A.over c fs) (pyIter x) (fun it s2 => ∀ (k : Result → Sem PySem.Fin) (l kp : List Value) (p : Pos), k (.ok .next) = K .next →
      Sgp M A Ph (.forLoop tg it body [] env) (M.den (.forLoop tg it body [] env)) (.ret k none (gd false) l c p kp :: fs) s2) NoE s1) NoE s) :
    Sgp M A Ph c ((exec (.For tg iter body [] pos) env).wrap K J gd lv) fs s := by
  rw [exec_For]
  refine sgp_bind_wrap (wpAny_standAt ?_)
  refine sgp_bind_wrap (wpAny_mono h (fun x s1 h1 => ?_) fun _ _ z => z)
  refine sgp_bind_wrap (wpAny_of_eq (hs x) ?_)
  refine sgp_bind_wrap (wpAny_standAt ?_)
  refine sgp_bind_wrap (wpAny_holding (wpAny_mono h1 (fun it s2 h2 => ?_) fun _ _ z => z))
  refine sgp_call fun p => h2 _ _ _ p ?_
  rfl
theorem sgp_func {prog : Program} {w : World} {body : List Stmt} (h : ∀ (K : Flow → Sem PySem.Fin) (J : Value → Sem PySem.Fin), K .next = leafOf (.ok (.ret .none)) → Sgp (model prog w) A Ph (.func body env) ((execs body env).wrap K J id id) fs s) :
    Sgp (model prog w) A Ph (.func body env) ((model prog w).den (.func body env)) fs s := by
  show Sgp _ A Ph _ (.point [] fun _ => ((execs body env).onRaise (leaving env)) >>= _) fs s
  refine sgp_point ?_
  rw [Sem.onRaise_eq_wrap, Sem.bind_eq_wrap', Sem.wrap_wrap]
  exact h _ _ rfl
theorem sgp_forLoop {prog : Program} {w : World} {tg : Expr} {it : Value} {body : List Stmt}
    (h : wpAny (model prog w) (A.over (.forLoop tg it body [] env) fs) (pyNext it) (fun r s1 => match r with
      | none => Sgp (model prog w) A Ph (.block [] env) (leafOf (.ok .next)) fs s1
      | some v => wpAny (model prog w) (A.over (.forLoop tg it body [] env) fs) (letOwnedTupleGo tg it v) (fun _ s2 => wpAny (model prog w) (A.over (.forLoop tg it body [] env) fs) (assign tg env v) (fun _ s3 =>
          ∀ (K : Flow → Sem PySem.Fin) (J : Value → Sem PySem.Fin), K .next = .pure (.again (.forLoop tg it body [] env)) → Sgp (model prog w) A Ph (.forLoop tg it body [] env) ((execs body env).wrap K J id id) fs s3) NoE s2) NoE s1) NoE s) :
    Sgp (model prog w) A Ph (.forLoop tg it body [] env) ((model prog w).den (.forLoop tg it body [] env)) fs s := by
  show Sgp _ A Ph _ ((forTurn tg it body [] env).onRaise _) fs s
  rw [Sem.onRaise_eq_wrap]
  unfold forTurn
  refine sgp_bind_wrap (wpAny_standAt ?_)
  refine sgp_bind_wrap (wpAny_onRaise (wpAny_mono h (fun r s1 h1 => ?_) fun _ _ z => z.elim))
  cases r with
  | none => exact sgp_again rfl h1
  | some v =>
    refine sgp_bind_wrap (wpAny_mono h1 (fun _ s2 h2 => ?_) fun _ _ z => z)
    refine sgp_bind_wrap (wpAny_mono h2 (fun _ s3 h3 => ?_) fun _ _ z => z)
    rw [Sem.bind_eq_wrap', Sem.wrap_wrap]
    exact h3 _ _ rfl
end
/-! ### waking a generator -/
def GoesP (M : Model) (A : Around) (Ph : End → Shared → Prop) (gs : GenState) (r : Resume) (s : Shared) : Prop :=
  match gs with
  | .fresh c => r = .send .none ∧ Sgp M A Ph c (M.den c) [] s
  | .suspended k _ c _ fs _ => Sgp M A Ph c (k r) fs s
  | _ => False
theorem resume_P {M : Model} {A : Around} {Ph : End → Shared → Prop} {E : Value → Shared → Prop} {s : Shared} {g : Nat} {gs : GenState} {r : Resume} {l : List Value} {α : Type} {k : GenResult → Sem α} {Q : α → Shared → Prop} (hg : s.gens[g]? = some gs)
    (hgo : GoesP M A Ph gs r (s.setGen g .running)) (hq : ∀ e s1, Ph e s1 → e.quiet = true ∧ wpAny M A (k e.result) Q E (s1.setGen g e.genState)) : wpAny M A (.resume g r l k) Q E s := by
  intro Γ p hΓ
  rw [Sem.wp_resume]
  have hB : ∀ c, (Γ.wake c p).Woken A := fun c => hΓ.wake c p
  cases gs with
  | fresh c =>
    obtain ⟨rfl, hs⟩ := hgo
    obtain ⟨e1, s1, hr, he⟩ := hs (Γ.wake c p) p rfl (hB c)
    obtain ⟨q1, q2⟩ := hq e1 s1 he
    refine ⟨_, _, ?_, q2 Γ p hΓ⟩
    unfold Wakes
    rw [hg]
    exact ⟨e1, s1, hr, q1, rfl, rfl⟩
  | suspended k0 l0 c0 p0 fs0 cl =>
    obtain ⟨e1, s1, hr, he⟩ := hgo (Γ.wake c0 p) p0 rfl (hB c0)
    obtain ⟨q1, q2⟩ := hq e1 s1 he
    refine ⟨_, _, ?_, q2 Γ p hΓ⟩
    unfold Wakes
    rw [hg]
    exact ⟨e1, s1, hr, q1, rfl, rfl⟩
  | running => exact hgo.elim
  | finished => exact hgo.elim
/-- next(g) in a loop's turn -/
theorem next_P {prog : Program} {w : World} {A : Around} {Ph : End → Shared → Prop} {E : Value → Shared → Prop} {s : Shared} {a : Addr} {g : Nat} {gs : GenState} {Q : Option Value → Shared → Prop} (hh : A.handled = none) (hl : s.heap.NoLimit) (hroom : A.depth < recursionLimit) (hg : s.heap.IsGen a g) (hgs : s.gens[g]? = some gs)
    (hgo : GoesP (model prog w) A.in1 Ph gs (.send .none) (s.setGen g .running))
    (hP : ∀ e s1, Ph e s1 → e.quiet = true ∧ ((∃ v gg l k c p fs, e = .susp v gg l k c p fs ∧ Q (some v) (s1.setGen g e.genState)) ∨ (∃ r, e = .ret r ∧ (r = .ok (.ret .none) ∨ r = .ok .next) ∧ ∀ h', (∀ b o, s1.heap.get? b = some o → h'.get? b = some o) → Q none { s1.setGen g .finished with heap := h' }))) :
    wpAny (model prog w) A (pyNext (.ref a)) Q E s := by
  unfold pyNext
  refine wpAny_bind (wpAny_attempt (wpAny_callSpecial?_slot (name := Str.ofString "__next__") hg.typeIs slot_gen_next (wpAny_call_entry slot_gen_next hg.typeIs entry_gen_next ?_ (args_gen_next _))))
  show wpAny _ A.in1 (Builtin.Generator.genWake (.ref a) (.send .none)) _ _ s
  unfold Builtin.Generator.genWake
  refine wpAny_bind (wpAny_holding (wpAny_genNumber hg (wpAny_bind (wpAny_genState hgs ?_))))
  cases gs with
  | running => exact hgo.elim
  | finished => exact hgo.elim
  | _ =>
    refine wpAny_bind (wpAny_roomToWake hl hroom ?_)
    show wpAny _ A.in1 (.resume g (.send .none) [] _) _ _ s
    refine resume_P hgs hgo fun e s1 he => ?_
    obtain ⟨q1, q⟩ := hP e s1 he
    refine ⟨q1, ?_⟩
    rcases q with ⟨v, gg, l, k, c, p, fs, rfl, hq⟩ | ⟨r, rfl, hr, hq⟩
    · exact wpAny_pure ⟨v, rfl, wpAny_pure hq⟩
    · have hres : End.result (.ret r) = .returned .none := by rcases hr with hr | hr <;> rw [hr] <;> rfl
      first | rw [hres] | simp only [hres]
      show wpAny _ A.in1 (newExc (.type "StopIteration") [] >>= _) _ _ _
      refine wpAny_bind ?_
      simp only [newExc, newTuple]
      refine wpAny_bind (wpAny_newObj_type ?_ (by size_fits))
      refine wpAny_bind (m := firstArgMember _ _) (wpAny_of_eq (a := Value.none) (by first | rfl | (simp only [firstArgMember]; rfl)) ?_)
      refine wpAny_newObj_type ?_ (by size_fits)
      simp only [raiseNew]
      refine wpAny_bind (wpAny_bind (wpAny_handled ?_))
      first | rw [show A.in1.handled = none from hh] | rw [hh]
      refine wpAny_throw ?_
      refine wpAny_bind (wpAny_isInstance (T := "StopIteration") (b := true) ⟨_, Heap.get?_push_size _ rfl, rfl⟩ isSubtype_stop ?_)
      exact wpAny_pure (hq _ fun b o hb => Heap.get?_push_of_some _ (Heap.get?_push_of_some _ hb))
end FM
set_option autoImplicit false
namespace FM
open PySem PySem.Spec PyProof.Rows L2 LamX
/-! ## a generator's frame, seen from its waking -/
def cut (h : Heap) (n : Nat) : Heap := ⟨h.objs.extract 0 n, h.life⟩
theorem cut_get {h : Heap} {n b : Nat} (hb : b < n) : (cut h n).get? b = h.get? b := by
  have e : (h.objs.extract 0 n)[b]? = h.objs[b]? := by
    rw [Array.getElem?_extract]
    by_cases q : b < h.objs.size
    · rw [if_pos (by omega), Nat.zero_add]
    · rw [if_neg (by omega), Array.getElem?_eq_none (by omega)]
  unfold Heap.get? cut
  dsimp only
  rw [e]
theorem cut_size {h : Heap} {n : Nat} (hn : n ≤ h.objs.size) : (cut h n).objs.size = n := by
  show (h.objs.extract 0 n).size = n
  rw [Array.size_extract]
  omega
theorem cut_sub {h : Heap} {n b : Nat} {o : Obj} (e : (cut h n).get? b = some o) : h.get? b = some o ∧ b < n := by
  have hl : b < (cut h n).objs.size := Heap.lt_size e
  have hb : b < n := by
    have : (cut h n).objs.size = (h.objs.extract 0 n).size := rfl
    rw [this, Array.size_extract] at hl
    omega
  rw [cut_get hb] at e
  exact ⟨e, hb⟩
def gX (X : Cx) (N : List Str) (ge : Env) (s : Shared) (H : Hp) : Cx :=
  { prog := X.prog, w := X.w, K := X.K, mg := X.mg, base := X.base, A := X.A.in1.deeper ge, N := N, s_0 := { s with heap := cut s.heap ge.locals }, H_0 := H, env := ge, outer := X.stack, stack := ge :: X.stack, ex := [], fn := fun _ => true, calm := true, pn := [], xe := fun _ _ => False }
structure GEnv (X : Cx) (ge : Env) : Prop where
  kind : ge.scope.kind = .function
  glob : ge.globals = mainGlobals
  blt : ge.builtins = builtinsNs
  nocell : ∀ x, ge.cells.lookup x = none
  nokind : ∀ x, ¬ (ge.kindOf x = some .cell ∨ ge.kindOf x = some .free)
  frame : ge.frame = some ge.locals
  fs : ∀ b ∈ frs X.stack, b < ge.locals
  loc : X.env.locals < ge.locals
  cel : ∀ x c, X.env.cells.lookup x = some c → c < ge.locals
  bsz : X.base.objs.size ≤ ge.locals
  pn : ∀ p ∈ X.pn, p.1 < ge.locals
/-- the frame's own names -/
def GLoc (N : List Str) (ge : Env) (τ : L2.St) (h : Heap) : Prop := ∃ m, h.Ns ge.locals m ∧ ∀ (i : Nat) (x : Str) (v : V), N[i]? = some x → τ[i]? = some (some v) → Vis ge.scope x → ∃ u, RelV v u ∧ (ge.kindOf x = some .local ∧ m x = some u)
theorem GLoc.kept {N : List Str} {ge : Env} {τ : L2.St} {h h' : Heap} (g : GLoc N ge τ h) (k : ∀ o, h.get? ge.locals = some o → h'.get? ge.locals = some o) : GLoc N ge τ h' := by
  obtain ⟨m, ⟨o, es, ep, ho, r⟩, q⟩ := g
  exact ⟨m, ⟨o, es, ep, k o ho, r⟩, q⟩
section
variable {X : Cx} {N : List Str} {ge : Env} {pins pg : List (Addr × Obj)} {σ τ : L2.St} {H H' : Hp} {s s' : Shared}
theorem gX_ok (Ge : GEnv X ge) (hd : X.A.handled = none) (I : Inv X pins σ H s) (hsz : ge.locals ≤ s.heap.objs.size) : (gX X N ge s H).Ok where
  mod := I.ok.mod
  kind := Ge.kind
  glob := Ge.glob
  blt := Ge.blt
  above := by
    show (cut s.heap ge.locals).objs.size ≤ ge.locals
    rw [cut_size hsz]
    exact Nat.le_refl _
  inj := fun x y c e => by
    have e : ge.cells.lookup x = some c := e
    rw [Ge.nocell] at e
    cases e
  has := fun x h => absurd h (Ge.nokind x)
  cab := fun x c _ e => by
    have e : ge.cells.lookup x = some c := e
    rw [Ge.nocell] at e
    cases e
  hd := fun _ => hd
  frames := Around.frames_deeper I.ok.frames
  stk := .inr ⟨rfl, Ge.frame⟩
  exf := fun b hb => absurd (show b ∈ ([] : List Addr) from hb) (by simp)
  bs := fun b o e => by
    obtain ⟨h1, h2⟩ := I.bs b o e
    refine ⟨?_, h2⟩
    show (cut s.heap ge.locals).get? b = some o
    rw [cut_get (Nat.lt_of_lt_of_le (Heap.lt_size e) Ge.bsz)]
    exact h1
  bsz := by
    show X.base.objs.size ≤ (cut s.heap ge.locals).objs.size
    rw [cut_size hsz]
    exact Ge.bsz
  noex := fun b o _ => by show b ∉ ([] : List Addr); simp
  exfs := fun b hb => absurd (show b ∈ ([] : List Addr) from hb) (by simp)
  funs := by
    have all : ∀ l : List Env, (∀ b ∈ frs l, b < ge.locals) → s.heap.FunFrames X.base l → (cut s.heap ge.locals).FunFrames X.base l := fun l => by
      induction l with
      | nil => exact fun _ _ => trivial
      | cons env r ih =>
        intro hs ⟨hk, ⟨A, o, hf, hn, ho, hd⟩, hr⟩
        have hA : A < ge.locals := hs A (by unfold frs; rw [List.filterMap_cons, hf]; exact List.mem_cons_self)
        exact ⟨hk, ⟨A, o, hf, hn, by rw [cut_get hA]; exact ho, hd⟩, ih (fun b hb => hs b (by unfold frs; rw [List.filterMap_cons, hf]; exact List.mem_cons_of_mem _ hb)) hr⟩
    exact all X.stack Ge.fs I.stack
  frf := I.stkFree
theorem gX_inv (Ge : GEnv X ge) (hd : X.A.handled = none) (I : Inv X pins σ H s) (lc : GLoc N ge τ s.heap) (hl : τ.length = N.length) (hf : H ge.locals = none) (hp : ∀ p ∈ pg, s.heap.get? p.1 = some p.2 ∧ H p.1 = none ∧ ge.locals < p.1 ∧ ∀ v, p.2.data ≠ .cell v) : Inv (gX X N ge s H) pg τ H s where
  ok := gX_ok Ge hd I (by
    obtain ⟨m, hn, _⟩ := lc
    exact Nat.le_of_lt hn.lt)
  os := rfl
  bare := I.bare
  base := Un.kept fun b o e => (cut_sub e).1
  loc := by
    obtain ⟨m, hn, q⟩ := lc
    refine ⟨m, hn, fun i x v e1 e2 e3 => ?_⟩
    obtain ⟨u, r, l⟩ := q i x v e1 e2 e3
    exact ⟨u, r, .inl l⟩
  cell := fun x c e => by
    have e : ge.cells.lookup x = some c := e
    rw [Ge.nocell] at e
    cases e
  free := hf
  freeC := fun x c e => by
    have e : ge.cells.lookup x = some c := e
    rw [Ge.nocell] at e
    cases e
  pin := fun p hm => by
    have hm : p ∈ pg := by simpa [gX] using hm
    obtain ⟨h1, h2, h3, h4⟩ := hp p hm
    exact ⟨h1, h2, Nat.ne_of_gt h3, fun z => absurd (Nat.lt_trans (Ge.fs p.1 z) h3) (Nat.lt_irrefl _), h4⟩
  hok := I.hok
  len := hl
theorem gX_loc (Ge : GEnv X ge) {s0 : Shared} {H0 : Hp} (I : Inv (gX X N ge s0 H0) pg τ H s) : GLoc N ge τ s.heap := by
  obtain ⟨m, hn, q⟩ := I.loc
  refine ⟨m, hn, fun i x v e1 e2 e3 => ?_⟩
  obtain ⟨u, r, l⟩ := q i x v e1 e2 e3
  rcases l with l | ⟨k, _⟩
  · exact ⟨u, r, l⟩
  · exact absurd k (Ge.nokind x)
/-- what the woken piece did, for the consumer -/
theorem gX_back (Ge : GEnv X ge) {s0 : Shared} {H0 : Hp} (I : Inv X pins σ H0 s0) (Ig : Inv (gX X N ge s0 H0) pg τ H s) (hp : ∀ p ∈ pins, p.1 < ge.locals) (hx : ∀ b ∈ X.ex, b < ge.locals) : Inv X pins σ H s := by
  have hab : X.s_0.heap.objs.size ≤ ge.locals := Nat.le_trans I.ok.above (Nat.le_of_lt Ge.loc)
  have lt : ∀ b o, s0.heap.get? b = some o → b ∉ (List.range s0.heap.objs.size).filter (fun b => decide (ge.locals ≤ b)) → b < ge.locals := fun b o e hb => by
    by_cases q : b < ge.locals
    · exact q
    · exact absurd (List.mem_filter.mpr ⟨List.mem_range.mpr (Heap.lt_size e), decide_eq_true (Nat.le_of_not_lt q)⟩) hb
  have ct : ∀ b o, s0.heap.get? b = some o → b < ge.locals → (gX X N ge s0 H0).s_0.heap.get? b = some o := fun b o e hb => by
    show (cut s0.heap ge.locals).get? b = some o
    rw [cut_get hb]
    exact e
  have ne : ∀ b : Addr, b ∉ (gX X N ge s0 H0).ex := fun b => by show b ∉ ([] : List Addr); simp
  refine I.call' (ch := (List.range s0.heap.objs.size).filter (fun b => decide (ge.locals ≤ b))) Ig.os ⟨fun b o e n hb hc => ?_, fun b o e n hb hc => ?_, fun b o e n hc => ?_, fun b o e hc => ?_, Ig.base.tups, Ig.base.frzs, Ig.base.tbls⟩ Ig.hok Ig.bare fun b hb => ?_
  · exact Ig.base.keep b o (ct b o e (lt b o e hc)) n hb (ne b)
  · exact Ig.base.slot b o (ct b o e (lt b o e hc)) n hb (ne b)
  · exact Ig.base.free b o (ct b o e (lt b o e hc)) n (ne b)
  · exact Ig.base.there b o (ct b o e (lt b o e hc)) (ne b)
  · have hb' : ge.locals ≤ b := of_decide_eq_true (List.mem_filter.mp hb).2
    refine ⟨.inr (Nat.le_trans hab hb'), Nat.ne_of_gt (Nat.lt_of_lt_of_le Ge.loc hb'), fun x c e z => ?_, fun p hm z => ?_⟩
    · exact absurd (Nat.lt_of_lt_of_le (Ge.cel x c e) (z ▸ hb')) (Nat.lt_irrefl _)
    · rcases List.mem_append.mp hm with q | q
      · exact absurd (Nat.lt_of_lt_of_le (Ge.pn p q) (z ▸ hb')) (Nat.lt_irrefl _)
      · exact absurd (Nat.lt_of_lt_of_le (hp p q) (z ▸ hb')) (Nat.lt_irrefl _)
theorem inv_setGen {g : Nat} {x : GenState} (hx : x.bare = true) (I : Inv X pins σ H s) : Inv X pins σ H (s.setGen g x) :=
  ⟨I.ok, I.os, allBare_setGen I.bare hx, I.base, I.loc, I.cell, I.free, I.freeC, I.pin, I.hok, I.len⟩
end
end FM
set_option autoImplicit false
namespace FM
open PySem PySem.Spec PyProof.Rows L2 LamX
/-! ## a sleeping generator's promise -/
/-- its objects, as they lie -/
structure FpG (ge : Env) (a : Addr) (go : Obj) (fp : List (Addr × Obj)) (s : Shared) (H : Hp) : Prop where
  mem : (a, go) ∈ fp
  at_ : ∀ p ∈ fp, s.heap.get? p.1 = some p.2 ∧ H p.1 = none ∧ ge.locals ≤ p.1 ∧ ∀ v, p.2.data ≠ .cell v
section
variable (L : Lc) (X : Cx) (ge : Env) (a : Addr) (go : Obj)
def PhE (pins : List (Addr × Obj)) (σ : L2.St) (H G : Hp) : End → Shared → Prop := fun e s' => e = .ret (.ok (.ret .none)) ∧ ∃ H' G', Inv X pins σ H' s' ∧ Grow L G H G' H'
def PhY (d : D) (nxt : List (Addr × Obj) → Hp → GenState → Prop) (pins : List (Addr × Obj)) (σ : L2.St) (H G : Hp) : End → Shared → Prop := fun e s' =>
  ∃ v gd l k c p fs x H' G' fp', e = .susp v gd l k c p fs ∧ e.quiet = true ∧ RelV x v ∧ Inv X pins σ H' s' ∧ Grow L G H G' H' ∧ Is L G' d x ∧ FpG ge a go fp' s' H' ∧ nxt fp' G' e.genState
/-- the consumer's state at a waking -/
structure Wk (pins : List (Addr × Obj)) (σ : L2.St) (H G : Hp) (s : Shared) (fp : List (Addr × Obj)) (G0 : Hp) : Prop where
  inv : Inv X pins σ H s
  pins : ∀ p ∈ pins, p.1 < ge.locals
  up : Sub G0 G
  sub : Sub G H
  tabs : TbG L H G
  fp : ∀ p ∈ fp, s.heap.get? p.1 = some p.2 ∧ H p.1 = none
def GenOk (ds : Nat → D) (q : Nat) : Nat → List (Addr × Obj) → Hp → GenState → Prop
  | 0, fp, G0, gs => ∀ pins σ H G s, Wk L X ge pins σ H G s fp G0 → GoesP (model X.prog X.w) X.A.in1 (PhE L X pins σ H G) gs (.send .none) s
  | m + 1, fp, G0, gs => ∀ pins σ H G s, Wk L X ge pins σ H G s fp G0 → GoesP (model X.prog X.w) X.A.in1 (PhY L X ge a go (ds (q - (m + 1))) (GenOk ds q m) pins σ H G) gs (.send .none) s
def PhM (ds : Nat → D) (q : Nat) : Nat → List (Addr × Obj) → L2.St → Hp → Hp → End → Shared → Prop
  | 0, pins, σ, H, G => PhE L X pins σ H G
  | m + 1, pins, σ, H, G => PhY L X ge a go (ds (q - (m + 1))) (GenOk L X ge a go ds q m) pins σ H G
end
theorem genOk_iff {L : Lc} {X : Cx} {ge : Env} {a : Addr} {go : Obj} {ds : Nat → D} {q m : Nat} {fp : List (Addr × Obj)} {G0 : Hp} {gs : GenState} :
    GenOk L X ge a go ds q m fp G0 gs ↔ ∀ pins σ H G s, Wk L X ge pins σ H G s fp G0 → GoesP (model X.prog X.w) X.A.in1 (PhM L X ge a go ds q m pins σ H G) gs (.send .none) s := by
  cases m <;> rfl
theorem Is.sub {L : Lc} {G G' : Hp} {d : D} {v : V} (s : Sub G G') (h : Is L G d v) : Is L G' d v := h.mono s
section
variable {L : Lc} {X : Cx} {N : List Str} {ge : Env} {a : Addr} {go : Obj} {ds : Nat → D} {q : Nat} {x : Str} {tpos yp pos : Pos} {elt : Expr} {fb : List Stmt}
/-- a turn of for x in ..: yield elt, the generator's frame awake -/
theorem gen_turn {Sg : SlS} {S1 : Nat → SlS} {en : Nat → D} {J : It} {fpI : List Addr} {it : Addr} {tn : Nat → Heap → Prop} (Ge : GEnv X ge) (hd : X.A.handled = none) (hex : X.ex = []) (hco : ge.scope.isCoroutine = false) (hi : interactive ge = false) (T : Turn X.prog X.w X.K (.Name x tpos) J fpI it tn)
    (hg : ∀ s0 H0, EvG (gX X N ge s0 H0) (.Name x tpos) (.one 1)) (hset : ∀ i, Sg.set 1 (.val (en i)) = S1 i) (hw : ∀ i, Weak (S1 i) Sg) (hno : ∀ i j, ¬ Owns (S1 i) j) (he : ∀ s0 H0 i, i < q → EvE L (gX X N ge s0 H0) elt (S1 i) (ds i)) (ha : ge.locals < a) (hgo : ∀ v, go.data ≠ .cell v) :
    ∀ (m : Nat), m ≤ q → ∀ (pins : List (Addr × Obj)) (σ : L2.St) (H0 G0 : Hp) (s0 : Shared) (τ : L2.St) (H G : Hp) (s : Shared) (k : Result → Sem PySem.Fin) (l kp : List Value) (p : Pos), Inv X pins σ H0 s0 → (∀ p ∈ pins, p.1 < ge.locals) → ge.locals ≤ s0.heap.objs.size → Inv (gX X N ge s0 H0) [(a, go)] τ H s → Grow L G0 H0 G H → RepV L Sg τ H G →
      ItOk L J G ((List.range q).map en) → tn (q - m) s.heap → (∀ b ∈ fpI, FpOk (gX X N ge s0 H0) [(a, go)] H b) → k (.ok .next) = leafOf (.ok (.ret .none)) →
      Sgp (model X.prog X.w) X.A.in1 (PhM L X ge a go ds q m pins σ H0 G0) (.forLoop (.Name x tpos) (.ref it) [.Expr (.Yield (some elt) yp) pos] [] ge) ((model X.prog X.w).den (.forLoop (.Name x tpos) (.ref it) [.Expr (.Yield (some elt) yp) pos] [] ge)) [.ret k none false l (.func fb ge) p kp] s := by
  have hexl : ∀ b ∈ X.ex, b < ge.locals := fun b hb => by rw [hex] at hb; cases hb
  intro m
  induction m with
  | zero =>
    intro hm pins σ H0 G0 s0 τ H G s k l kp p I0 hp hz Ig gr R ok st fr hk
    have over : X.A.in1.over (.forLoop (.Name x tpos) (.ref it) [.Expr (.Yield (some elt) yp) pos] [] ge) [.ret k none false l (.func fb ge) p kp] = X.A.in1.deeper ge := (GenW.over_loop rfl rfl).trans GenW.over_func
    refine sgp_forLoop ?_
    rw [over]
    have stop : J.stop q H := (ok q G H (fun _ _ e => e) R.sub).2 (by rw [List.length_map, List.length_range]; exact Nat.le_refl _)
    refine thn (T.done (gX X N ge s0 H0) rfl rfl rfl rfl q [(a, go)] s τ H NoE Ig fr st stop) fun r s1 ⟨hr, I1⟩ => ?_
    subst hr
    refine sgp_leaf (.ok .next) ?_
    rw [hk]
    exact sgp_end _ ⟨rfl, H, G, gX_back Ge I0 I1 hp hexl, gr⟩
  | succ m ih =>
    intro hm pins σ H0 G0 s0 τ H G s k l kp p I0 hp hz Ig gr R ok st fr hk
    have over : X.A.in1.over (.forLoop (.Name x tpos) (.ref it) [.Expr (.Yield (some elt) yp) pos] [] ge) [.ret k none false l (.func fb ge) p kp] = X.A.in1.deeper ge := (GenW.over_loop rfl rfl).trans GenW.over_func
    refine sgp_forLoop ?_
    rw [over]
    have hlt : q - (m + 1) < q := by omega
    have hde : ((List.range q).map en)[q - (m + 1)]? = some (en (q - (m + 1))) := by rw [List.getElem?_map, List.getElem?_range hlt]; rfl
    obtain ⟨jgo, jy⟩ := (ok (q - (m + 1)) G H (fun _ _ e => e) R.sub).1 _ hde
    refine thn (T.item (gX X N ge s0 H0) rfl rfl rfl rfl (q - (m + 1)) [(a, go)] s τ H NoE Ig fr st jgo) fun r s1 ⟨u, hr, h1⟩ => ?_
    subst hr
    refine thn h1 fun _ s2 ⟨y, H2, I2, r2, y2, st2, fr2⟩ => ?_
    obtain ⟨G2, g2, i2⟩ := jy y H2 y2
    have R2 := R.grow g2
    have fr2' : ∀ b ∈ fpI, FpOk (gX X N ge s0 H0) [(a, go)] H2 b := fun b hb => ⟨fr2 b hb, (fr b hb).2⟩
    have I2' := I2.pinned fr2' (T.obj _ _ st2)
    refine thn ((hg s0 H0).run _ s2 τ H2 y u (fun τ' H' => H' = H2 ∧ RepV L (S1 (q - (m + 1))) τ' H2 G2) I2' r2 (tgG_runV R2 i2 rfl fun τ' R3 _ => ⟨rfl, by rw [hset] at R3; exact R3⟩)) fun _ s3 ⟨τ3, H3, I3, e3, R3⟩ => ?_
    subst e3
    intro K J' hK
    refine sgp_one fun K' hK' => ?_
    refine sgp_Yield rfl rfl rfl hco hi ?_
    rw [over]
    refine thn ((he s0 H0 (q - (m + 1)) hlt).run _ s3 τ3 H3 (fun v H' => ∃ G', Grow L G2 H3 G' H' ∧ Is L G' (ds (q - (m + 1))) v ∧ RepV L (S1 (q - (m + 1))) τ3 H' G') I3 ⟨G2, R3, fun G' H' v g i => ⟨G', g, i, R3.grow g⟩⟩) fun v s4 ⟨w, H4, I4, r4, G4, g4, i4, R4⟩ => ?_
    intro k2 gd2 l2 p2 hq2 hres
    have I4' := I4.unpinned
    have stk : tn (q - (m + 1) + 1) s4.heap := T.keep _ _ _ st2 fun b hb o e => (I4.pin (b, o) (List.mem_append_right _ (List.mem_append_right _ (mem_pinsAt hb e)))).1
    have eqm : q - (m + 1) + 1 = q - m := by omega
    rw [eqm] at stk
    have frn : ∀ b ∈ fpI, H4 b = none := fun b hb => by
      obtain ⟨o, e, d⟩ := T.obj _ _ st2 b hb
      exact (I4.pin (b, o) (List.mem_append_right _ (List.mem_append_right _ (mem_pinsAt hb e)))).2.1
    obtain ⟨m4, ⟨oL, es, ep, hoL, hdL, hrL⟩, lc4⟩ := gX_loc Ge I4'
    have pa := I4'.pin (a, go) (List.mem_append_right _ (List.mem_singleton.mpr rfl))
    have szc : ge.locals ≤ s0.heap.objs.size → (gX X N ge s0 H0).s_0.heap.objs.size = ge.locals := fun h => cut_size h
    have young : ∀ b ∈ fpI, ge.locals ≤ b ∧ b ≠ ge.locals := fun b hb => by
      obtain ⟨_, f1, f2, f3, _⟩ := fr b hb
      refine ⟨?_, f1⟩
      rcases f3 with z | z
      · exact absurd (show b ∈ ([] : List Addr) from z) (by simp)
      · rw [szc hz] at z
        exact z
    let fp' : List (Addr × Obj) := (a, go) :: (ge.locals, oL) :: pinsAt fpI s4.heap
    refine ⟨v, gd2, l2, k2, _, p2, _, w, H4, G4, fp', rfl, hq2, r4, gX_back Ge I0 I4' hp hexl, (gr.trans g2).trans g4, i4, ⟨List.mem_cons_self .., fun pp hpp => ?_⟩, ?_⟩
    · rcases List.mem_cons.mp hpp with z | hpp
      · subst z
        exact ⟨pa.1, pa.2.1, Nat.le_of_lt ha, hgo⟩
      · rcases List.mem_cons.mp hpp with z | hpp
        · subst z
          exact ⟨hoL, I4'.free, Nat.le_refl _, fun v z => by rw [hdL] at z; cases z⟩
        · obtain ⟨hb, e⟩ := of_pinsAt hpp
          obtain ⟨o, e', d⟩ := T.obj _ _ stk pp.1 hb
          rw [e] at e'
          cases e'
          exact ⟨e, frn _ hb, (young _ hb).1, d⟩
    · refine genOk_iff.mpr fun pins5 σ5 H5 G5 s5 W => ?_
      show Sgp _ _ _ _ (k2 (.send .none)) _ s5
      refine hres _ _ ?_
      rw [hK', hK]
      refine sgp_again rfl ?_
      have keepF : ∀ pp ∈ fp', s5.heap.get? pp.1 = some pp.2 ∧ H5 pp.1 = none := W.fp
      have lc5 : GLoc N ge τ3 s5.heap := GLoc.kept (gX_loc Ge I4') fun o e => by
        rw [hoL] at e
        cases e
        exact (keepF (ge.locals, oL) (List.mem_cons_of_mem _ (List.mem_cons_self ..))).1
      have I5 : Inv (gX X N ge s5 H5) [(a, go)] τ3 H5 s5 := gX_inv Ge hd W.inv lc5 I4'.len (keepF (ge.locals, oL) (List.mem_cons_of_mem _ (List.mem_cons_self ..))).2 fun pp hpp => by
        rw [List.mem_singleton.mp hpp]
        obtain ⟨h1, h2⟩ := keepF (a, go) (List.mem_cons_self ..)
        exact ⟨h1, h2, ha, hgo⟩
      have sub4 : Sub G4 G5 := W.up
      have R5 : RepV L Sg τ3 H5 G5 := RepV.weak (hw (q - (m + 1))) {
        len := R4.len
        sub := W.sub
        tabs := W.tabs
        val := fun i d e => by
          obtain ⟨v, h1, h2⟩ := R4.val i d e
          exact ⟨v, h1, h2.mono sub4⟩
        own := fun i xs e => absurd ⟨_, e, .inl ⟨xs, rfl⟩⟩ (hno _ i)
        inst := fun i C fs e => absurd ⟨_, e, .inr ⟨C, fs, rfl⟩⟩ (hno _ i)
        dist := R4.dist }
      refine ih (by omega) pins5 σ5 H5 G5 s5 τ3 H5 G5 s5 k l kp p W.inv W.pins (Nat.le_of_lt I5.lt) I5 (.refl W.sub) R5 ?_ ?_ ?_ hk
      · exact fun i G' H' s1' s2' => ok i G' H' (fun b o e => s1' b o (sub4 b o (g4.gg b o (g2.gg b o e)))) s2'
      · exact T.keep _ _ _ stk fun b hb o e => (keepF (b, o) (List.mem_cons_of_mem _ (List.mem_cons_of_mem _ (mem_pinsAt hb e)))).1
      · intro b hb
        obtain ⟨o, e, d⟩ := T.obj _ _ stk b hb
        obtain ⟨_, f1, f2, f3, f4, f5⟩ := fr b hb
        refine ⟨(keepF (b, o) (List.mem_cons_of_mem _ (List.mem_cons_of_mem _ (mem_pinsAt hb e)))).2, f1, f2, .inr ?_, f4, f5⟩
        show (cut s5.heap ge.locals).objs.size ≤ b
        rw [cut_size (show ge.locals ≤ s5.heap.objs.size from Nat.le_of_lt I5.lt)]
        exact (young b hb).1
end
end FM
set_option autoImplicit false
namespace FM
open PySem PySem.Spec PyProof.Rows L2 LamX
section
variable {L : Lc} {X : Cx} {N : List Str} {ge : Env} {a : Addr} {go : Obj} {ds : Nat → D} {q : Nat} {x : Str} {tpos yp pos fpos : Pos} {elt iter : Expr}
/-- not yet begun -/
theorem gen_fresh {Sg : SlS} {S1 : Nat → SlS} {en : Nat → D} {oL : Obj} {τ : L2.St} {G0 : Hp} (Ge : GEnv X ge) (hd : X.A.handled = none) (hex : X.ex = []) (hco : ge.scope.isCoroutine = false) (hi : interactive ge = false)
    (hg : ∀ s0 H0, EvG (gX X N ge s0 H0) (.Name x tpos) (.one 1)) (hset : ∀ i, Sg.set 1 (.val (en i)) = S1 i) (hw : ∀ i, Weak (S1 i) Sg) (hno : ∀ i j, ¬ Owns (S1 i) j) (he : ∀ s0 H0 i, i < q → EvE L (gX X N ge s0 H0) elt (S1 i) (ds i)) (ha : ge.locals < a) (hgo : ∀ v, go.data ≠ .cell v)
    (hit : ∀ s0 H0, EvI L (gX X N ge s0 H0) (.Name x tpos) iter Sg ((List.range q).map en)) (hfold : ∀ y, foldedSetIterable iter ge y = pure y) (hL : ∀ h : Heap, h.get? ge.locals = some oL → GLoc N ge τ h) (hτ : τ.length = N.length) (hR : ∀ H G, Sub G0 G → Sub G H → TbG L H G → RepV L Sg τ H G) :
    GenOk L X ge a go ds q q [(a, go), (ge.locals, oL)] G0 (.fresh (.func [.For (.Name x tpos) iter [.Expr (.Yield (some elt) yp) pos] [] fpos] ge)) := by
  refine genOk_iff.mpr fun pins σ H G s W => ⟨rfl, sgp_func fun K J hK => sgp_one fun K' hK' => sgp_For hfold ?_⟩
  obtain ⟨e1, n1⟩ := W.fp (a, go) (List.mem_cons_self ..)
  obtain ⟨e2, n2⟩ := W.fp (ge.locals, oL) (List.mem_cons_of_mem _ (List.mem_cons_self ..))
  have I : Inv (gX X N ge s H) [(a, go)] τ H s := gX_inv Ge hd W.inv (hL _ e2) hτ n2 fun p hp => by
    rw [List.mem_singleton.mp hp]
    exact ⟨e1, n1, ha, hgo⟩
  have R := hR H G W.up W.sub W.tabs
  rw [GenW.over_func]
  refine thn ((hit s H).run [(a, go)] s τ H (fun J H' => ∃ G', Grow L G H G' H' ∧ ItOk L J G' ((List.range q).map en)) I ⟨G, R, fun G' H' J g ok => ⟨G', g, ok⟩⟩) fun v s1 h1 => thn h1 fun itv s2 h2 => ?_
  obtain ⟨it, fpI, tn, J, H2, ev, I2, T, st, fr, G2, g2, ok⟩ := h2
  subst ev
  intro k l kp p hk
  exact gen_turn (ds := ds) Ge hd hex hco hi T hg hset hw hno he ha hgo q (Nat.le_refl _) pins σ H G s τ H2 G2 s2 k l kp p W.inv W.pins (Nat.le_of_lt I.lt) I2 g2 (R.grow g2) ok (by rw [Nat.sub_self]; exact st) fr (by rw [hk, hK', hK])
end
/-! ### made by a call -/
def IsGo (go : Obj) (g : Nat) : Prop := ∃ nm qn, go.cls = .type "generator" ∧ go.data = .fields #[.int g 0, nm, qn] ∧ go.slots = #[]
theorem IsGo.gen {go : Obj} {g : Nat} (h : IsGo go g) {hp : Heap} {a : Addr} (e : hp.get? a = some go) : hp.IsGen a g := by
  obtain ⟨nm, qn, h1, h2, h3⟩ := h
  exact ⟨go, nm, qn, e, h1, h2, h3⟩
theorem IsGo.nc {go : Obj} {g : Nat} (h : IsGo go g) : ∀ v, go.data ≠ .cell v := by
  obtain ⟨nm, qn, h1, h2, h3⟩ := h
  intro v z
  rw [h2] at z
  cases z
/-- the names of a generator def without cells -/
structure GSc (N ps : List Str) (sc : Scope) : Prop where
  s : GScope N ps sc
  nocell : ∀ y ∈ sc.names, y.2 ≠ .cell
theorem cells_none : ∀ (l : List (Str × NameKind)) (n : Nat), (∀ y ∈ l, y.2 ≠ .cell) → cellsFrom n l [] = []
  | [], _, _ => rfl
  | (y, k) :: l, n, h => by
    have hk : (k == NameKind.cell) = false := by
      have := h (y, k) (List.mem_cons_self ..)
      cases k <;> first | rfl | exact absurd rfl this
    unfold cellsFrom
    rw [hk]
    exact cells_none l n fun z hz => h z (List.mem_cons_of_mem _ hz)
structure GMk (X : Cx) (pins : List (Addr × Obj)) (σ : L2.St) (N : List Str) (fb : List Stmt) (ge : Env) (vs : List V) (H : Hp) (a : Addr) (g : Nat) (go oL : Obj) (s' : Shared) : Prop where
  inv : Inv X pins σ H s'
  env : GEnv X ge
  pins : ∀ p ∈ pins, p.1 < ge.locals
  isg : IsGo go g
  at_ : s'.heap.get? a = some go
  lt : ge.locals < a
  fresh : s'.gens[g]? = some (.fresh (.func fb ge))
  loc : s'.heap.get? ge.locals = some oL
  na : H a = none
  nl : H ge.locals = none
  nc : ∀ v, oL.data ≠ .cell v
  gl : ∀ h : Heap, h.get? ge.locals = some oL → GLoc N ge (L2.start N vs) h
theorem gen_made {X : Cx} {N ps : List Str} {qual : Str} {f : Addr} {name : Str} {params : Arguments} {fb : List Stmt} {scope : Scope} {dV kV doc pm cdv ct oc : Value} {an od : Option Addr} {osl : Array (Option Value)} {pins : List (Addr × Obj)} {σ : L2.St} {H : Hp} {s : Shared} {us : List Value} {vs : List V} {Q : Value → Shared → Prop} {E : Value → Shared → Prop}
    (lk : X.K.lookup f = some ⟨oc, od, .func (PySem.W.fnOf name qual params fb scope dV kV doc pm an cdv ct), osl⟩) (hcd : PySem.W.codeIn X.K cdv qual = true) (Sc : GSc N ps scope) (hb : L2.Binds X.K (PySem.W.fnOf name qual params fb scope dV kV doc pm an cdv ct) ps []) (hr : Room 1 X.A) (I : Inv X pins σ H s) (r : Vals vs us) (hl : vs.length = ps.length)
    (h : ∀ s' a g go oL, GMk X pins σ N fb (envOfC qual scope s.heap.objs.size f cdv) vs H a g go oL s' → Q (.ref a) s') : wpAny (model X.prog X.w) X.A (call (.ref f) us) Q E s := by
  have hul : us.length = ps.length := by rw [← r.length]; exact hl
  have hbt := hb s us I.kIn (by rw [List.append_nil]; exact hul)
  rw [List.append_nil] at hbt
  have nocell : ∀ x, (cellsFrom (s.heap.objs.size + 1) scope.names []).lookup x = none := fun x => by
    rw [cells_none _ _ Sc.nocell]
    rfl
  have hkind : ∀ y ∈ ps.zip us, scope.names.lookup y.1 = some .local ∨ (scope.names.lookup y.1 = some .cell ∧ ((cellsFrom (s.heap.objs.size + 1) scope.names []).lookup y.1).isSome = true) := fun y hy => by
    rcases Sc.s.par y.1 (List.of_mem_zip hy).1 with q | q
    · exact .inl q
    · exact absurd rfl (Sc.nocell _ (PySem.mem_of_lookup q))
  refine wpAny_call (codeAny_mono (codeAny_call_generator (R := fun r s' => match r with | .ok (.ret u) => Q u s' | _ => False) hr.depth (I.kIn _ _ lk) rfl Sc.s.co Sc.s.gen rfl (PySem.W.codeRec_of I.kIn hcd) (hbt _ _ _ _ ?_)) fun r s' hq => ?_)
  · refine wpAny_newFunctionEnv_cells Sc.s.kind hkind fun env he s1 x => ?_
    subst he
    have lim1 : s1.heap.NoLimit := I.nolimit.keeps x.toInCall.keep
    refine ⟨lim1, ?_⟩
    obtain ⟨h1, tk, es1, hk1⟩ := x.done
    have lt1 : s.heap.objs.size < s1.heap.objs.size := x.toInCall.ns.lt
    have I1 : Inv X pins σ H s1 := by
      rw [es1]
      exact I.kept hk1
    obtain ⟨oL, es, ep, hoL, hdL, hrL⟩ := id x.toInCall.ns
    have main : ∀ (go : Obj) (nm qn : Value) (tk2 : Nat), go.cls = .type "generator" → go.data = .fields #[.int s1.gens.size 0, nm, qn] → go.slots = #[] → (∀ hp : Heap, (hp.push go).get? hp.objs.size = some go) →
        Q (.ref s1.heap.objs.size) { s1 with gens := s1.gens.push (.fresh (.func fb (envOfC qual scope s.heap.objs.size f cdv))), toks := tk2, heap := s1.heap.push go } := by
      intro go nm qn tk2 hc1 hd1 hs1 hgp
      have kp : ∀ b o, s1.heap.get? b = some o → (s1.heap.push go).get? b = some o := fun b o e => Heap.get?_push_of_some _ e
      refine h _ s1.heap.objs.size s1.gens.size go oL ⟨?_, ?_, ?_, ⟨nm, qn, hc1, hd1, hs1⟩, hgp _, lt1, Array.getElem?_push_size .., kp _ _ hoL, I1.hok.fresh (Nat.le_refl _), I.hok.fresh (Nat.le_refl _), (fun v z => by rw [hdL] at z; cases z), ?_⟩
      · exact I1.call' (s' := { s1 with gens := s1.gens.push (.fresh (.func fb (envOfC qual scope s.heap.objs.size f cdv))), toks := tk2, heap := s1.heap.push go }) (ch := []) rfl (Un.kept kp) (I1.hok.kept kp) (AllBare.push I1.bare rfl) (fun b z => by simp at z)
      · refine ⟨Sc.s.kind, rfl, rfl, nocell, fun y hy => ?_, rfl, fun b hb => ?_, I.lt, fun y c e => ?_, Nat.le_trans I.ok.bsz I.sz, fun p hp => ?_⟩
        · have hy : scope.names.lookup y = some .cell ∨ scope.names.lookup y = some .free := hy
          rcases hy with z | z
          · exact Sc.nocell _ (PySem.mem_of_lookup z) rfl
          · exact Sc.s.nofree _ (PySem.mem_of_lookup z) rfl
        · obtain ⟨_, o, ho, _⟩ := I.stack.mem hb
          exact Heap.lt_size ho
        · obtain ⟨v, z⟩ := I.cell y c e
          exact z.lt
        · exact Heap.lt_size (I.pin p (List.mem_append_left _ hp)).1
      · exact fun p hp => Heap.lt_size (I.pin p (List.mem_append_right _ hp)).1
      · intro h' e'
        refine ⟨_, ⟨oL, es, ep, e', hdL, hrL⟩, fun i y v e1 e2 e3 => ?_⟩
        have hi : i < vs.length := by
          unfold L2.start at e2
          by_cases hi : i < vs.length
          · exact hi
          · rw [List.getElem?_append_right (by simpa using hi), List.getElem?_replicate] at e2
            split at e2 <;> cases e2
        have hv : vs[i]? = some v := by
          unfold L2.start at e2
          rw [List.getElem?_append_left (by simpa using hi), List.getElem?_map] at e2
          cases e : vs[i]? with
          | none => rw [e] at e2; cases e2
          | some w => rw [e] at e2; cases e2; rfl
        obtain ⟨u, hu, rv⟩ := r.get hv
        have hps : ps[i]? = some y := by
          rw [← Sc.s.pre, List.getElem?_take_of_lt (by omega)]
          exact e1
        have ndP : ps.Nodup := by rw [← Sc.s.pre]; exact Sc.s.nd.sublist (List.take_sublist _ _)
        have kl : scope.names.lookup y = some .local := by
          rcases Sc.s.par y (List.mem_of_getElem? hps) with k | k
          · exact k
          · exact absurd rfl (Sc.nocell _ (PySem.mem_of_lookup k))
        exact ⟨u, rv, kl, bindL_get ndP hps hu kl⟩
    exact main _ _ _ _ rfl rfl rfl fun hp => Heap.get?_push_size _ rfl
  · cases r with
    | error e => exact hq.elim
    | ok fl =>
      cases fl with
      | ret u => exact hq
      | next => exact hq.elim
      | brk => exact hq.elim
      | cont => exact hq.elim
end FM
set_option autoImplicit false
namespace FM
open PySem PySem.Spec PyProof.Rows L2 LamX
/-- an expression whose value is such a generator, not begun -/
def EvGen (L : Lc) (X : Cx) (e : Expr) (S : SlS) (q : Nat) (ds : Nat → D) : Prop := ∀ (pins : List (Addr × Obj)) (s : Shared) (σ : L2.St) (H G : Hp), Inv X pins σ H s → RepV L S σ H G →
  wpAny (model X.prog X.w) X.A (eval e X.env) (fun u s' => ∃ ge a g go H' G' fp gs, u = .ref a ∧ GEnv X ge ∧ (∀ p ∈ pins, p.1 < ge.locals) ∧ Inv X pins σ H' s' ∧ Grow L G H G' H' ∧ IsGo go g ∧ FpG ge a go fp s' H' ∧ s'.gens[g]? = some gs ∧ GenOk L X ge a go ds q q fp G' gs) X.xe s
theorem Inv.run_sw {α : Type} {X : Cx} {pins : List (Addr × Obj)} {s : Shared} {t : Sem α} {Q : α → Shared → Prop} (hx : ∀ e s, ¬ X.xe e s) (h : wpAny (model X.prog X.w) X.A t Q X.xe (stuckS s)) :
    wpAny (model X.prog X.w) X.A t (fun a s' => ∃ s1, s' = ov (slept s) s1 ∧ ClO (slept s) s1 ∧ Q a s1) X.xe s :=
  wpAny_mono (sw_any h) (fun _ _ z => z) fun e s' ⟨s1, _, _, z⟩ => absurd z (hx e s1)
section
variable {L : Lc} {X : Cx} {S : SlS} {tg iter : Expr} {body : List Stmt} {pos : Pos}
theorem evs_forG {q : Nat} {ds : Nat → D} {t : Tg} (W : Nat → SlS) (hi : EvGen L X iter (W 0) q ds) (hg : EvG X tg t) (hp : PassesOwn (model X.prog X.w) X.A X.env X.xe) (hx : ∀ e s, ¬ X.xe e s) (hr : Room 1 X.A)
    (hb : ∀ i, i < q → ∃ S1 o, setT t (ds i) (W i) = some S1 ∧ EvB L X body S1 o ∧ goesOn o (W (i + 1)))
    (ht : ∀ it v, letOwnedTupleGo tg it v = pure () := by intro _ _; rfl) (hs : ∀ x, foldedSetIterable iter X.env x = pure x := by intro _; rfl) : EvS L X (.For tg iter body [] pos) (W 0) (.nx (W q)) := by
  refine ⟨fun pins s σ H D I ⟨B, G, R, qk⟩ => ?_⟩
  refine wpAny_For (thn (hi pins s σ H G I R.r) fun u s1 h1 => ?_) hs
  obtain ⟨ge, a, g, go, H1, G1, fp1, gs1, rfl, Ge, hpl, I1, g1, isg, F1, e1, ok1⟩ := h1
  refine wpAny_pyIter_gen (isg.gen (F1.at_ _ F1.mem).1) ?_
  have young : ∀ {fp : List (Addr × Obj)} {s' : Shared} {H' : Hp} {σ' : L2.St}, Inv X pins σ' H' s' → FpG ge a go fp s' H' → Inv X (pins ++ fp) σ' H' s' := fun {fp s' H' σ'} J F => J.pins_of fun p hm => by
    rcases List.mem_append.mp hm with z | z
    · exact J.pin p (List.mem_append_right _ z)
    · obtain ⟨q1, q2, q3, q4⟩ := F.at_ p z
      refine ⟨q1, q2, Nat.ne_of_gt (Nat.lt_of_lt_of_le Ge.loc q3), fun hm => ?_, q4⟩
      have hm2 : p.1 < X.s_0.heap.objs.size := by
        obtain ⟨_, o, ho, _⟩ := J.ok.funs.mem hm
        exact Heap.lt_size ho
      exact absurd (Nat.lt_of_lt_of_le hm2 (Nat.le_trans (Nat.le_trans J.ok.above (Nat.le_of_lt Ge.loc)) q3)) (Nat.lt_irrefl _)
  have back : ∀ {fp : List (Addr × Obj)} {s s' : Shared} {H H' : Hp} {σ' : L2.St}, FpG ge a go fp s H → Inv X (pins ++ fp) σ' H' s' → FpG ge a go fp s' H' := fun {fp s s' H H' σ'} F J => ⟨F.mem, fun p hm => by
    obtain ⟨q1, q2, _⟩ := J.pin p (List.mem_append_right _ (List.mem_append_right _ hm))
    obtain ⟨_, _, q3, q4⟩ := F.at_ p hm
    exact ⟨q1, q2, q3, q4⟩⟩
  refine codeAny_forLoop_any (fun n s' => ∃ i σ' H' G' fp gs Gf, n = q - i ∧ i ≤ q ∧ Inv X pins σ' H' s' ∧ Sub G G' ∧ Rep L B (W i) σ' H' G' ∧ FpG ge a go fp s' H' ∧ s'.gens[g]? = some gs ∧ GenOk L X ge a go ds q (q - i) fp Gf gs ∧ Sub Gf G') ?_ q
    ⟨0, σ, H1, G1, fp1, gs1, G1, by simp, Nat.zero_le _, I1, g1.gg, R.grow g1, F1, e1, ok1, fun _ _ e => e⟩
  rintro n s3 ⟨i, σ3, H3, G3, fp3, gs3, Gf3, rfl, hle, I3, sG3, R3, F3, e3, ok3, sf3⟩
  have Ir := inv_setGen (g := g) (x := .running) rfl I3
  have wk : Wk L X ge pins σ3 H3 G3 (s3.setGen g .running) fp3 Gf3 := ⟨Ir, hpl, sf3, R3.r.sub, R3.r.tabs, fun p hm => ⟨(F3.at_ p hm).1, (F3.at_ p hm).2.1⟩⟩
  have go3 := genOk_iff.mp ok3 pins σ3 H3 G3 _ wk
  by_cases hlt : i < q
  · obtain ⟨m, hm⟩ : ∃ m, q - i = m + 1 := ⟨q - i - 1, by omega⟩
    rw [hm] at go3
    have hgl : g < s3.gens.size := (Array.getElem?_eq_some_iff.mp e3).1
    refine GenW.wpAny_gsz (n := g + 1) hgl (next_P hr.hd I3.nolimit hr.depth (isg.gen (F3.at_ _ F3.mem).1) e3 go3 fun e s4 he => ?_)
    obtain ⟨v, gd, l, k, c, p, fs, x, H4, G4, fp4, ee, hq, rv, I4, g4, i4, F4, ok4⟩ := he
    refine ⟨hq, .inl ⟨v, gd, l, k, c, p, fs, ee, fun hsz => ?_⟩⟩
    have hidx : q - (m + 1) = i := by omega
    rw [hidx] at i4
    have bare4 : e.genState.bare = true := End.bare_of_quiet hq
    have hsusp : isSusp e.genState = true := by rw [ee]; rfl
    have I5 := inv_setGen (g := g) bare4 I4
    have hg5 : (s4.setGen g e.genState).gens[g]? = some e.genState := setGen_at (by rw [GenW.setGen_size] at hsz; exact hsz)
    have F5 : FpG ge a go fp4 (s4.setGen g e.genState) H4 := ⟨F4.mem, F4.at_⟩
    clear hsz
    generalize s4.setGen g e.genState = s5 at I5 hg5 F5
    have R5 := R3.grow g4
    obtain ⟨S1, o, hset, hB, ho⟩ := hb i hlt
    refine wpAny_of_eq (ht _ _) ?_
    have I5p := young I5 F5
    refine wpAny_passesOwn hp (thn (Inv.run_sw (pins := pins) hx (hg.run _ (stuckS s5) σ3 H4 x v (fun σ' H' => H' = H4 ∧ Rep L B S1 σ' H4 G4) (inv_stuck I5p) rv (tgG_run R5 i4 hset fun σ' R' => ⟨rfl, R'⟩))) fun _ s6 h6 => ?_)
    obtain ⟨s6', rfl, C6, σ6, H6, I6', rfl, R6⟩ := h6
    have hg6 := sw_at C6 hg5 hsusp
    have I6 := inv_ov I5.bare I6'
    generalize ov (slept s5) s6' = s6 at hg6 I6
    have out : ∀ {σ' : L2.St} {H' G' : Hp} {s' : Shared}, Inv X (pins ++ fp4) σ' H' s' → Sub G4 G' → Rep L B (W (i + 1)) σ' H' G' → s'.gens[g]? = some e.genState → ∃ m', m' < q - i ∧ ∃ i σ' H' G' fp gs Gf, m' = q - i ∧ i ≤ q ∧ Inv X pins σ' H' s' ∧ Sub G G' ∧ Rep L B (W i) σ' H' G' ∧ FpG ge a go fp s' H' ∧ s'.gens[g]? = some gs ∧ GenOk L X ge a go ds q (q - i) fp Gf gs ∧ Sub Gf G' := fun {σ' H' G' s'} J sG R' eg =>
      ⟨q - (i + 1), by omega, i + 1, σ', H', G', fp4, e.genState, G4, rfl, hlt, J.unpinned, fun b u z => sG b u (g4.gg b u (sG3 b u z)), R', back F5 J, eg, by rw [show q - (i + 1) = m by omega]; exact ok4, sG⟩
    refine wpAny_passesOwn hp (thn (Inv.run_sw (pins := pins) hx (hB.run _ (stuckS s6) σ6 H6 { D with nx := fun σ' H' => ∃ G', Sub G4 G' ∧ Rep L B (W (i + 1)) σ' H' G', ct := fun σ' H' => ∃ G', Sub G4 G' ∧ Rep L B (W (i + 1)) σ' H' G', bk := D.nx } (inv_stuck I6) ⟨B, G4, R6, ?_⟩)) fun f s7 h7 => ?_)
    · rcases ho with rfl | rfl
      · exact fun σ' H' G' sG R' => ⟨G', sG, R'⟩
      · exact fun σ' H' G' sG R' => ⟨G', sG, R'⟩
    · obtain ⟨s7', rfl, C7, q7⟩ := h7
      have hg7 := sw_at C7 hg6 hsusp
      cases f with
      | next =>
        obtain ⟨σ7, H7, I7, G7, sG7, R7⟩ := q7
        exact out (inv_ov I6.bare I7) sG7 R7 hg7
      | cont =>
        obtain ⟨σ7, H7, I7, G7, sG7, R7⟩ := q7
        exact out (inv_ov I6.bare I7) sG7 R7 hg7
      | brk =>
        obtain ⟨σ7, H7, I7, q8⟩ := q7
        exact ⟨σ7, H7, (inv_ov I6.bare I7).unpinned, q8⟩
      | ret v =>
        obtain ⟨x7, σ7, H7, I7, r7, q8⟩ := q7
        exact ⟨x7, σ7, H7, (inv_ov I6.bare I7).unpinned, r7, q8⟩
  · have e0 : i = q := by omega
    subst e0
    rw [Nat.sub_self] at go3
    refine next_P hr.hd I3.nolimit hr.depth (isg.gen (F3.at_ _ F3.mem).1) e3 go3 fun e s4 he => ?_
    obtain ⟨rfl, H4, G4, I4, g4⟩ := he
    refine ⟨rfl, .inr ⟨_, rfl, .inl rfl, fun h' kp => ?_⟩⟩
    have I5 := inv_setGen (g := g) (x := .finished) rfl I4
    refine wpAny_execs_nil ?_
    exact ⟨σ3, H4, I5.kept (t' := s4.toks) kp, qk σ3 H4 G4 (fun b u z => g4.gg b u (sG3 b u z)) (R3.grow g4)⟩
end
end FM
set_option autoImplicit false
namespace FM
open PySem PySem.Spec PyProof.Rows L2 LamX
/-! ### an instance in the making -/
theorem putF_new {f : Str} {v : V} : ∀ {fs : List (Str × V)}, f ∉ fs.map (·.1) → putF f v fs = fs ++ [(f, v)]
  | [], _ => rfl
  | (k, x) :: r, h => by
    have hk : k ≠ f := fun z => h (by rw [z]; exact List.mem_cons_self ..)
    show (if k = f then (k, v) :: r else (k, x) :: putF f v r) = _
    rw [if_neg hk, putF_new (fs := r) fun z => h (List.mem_cons_of_mem _ z)]
    rfl
section
variable {L : Lc} {X : Cx} {S : SlS}
theorem Rep.chgI {B : Bs} {σ : L2.St} {H G : Hp} {i : Nat} {C : Addr × Addr} {fs gs : List (Str × D)} {l dx : Addr} {vs ws : List (Str × V)} (R : Rep L B S σ H G) (hs : S[i]? = some (.inst C fs)) (hl : σ[i]? = some (some (.ref l))) (hH : H l = some (.ins C.2 dx vs)) (r : IsL L G (gs.map (·.2)) (ws.map (·.2))) (rn : ws.map (·.1) = gs.map (·.1)) :
    Rep L B (S.set i (.inst C gs)) σ (upd H l (.ins C.2 dx ws)) G := by
  obtain ⟨l', dx', vs', e1, hH', gl, _, _, lc⟩ := R.r.inst i C fs hs
  rw [hl] at e1
  cases e1
  have oi : Owns S i := ⟨_, hs, .inr ⟨C, fs, rfl⟩⟩
  have hil : i < S.length := (List.getElem?_eq_some_iff.mp hs).1
  have Bl : B.H l = none := R.o i l oi hl
  have ow : ∀ j, Owns (S.set i (.inst C gs)) j → Owns S j := fun j h => by
    rcases owns_seto h with q | ⟨q, _⟩
    · subst q; exact oi
    · exact q
  have keep : ∀ a u, a ≠ l → H a = some u → upd H l (.ins C.2 dx ws) a = some u := fun a u n e => by rw [upd_ne n]; exact e
  have sub : Sub G (upd H l (.ins C.2 dx ws)) := fun a u e => keep a u (ne_of_none e gl) (R.r.sub a u e)
  have tabs : ∀ {T : List (Addr × Str)}, Tabs T H → Tabs T (upd H l (.ins C.2 dx ws)) := fun t => tabs_keep t fun a u e n1 n2 => keep a u (by
    rintro rfl
    rw [hH] at e
    cases e
    exact n2 _ _ _ rfl) e
  refine ⟨⟨by rw [List.length_set]; exact R.r.len, sub, ⟨tabs R.r.tabs.t, R.r.tabs.n⟩, fun j d e => ?_, fun j zs e => ?_, fun j C' fs' e => ?_, fun a b m ha hb => R.r.dist a b m (ow a ha) (ow b hb)⟩, ?_, fun j m ho => R.o j m (ow j ho)⟩
  · by_cases q : i = j
    · subst q
      rw [List.getElem?_set_self hil] at e
      cases e
    · rw [List.getElem?_set_ne q] at e
      exact R.r.val j d e
  · by_cases q : i = j
    · subst q
      rw [List.getElem?_set_self hil] at e
      cases e
    · rw [List.getElem?_set_ne q] at e
      obtain ⟨m, vs', h1, h2, h3, h4⟩ := R.r.own j zs e
      refine ⟨m, vs', h1, keep m _ (fun z => q ?_) h2, h3, h4⟩
      subst z
      exact R.r.dist i j m oi ⟨_, e, .inl ⟨_, rfl⟩⟩ hl h1
  · by_cases q : i = j
    · subst q
      rw [List.getElem?_set_self hil] at e
      cases e
      exact ⟨l, dx, ws, hl, upd_same, gl, r, rn, lc⟩
    · rw [List.getElem?_set_ne q] at e
      obtain ⟨m, dx', vs', h1, h2, h3, h4⟩ := R.r.inst j C' fs' e
      refine ⟨m, dx', vs', h1, keep m _ (fun z => q ?_) h2, h3, h4⟩
      subst z
      exact R.r.dist i j m oi ⟨_, e, .inr ⟨_, _, rfl⟩⟩ hl h1
  · exact ⟨R.g.gg, fun a u e nt => keep a u (ne_of_none e Bl) (R.g.hh a u e nt), sub, R.g.fr, fun t => tabs (R.g.tb t), R.g.nt, fun a ps e => by
      obtain ⟨ps', e2⟩ := R.g.tt a ps e
      exact ⟨ps', keep a _ (ne_of_none e Bl) e2⟩⟩
/-- self.f = e, self in the making -/
theorem evs_selfset (i : Nat) {x f : Str} {e : Expr} {p1 p2 pos : Pos} {z C : Addr} {fs : List (Str × D)} {d : D} (he : EvE L X e S d) (hc : Cls X.K C) (hn : NoAttr X.K C f) (hs : S[i]? = some (.inst (z, C) fs) := by rfl) (hnew : f ∉ fs.map (·.1) := by decide) (hlen : fs.length < 1000 := by decide) (hN : X.N[i]? = some x := by rfl) (hv : Vis X.env.scope x := by first | exact Or.inl rfl | exact Or.inr (Or.inl rfl) | exact Or.inr (Or.inr rfl))
    (hd : (x == ("__debug__" : Str)) = false := by decide) (hcd : (x == ("__classdict__" : Str)) = false := by decide) (hw : swapsWith e (some (.Attribute (.Name x p1) f p2)) pos.line X.env = pure false := by rfl) :
    EvS L X (.Assign [.Attribute (.Name x p1) f p2] e pos) S (.nx (S.set i (.inst (z, C) (fs ++ [(f, d)])))) :=
  PS.imp (ps_fld (pe_var hN hv hd hcd) he hw) fun D σ H ⟨B, G, R, q⟩ => by
    refine ⟨G, R.r, fun G1 H1 v g1 h => ?_⟩
    have R1 := R.grow g1
    obtain ⟨l, dx, vs, h1, h2, h3, h4, h5, h6⟩ := R1.r.inst i (z, C) fs hs
    have hl : vs.length = fs.length := by
      have := congrArg List.length h5
      rwa [List.length_map, List.length_map] at this
    refine ⟨.ref l, h1, l, C, dx, vs, rfl, h2, hc, hn, by rw [hl]; exact hlen, ?_⟩
    rw [putF_new (by rw [h5]; exact hnew)]
    refine q σ _ G1 g1.gg (R1.chgI hs h1 h2 ?_ ?_)
    · rw [List.map_append, List.map_append]
      exact h4.append (.cons h .nil)
    · rw [List.map_append, List.map_append, h5]
      rfl
theorem lookup_of {α β γ : Type} [BEq α] {f : α} {d : β} (Rl : β → γ → Prop) : ∀ {fs : List (α × β)} {vs : List (α × γ)}, vs.map (·.1) = fs.map (·.1) → (∀ (i : Nat) (d : β), (fs.map (·.2))[i]? = some d → ∃ v : γ, (vs.map (·.2))[i]? = some v ∧ Rl d v) → fs.lookup f = some d → ∃ v, vs.lookup f = some v ∧ Rl d v
  | [], _, _, _, e => by cases e
  | (k, d0) :: fs, [], n, _, _ => by cases n
  | (k, d0) :: fs, (k', v0) :: vs, n, h, e => by
    rw [List.map_cons, List.map_cons] at n
    injection n with n1 n2
    have n1 : k' = k := n1
    subst n1
    rw [List.lookup_cons] at e ⊢
    split at e
    · rename_i hb
      cases e
      obtain ⟨v, h1, h2⟩ := h 0 d rfl
      have h1 : some v0 = some v := h1
      cases h1
      exact ⟨v0, rfl, h2⟩
    · exact lookup_of Rl n2 (fun i d e => h (i + 1) d e) e
/-- self.f, self in the making -/
theorem ev_selfget (i : Nat) {x f : Str} {p1 pos : Pos} {z C : Addr} {fs : List (Str × D)} {d : D} (hc : Cls X.K C) (hn : NoAttr X.K C f) (hs : S[i]? = some (.inst (z, C) fs) := by rfl) (hf : fs.lookup f = some d := by rfl) (hN : X.N[i]? = some x := by rfl) (hv : Vis X.env.scope x := by first | exact Or.inl rfl | exact Or.inr (Or.inl rfl) | exact Or.inr (Or.inr rfl))
    (hd : (x == ("__debug__" : Str)) = false := by decide) (hcd : (x == ("__classdict__" : Str)) = false := by decide) (hb : attributeBase (.Name x p1) f X.env (eval (.Name x p1) X.env) = eval (.Name x p1) X.env := by rfl) :
    EvE L X (.Attribute (.Name x p1) f pos) S d :=
  PE.imp (pe_fld (pe_var hN hv hd hcd) hb) fun σ H Q ⟨G, R, q⟩ => by
    obtain ⟨l, dx, vs, h1, h2, h3, h4, h5, h6⟩ := R.inst i (z, C) fs hs
    obtain ⟨v, e1, e2⟩ := lookup_of (f := f) (Is L G) h5 (fun i d e => h4.get e) hf
    exact ⟨.ref l, h1, l, C, dx, vs, v, rfl, h2, hc, hn, e1, q G H v (.refl R.sub) e2⟩
end
end FM
set_option autoImplicit false
namespace FM
open PySem PySem.Spec PyProof.Rows L2 LamX
/-! ## commutative rings from little -/
structure RingD (R : Type) where
  add : R → R → R
  mul : R → R → R
  neg : R → R
  zero : R
  one : R
  add_zero : ∀ a, add a zero = a
  add_comm : ∀ a b, add a b = add b a
  add_assoc : ∀ a b c, add (add a b) c = add a (add b c)
  mul_comm : ∀ a b, mul a b = mul b a
  mul_assoc : ∀ a b c, mul (mul a b) c = mul a (mul b c)
  mul_one : ∀ a, mul a one = a
  distrib : ∀ a b c, mul a (add b c) = add (mul a b) (mul a c)
  zero_mul : ∀ a, mul zero a = zero
  neg_add : ∀ a, add (neg a) a = zero
namespace RingD
variable {R : Type}
def nat (d : RingD R) : Nat → R
  | 0 => d.zero
  | n + 1 => d.add (nat d n) d.one
def pow (d : RingD R) (a : R) : Nat → R
  | 0 => d.one
  | n + 1 => d.mul (pow d a n) a
variable (d : RingD R)
def int : Int → R
  | .ofNat n => d.nat n
  | .negSucc n => d.neg (d.nat (n + 1))
theorem neg_uniq {a b : R} (h : d.add a b = d.zero) : a = d.neg b := by
  have e : d.add (d.add a b) (d.neg b) = d.neg b := by rw [h, d.add_comm, d.add_zero]
  rw [d.add_assoc, d.add_comm b, d.neg_add, d.add_zero] at e
  exact e
theorem neg_neg (a : R) : d.neg (d.neg a) = a := (d.neg_uniq (by rw [d.add_comm]; exact d.neg_add a)).symm
theorem neg_zero : d.neg d.zero = d.zero := (d.neg_uniq (d.add_zero _)).symm
theorem neg_mul (a b : R) : d.mul (d.neg a) b = d.neg (d.mul a b) := by
  apply d.neg_uniq
  rw [d.mul_comm _ b, d.mul_comm a b, ← d.distrib, d.neg_add, d.mul_comm, d.zero_mul]
theorem int_neg (i : Int) : d.int (-i) = d.neg (d.int i) := by
  match i with
  | .ofNat 0 => exact d.neg_zero.symm
  | .ofNat (n + 1) => rfl
  | .negSucc n => exact (d.neg_neg _).symm
@[reducible] def ring : Lean.Grind.CommRing R where
  add := d.add
  mul := d.mul
  neg := d.neg
  sub a b := d.add a (d.neg b)
  natCast := ⟨d.nat⟩
  ofNat n := ⟨d.nat n⟩
  nsmul := ⟨fun n a => d.mul (d.nat n) a⟩
  npow := ⟨fun a n => d.pow a n⟩
  intCast := ⟨d.int⟩
  zsmul := ⟨fun i a => d.mul (d.int i) a⟩
  add_zero := d.add_zero
  add_comm := d.add_comm
  add_assoc := d.add_assoc
  mul_assoc := d.mul_assoc
  mul_one a := by
    show d.mul a (d.nat 1) = a
    rw [nat, nat, d.add_comm, d.add_zero, d.mul_one]
  one_mul a := by
    show d.mul (d.nat 1) a = a
    rw [nat, nat, d.add_comm, d.add_zero, d.mul_comm, d.mul_one]
  left_distrib := d.distrib
  right_distrib a b c := by
    show d.mul (d.add a b) c = d.add (d.mul a c) (d.mul b c)
    rw [d.mul_comm, d.distrib, d.mul_comm c, d.mul_comm c]
  zero_mul := d.zero_mul
  mul_zero a := by
    show d.mul a d.zero = d.zero
    rw [d.mul_comm, d.zero_mul]
  pow_zero a := by
    show d.one = d.nat 1
    rw [nat, nat]
    rw [d.add_comm, d.add_zero]
  pow_succ a n := rfl
  ofNat_succ n := by
    show d.nat (n + 1) = d.add (d.nat n) (d.nat 1)
    rw [nat, nat, nat, d.add_comm d.zero, d.add_zero]
  ofNat_eq_natCast n := rfl
  nsmul_eq_natCast_mul n a := rfl
  neg_add_cancel := d.neg_add
  sub_eq_add_neg a b := rfl
  neg_zsmul i a := by
    show d.mul (d.int (-i)) a = d.neg (d.mul (d.int i) a)
    rw [d.int_neg, d.neg_mul]
  zsmul_natCast_eq_nsmul n a := rfl
  intCast_ofNat n := rfl
  intCast_neg i := d.int_neg i
  mul_comm := d.mul_comm
end RingD
/-- fields -/
class Fd (K : Type) extends Lean.Grind.CommRing K where
  inv : K → K
  mul_inv : ∀ a : K, a ≠ 0 → a * inv a = 1
  one_ne : (1 : K) ≠ 0
  dec : DecidableEq K
instance {K : Type} [Fd K] : DecidableEq K := Fd.dec
/-! ## tables -/
structure FT where
  p : Nat
  n : Nat
  q : Nat
  m : List Int
  add : List (List Nat)
  mul : List (List Nat)
  neg : List Nat
  inv : List Nat
/-- the tables of the fields that the law draws -/
def tabs : List FT := [
  ⟨2, 1, 2, [0, 1], [[0, 1], [1, 0]], [[0, 0], [0, 1]], [0, 1], [0, 1]⟩,
  ⟨2, 1, 2, [1, 1], [[0, 1], [1, 0]], [[0, 0], [0, 1]], [0, 1], [0, 1]⟩,
  ⟨3, 1, 3, [0, 1], [[0, 1, 2], [1, 2, 0], [2, 0, 1]], [[0, 0, 0], [0, 1, 2], [0, 2, 1]], [0, 2, 1], [0, 1, 2]⟩,
  ⟨3, 1, 3, [1, 1], [[0, 1, 2], [1, 2, 0], [2, 0, 1]], [[0, 0, 0], [0, 1, 2], [0, 2, 1]], [0, 2, 1], [0, 1, 2]⟩,
  ⟨3, 1, 3, [2, 1], [[0, 1, 2], [1, 2, 0], [2, 0, 1]], [[0, 0, 0], [0, 1, 2], [0, 2, 1]], [0, 2, 1], [0, 1, 2]⟩,
  ⟨2, 2, 4, [1, 1, 1], [[0, 1, 2, 3], [1, 0, 3, 2], [2, 3, 0, 1], [3, 2, 1, 0]], [[0, 0, 0, 0], [0, 1, 2, 3], [0, 2, 3, 1], [0, 3, 1, 2]], [0, 1, 2, 3], [0, 1, 3, 2]⟩,
  ⟨5, 1, 5, [0, 1], [[0, 1, 2, 3, 4], [1, 2, 3, 4, 0], [2, 3, 4, 0, 1], [3, 4, 0, 1, 2], [4, 0, 1, 2, 3]], [[0, 0, 0, 0, 0], [0, 1, 2, 3, 4], [0, 2, 4, 1, 3], [0, 3, 1, 4, 2], [0, 4, 3, 2, 1]], [0, 4, 3, 2, 1], [0, 1, 3, 2, 4]⟩,
  ⟨5, 1, 5, [1, 1], [[0, 1, 2, 3, 4], [1, 2, 3, 4, 0], [2, 3, 4, 0, 1], [3, 4, 0, 1, 2], [4, 0, 1, 2, 3]], [[0, 0, 0, 0, 0], [0, 1, 2, 3, 4], [0, 2, 4, 1, 3], [0, 3, 1, 4, 2], [0, 4, 3, 2, 1]], [0, 4, 3, 2, 1], [0, 1, 3, 2, 4]⟩,
  ⟨5, 1, 5, [2, 1], [[0, 1, 2, 3, 4], [1, 2, 3, 4, 0], [2, 3, 4, 0, 1], [3, 4, 0, 1, 2], [4, 0, 1, 2, 3]], [[0, 0, 0, 0, 0], [0, 1, 2, 3, 4], [0, 2, 4, 1, 3], [0, 3, 1, 4, 2], [0, 4, 3, 2, 1]], [0, 4, 3, 2, 1], [0, 1, 3, 2, 4]⟩,
  ⟨5, 1, 5, [3, 1], [[0, 1, 2, 3, 4], [1, 2, 3, 4, 0], [2, 3, 4, 0, 1], [3, 4, 0, 1, 2], [4, 0, 1, 2, 3]], [[0, 0, 0, 0, 0], [0, 1, 2, 3, 4], [0, 2, 4, 1, 3], [0, 3, 1, 4, 2], [0, 4, 3, 2, 1]], [0, 4, 3, 2, 1], [0, 1, 3, 2, 4]⟩,
  ⟨5, 1, 5, [4, 1], [[0, 1, 2, 3, 4], [1, 2, 3, 4, 0], [2, 3, 4, 0, 1], [3, 4, 0, 1, 2], [4, 0, 1, 2, 3]], [[0, 0, 0, 0, 0], [0, 1, 2, 3, 4], [0, 2, 4, 1, 3], [0, 3, 1, 4, 2], [0, 4, 3, 2, 1]], [0, 4, 3, 2, 1], [0, 1, 3, 2, 4]⟩,
  ⟨3, 2, 9, [1, 0, 1], [[0, 1, 2, 3, 4, 5, 6, 7, 8], [1, 2, 0, 4, 5, 3, 7, 8, 6], [2, 0, 1, 5, 3, 4, 8, 6, 7], [3, 4, 5, 6, 7, 8, 0, 1, 2], [4, 5, 3, 7, 8, 6, 1, 2, 0], [5, 3, 4, 8, 6, 7, 2, 0, 1], [6, 7, 8, 0, 1, 2, 3, 4, 5], [7, 8, 6, 1, 2, 0, 4, 5, 3], [8, 6, 7, 2, 0, 1, 5, 3, 4]], [[0, 0, 0, 0, 0, 0, 0, 0, 0], [0, 1, 2, 3, 4, 5, 6, 7, 8], [0, 2, 1, 6, 8, 7, 3, 5, 4], [0, 3, 6, 2, 5, 8, 1, 4, 7], [0, 4, 8, 5, 6, 1, 7, 2, 3], [0, 5, 7, 8, 1, 3, 4, 6, 2], [0, 6, 3, 1, 7, 4, 2, 8, 5], [0, 7, 5, 4, 2, 6, 8, 3, 1], [0, 8, 4, 7, 3, 2, 5, 1, 6]], [0, 2, 1, 6, 8, 7, 3, 5, 4], [0, 1, 2, 6, 5, 4, 3, 8, 7]⟩,
  ⟨3, 2, 9, [2, 1, 1], [[0, 1, 2, 3, 4, 5, 6, 7, 8], [1, 2, 0, 4, 5, 3, 7, 8, 6], [2, 0, 1, 5, 3, 4, 8, 6, 7], [3, 4, 5, 6, 7, 8, 0, 1, 2], [4, 5, 3, 7, 8, 6, 1, 2, 0], [5, 3, 4, 8, 6, 7, 2, 0, 1], [6, 7, 8, 0, 1, 2, 3, 4, 5], [7, 8, 6, 1, 2, 0, 4, 5, 3], [8, 6, 7, 2, 0, 1, 5, 3, 4]], [[0, 0, 0, 0, 0, 0, 0, 0, 0], [0, 1, 2, 3, 4, 5, 6, 7, 8], [0, 2, 1, 6, 8, 7, 3, 5, 4], [0, 3, 6, 7, 1, 4, 5, 8, 2], [0, 4, 8, 1, 5, 6, 2, 3, 7], [0, 5, 7, 4, 6, 2, 8, 1, 3], [0, 6, 3, 5, 2, 8, 7, 4, 1], [0, 7, 5, 8, 3, 1, 4, 2, 6], [0, 8, 4, 2, 7, 3, 1, 6, 5]], [0, 2, 1, 6, 8, 7, 3, 5, 4], [0, 1, 2, 4, 3, 7, 8, 5, 6]⟩,
  ⟨2, 3, 8, [1, 1, 0, 1], [[0, 1, 2, 3, 4, 5, 6, 7], [1, 0, 3, 2, 5, 4, 7, 6], [2, 3, 0, 1, 6, 7, 4, 5], [3, 2, 1, 0, 7, 6, 5, 4], [4, 5, 6, 7, 0, 1, 2, 3], [5, 4, 7, 6, 1, 0, 3, 2], [6, 7, 4, 5, 2, 3, 0, 1], [7, 6, 5, 4, 3, 2, 1, 0]], [[0, 0, 0, 0, 0, 0, 0, 0], [0, 1, 2, 3, 4, 5, 6, 7], [0, 2, 4, 6, 3, 1, 7, 5], [0, 3, 6, 5, 7, 4, 1, 2], [0, 4, 3, 7, 6, 2, 5, 1], [0, 5, 1, 4, 2, 7, 3, 6], [0, 6, 7, 1, 5, 3, 2, 4], [0, 7, 5, 2, 1, 6, 4, 3]], [0, 1, 2, 3, 4, 5, 6, 7], [0, 1, 5, 6, 7, 2, 3, 4]⟩]
namespace FT
variable (T : FT)
def ad (a b : Nat) : Nat := (T.add.getD a []).getD b 0
def ml (a b : Nat) : Nat := (T.mul.getD a []).getD b 0
def ng (a : Nat) : Nat := T.neg.getD a 0
def iv (a : Nat) : Nat := T.inv.getD a 0
def e (a : Nat) : List Int := (List.range T.n).map fun i => ((a / T.p ^ i % T.p : Nat) : Int)
def all1 (f : Nat → Bool) : Bool := (List.range T.q).all f
def all2 (f : Nat → Nat → Bool) : Bool := (List.range T.q).all fun a => (List.range T.q).all fun b => f a b
def all3 (f : Nat → Nat → Nat → Bool) : Bool := (List.range T.q).all fun a => (List.range T.q).all fun b => (List.range T.q).all fun c => f a b c
def chk0 : Bool := (T.p == 2 || T.p == 3 || T.p == 5) && decide (1 ≤ T.n) && decide (T.n ≤ 3) && decide (2 ≤ T.q) && decide (T.q ≤ 9) && decide (T.q = T.p ^ T.n)
def chk1 : Bool := T.all2 (fun a b => decide (T.ad a b < T.q) && decide (T.ml a b < T.q) && decide (T.ad a b = T.ad b a) && decide (T.ml a b = T.ml b a)) &&
  T.all1 (fun a => decide (T.ng a < T.q) && decide (T.iv a < T.q) && decide (T.ad a 0 = a) && decide (T.ml a 1 = a) && decide (T.ml 0 a = 0) && decide (T.ad (T.ng a) a = 0) && (decide (a = 0) || decide (T.ml a (T.iv a) = 1)))
def chk2 : Bool := T.all3 fun a b c => decide (T.ad (T.ad a b) c = T.ad a (T.ad b c)) && decide (T.ml (T.ml a b) c = T.ml a (T.ml b c)) && decide (T.ml a (T.ad b c) = T.ad (T.ml a b) (T.ml a c))
end FT
theorem tabs0 : tabs.all FT.chk0 = true := by decide +kernel
theorem tabs1 : tabs.all FT.chk1 = true := by decide +kernel
theorem tabs2 : tabs.all FT.chk2 = true := by decide +kernel
/-- one of them -/
structure FC where
  T : FT
  mem : T ∈ tabs
theorem FC.get (c : FC) {f : FT → Bool} (h : tabs.all f = true) : f c.T = true := List.all_eq_true.mp h _ c.mem
structure Kq (c : FC) where
  v : Nat
  lt : v < c.T.q
theorem Kq.ext {c : FC} {a b : Kq c} (h : a.v = b.v) : a = b := by
  cases a
  cases b
  cases h
  rfl
theorem FT.all1_get {T : FT} {f : Nat → Bool} (h : T.all1 f = true) {a : Nat} (ha : a < T.q) : f a = true := List.all_eq_true.mp h a (List.mem_range.mpr ha)
theorem FT.all2_get {T : FT} {f : Nat → Nat → Bool} (h : T.all2 f = true) {a b : Nat} (ha : a < T.q) (hb : b < T.q) : f a b = true := List.all_eq_true.mp (List.all_eq_true.mp h a (List.mem_range.mpr ha)) b (List.mem_range.mpr hb)
theorem FT.all3_get {T : FT} {f : Nat → Nat → Nat → Bool} (h : T.all3 f = true) {a b c : Nat} (ha : a < T.q) (hb : b < T.q) (hc : c < T.q) : f a b c = true := List.all_eq_true.mp (List.all_eq_true.mp (List.all_eq_true.mp h a (List.mem_range.mpr ha)) b (List.mem_range.mpr hb)) c (List.mem_range.mpr hc)
namespace FC
variable (c : FC)
theorem g0 : (c.T.p = 2 ∨ c.T.p = 3 ∨ c.T.p = 5) ∧ 1 ≤ c.T.n ∧ c.T.n ≤ 3 ∧ 2 ≤ c.T.q ∧ c.T.q ≤ 9 ∧ c.T.q = c.T.p ^ c.T.n := by
  have h := c.get tabs0
  simp only [FT.chk0, Bool.and_eq_true, Bool.or_eq_true, beq_iff_eq, decide_eq_true_eq] at h
  obtain ⟨⟨⟨⟨⟨h1, h2⟩, h3⟩, h4⟩, h5⟩, h6⟩ := h
  exact ⟨by omega, h2, h3, h4, h5, h6⟩
theorem g1 {a b : Nat} (ha : a < c.T.q) (hb : b < c.T.q) : c.T.ad a b < c.T.q ∧ c.T.ml a b < c.T.q ∧ c.T.ad a b = c.T.ad b a ∧ c.T.ml a b = c.T.ml b a := by
  have h := c.get tabs1
  rw [FT.chk1, Bool.and_eq_true] at h
  have h2 := FT.all2_get h.1 ha hb
  simp only [Bool.and_eq_true, decide_eq_true_eq] at h2
  exact ⟨h2.1.1.1, h2.1.1.2, h2.1.2, h2.2⟩
theorem g2 {a : Nat} (ha : a < c.T.q) : c.T.ng a < c.T.q ∧ c.T.iv a < c.T.q ∧ c.T.ad a 0 = a ∧ c.T.ml a 1 = a ∧ c.T.ml 0 a = 0 ∧ c.T.ad (c.T.ng a) a = 0 ∧ (a = 0 ∨ c.T.ml a (c.T.iv a) = 1) := by
  have h := c.get tabs1
  rw [FT.chk1, Bool.and_eq_true] at h
  have h2 := FT.all1_get h.2 ha
  simp only [Bool.and_eq_true, Bool.or_eq_true, decide_eq_true_eq] at h2
  exact ⟨h2.1.1.1.1.1.1, h2.1.1.1.1.1.2, h2.1.1.1.1.2, h2.1.1.1.2, h2.1.1.2, h2.1.2, h2.2⟩
theorem g3 {a b d : Nat} (ha : a < c.T.q) (hb : b < c.T.q) (hd : d < c.T.q) : c.T.ad (c.T.ad a b) d = c.T.ad a (c.T.ad b d) ∧ c.T.ml (c.T.ml a b) d = c.T.ml a (c.T.ml b d) ∧ c.T.ml a (c.T.ad b d) = c.T.ad (c.T.ml a b) (c.T.ml a d) := by
  have h := FT.all3_get (c.get tabs2) ha hb hd
  simp only [Bool.and_eq_true, decide_eq_true_eq] at h
  exact ⟨h.1.1, h.1.2, h.2⟩
theorem q2 : 2 ≤ c.T.q := c.g0.2.2.2.1
theorem q0 : 0 < c.T.q := by have := c.q2; omega
theorem q1 : 1 < c.T.q := c.q2
def ringD : RingD (Kq c) where
  add a b := ⟨c.T.ad a.v b.v, (c.g1 a.lt b.lt).1⟩
  mul a b := ⟨c.T.ml a.v b.v, (c.g1 a.lt b.lt).2.1⟩
  neg a := ⟨c.T.ng a.v, (c.g2 a.lt).1⟩
  zero := ⟨0, c.q0⟩
  one := ⟨1, c.q1⟩
  add_zero a := Kq.ext (c.g2 a.lt).2.2.1
  add_comm a b := Kq.ext (c.g1 a.lt b.lt).2.2.1
  add_assoc a b d := Kq.ext (c.g3 a.lt b.lt d.lt).1
  mul_comm a b := Kq.ext (c.g1 a.lt b.lt).2.2.2
  mul_assoc a b d := Kq.ext (c.g3 a.lt b.lt d.lt).2.1
  mul_one a := Kq.ext (c.g2 a.lt).2.2.2.1
  distrib a b d := Kq.ext (c.g3 a.lt b.lt d.lt).2.2
  zero_mul a := Kq.ext (c.g2 a.lt).2.2.2.2.1
  neg_add a := Kq.ext (c.g2 a.lt).2.2.2.2.2.1
instance (c : FC) : Fd (Kq c) where
  toCommRing := c.ringD.ring
  inv a := ⟨c.T.iv a.v, (c.g2 a.lt).2.1⟩
  mul_inv a h := Kq.ext (by
    rcases (c.g2 a.lt).2.2.2.2.2.2 with z | z
    · exact absurd (Kq.ext z) h
    · show c.T.ml a.v (c.T.iv a.v) = c.T.ad 0 1
      rw [z, (c.g1 c.q0 c.q1).2.2.1, (c.g2 c.q1).2.2.1])
  one_ne h := by
    have e : c.T.ad 0 1 = 0 := congrArg Kq.v h
    rw [(c.g1 c.q0 c.q1).2.2.1, (c.g2 c.q1).2.2.1] at e
    cases e
  dec a b := if h : a.v = b.v then isTrue (Kq.ext h) else isFalse fun z => h (by rw [z])
theorem v_zero : (0 : Kq c).v = 0 := rfl
theorem v_one : (1 : Kq c).v = 1 := by
  show c.T.ad 0 1 = 1
  rw [(c.g1 c.q0 c.q1).2.2.1, (c.g2 c.q1).2.2.1]
theorem v_add (a b : Kq c) : (a + b).v = c.T.ad a.v b.v := rfl
theorem v_mul (a b : Kq c) : (a * b).v = c.T.ml a.v b.v := rfl
theorem v_neg (a : Kq c) : (-a).v = c.T.ng a.v := rfl
end FC
/-! ## the members' tuples -/
/-- the law's own product of members -/
def ltIn (row : List Int) (k n : Nat) (m : List Int) : Nat → List Int
  | 0 => row
  | j + 1 => (ltIn row k n m j).set (k - n + j) ((ltIn row k n m j).getD (k - n + j) 0 - (ltIn row k n m j).getD k 0 * m.getD j 0)
def ltSt (a b m : List Int) (n : Nat) : Nat → List Int
  | 0 => mulOut 0 (· + ·) (· * ·) a b a.length
  | t + 1 => (ltIn (ltSt a b m n t) (2 * n - 1 - t) n m n).set (2 * n - 1 - t) 0
def ltimes (a b m : List Int) (p : Int) (n : Nat) : List Int := ((ltSt a b m n n).take n).map (· % p)
namespace FT
variable (T : FT)
def chk3 : Bool := T.all2 fun a b => (decide (T.e a = T.e b) == decide (a = b)) && decide (((T.e a).zip (T.e b)).map (fun (q : Int × Int) => (q.1 + q.2) % (T.p : Int)) = T.e (T.ad a b)) && decide (mprod (T.e a) (T.e b) T.m T.p = T.e (T.ml a b)) && decide (ltimes (T.e a) (T.e b) T.m T.p T.n = T.e (T.ml a b))
def chk4 : Bool := T.all1 fun a => decide ((T.e a).map (fun (x : Int) => -x % (T.p : Int)) = T.e (T.ng a)) && (decide (a = 0) || (mvOk (T.e a) T.m T.p && decide (minv (T.e a) T.m T.p = T.e (T.iv a)))) && (T.e a).all (fun x => decide (0 ≤ x) && decide (x < T.p))
def chk5 : Bool := okD T.m T.p && irOk T.m T.p && decide (T.m.length = T.n + 1) && (T.m.all fun x => decide (0 ≤ x) && decide (x < T.p)) && decide (lastI T.m = 1)
end FT
theorem tabs3 : tabs.all FT.chk3 = true := by decide +kernel
theorem tabs4 : tabs.all FT.chk4 = true := by decide +kernel
theorem tabs5 : tabs.all FT.chk5 = true := by decide +kernel
namespace FC
variable (c : FC)
def d : FldD := ⟨c.T.p, c.T.n, c.T.q, c.T.m⟩
def e (a : Kq c) : List Int := c.T.e a.v
def eK (a : Kq c) : D := tI (c.e a)
def eR (l : List (Kq c)) : D := .tup (l.map c.eK)
def eL (l : List (Kq c)) : D := .lst (l.map c.eK)
def eP (l : List (Kq c)) : D := .pol c.d (l.map c.e)
theorem g4 (a b : Kq c) : (decide (c.e a = c.e b) = decide (a.v = b.v)) ∧ ((c.e a).zip (c.e b)).map (fun (q : Int × Int) => (q.1 + q.2) % (c.T.p : Int)) = c.e (a + b) ∧ mprod (c.e a) (c.e b) c.T.m c.T.p = c.e (a * b) ∧ ltimes (c.e a) (c.e b) c.T.m c.T.p c.T.n = c.e (a * b) := by
  have h := FT.all2_get (c.get tabs3) a.lt b.lt
  rw [Bool.and_eq_true, Bool.and_eq_true, Bool.and_eq_true, beq_iff_eq] at h
  obtain ⟨⟨⟨h1, h2⟩, h3⟩, h4⟩ := h
  exact ⟨h1, of_decide_eq_true h2, of_decide_eq_true h3, of_decide_eq_true h4⟩
theorem e_inj {a b : Kq c} (h : c.e a = c.e b) : a = b := by
  have q := (c.g4 a b).1
  rw [decide_eq_true h] at q
  exact Kq.ext (of_decide_eq_true q.symm)
theorem e_eq (a b : Kq c) : decide (c.e a = c.e b) = decide (a = b) := by
  by_cases h : a = b
  · subst h
    rw [decide_eq_true rfl, decide_eq_true rfl]
  · rw [decide_eq_false h, decide_eq_false fun z => h (c.e_inj z)]
theorem g5 (a : Kq c) : (c.e a).map (fun (x : Int) => -x % (c.T.p : Int)) = c.e (-a) ∧ (a ≠ 0 → mvOk (c.e a) c.T.m c.T.p = true ∧ minv (c.e a) c.T.m c.T.p = c.e (Fd.inv a)) ∧ ∀ x ∈ c.e a, 0 ≤ x ∧ x < c.T.p := by
  have h := FT.all1_get (c.get tabs4) a.lt
  rw [Bool.and_eq_true, Bool.and_eq_true, List.all_eq_true] at h
  obtain ⟨⟨h1, h2⟩, h3⟩ := h
  refine ⟨of_decide_eq_true h1, fun n => ?_, fun x hx => ?_⟩
  · rw [Bool.or_eq_true] at h2
    rcases h2 with z | z
    · exact absurd (Kq.ext (of_decide_eq_true z)) n
    · rw [Bool.and_eq_true] at z
      exact ⟨z.1, of_decide_eq_true z.2⟩
  · have q := h3 x hx
    rw [Bool.and_eq_true] at q
    exact ⟨of_decide_eq_true q.1, of_decide_eq_true q.2⟩
theorem g6 : okD c.T.m c.T.p = true ∧ irOk c.T.m c.T.p = true ∧ c.T.m.length = c.T.n + 1 ∧ (∀ x ∈ c.T.m, 0 ≤ x ∧ x < c.T.p) ∧ lastI c.T.m = 1 := by
  have h := c.get tabs5
  rw [FT.chk5, Bool.and_eq_true, Bool.and_eq_true, Bool.and_eq_true, Bool.and_eq_true, List.all_eq_true] at h
  obtain ⟨⟨⟨⟨h1, h2⟩, h3⟩, h4⟩, h5⟩ := h
  refine ⟨h1, h2, of_decide_eq_true h3, fun x hx => ?_, of_decide_eq_true h5⟩
  have q := h4 x hx
  rw [Bool.and_eq_true] at q
  exact ⟨of_decide_eq_true q.1, of_decide_eq_true q.2⟩
theorem pp : PP c.d.p := by
  have h := c.g0.1
  show (c.T.p : Int) = 2 ∨ (c.T.p : Int) = 3 ∨ (c.T.p : Int) = 5
  omega
theorem e_len (a : Kq c) : (c.e a).length = c.T.n := by
  unfold e FT.e
  rw [List.length_map, List.length_range]
theorem e_le (a : Kq c) : (c.e a).length ≤ 3 := by rw [e_len]; exact c.g0.2.2.1
theorem e_zero : c.e 0 = List.replicate c.T.n 0 := by
  unfold e FT.e
  rw [v_zero]
  refine List.ext_getElem (by simp) fun i h1 h2 => ?_
  simp
theorem e_one : c.e 1 = 1 :: List.replicate (c.T.n - 1) 0 := by
  have hn := c.g0.2.1
  have hp := c.pp
  have hp2 : 2 ≤ c.T.p := by have := c.g0.1; omega
  unfold e FT.e
  rw [v_one]
  refine List.ext_getElem (by simp; omega) fun i h1 h2 => ?_
  rw [List.getElem_map, List.getElem_range]
  cases i with
  | zero =>
    have : 1 % c.T.p = 1 := Nat.mod_eq_of_lt hp2
    simp [this]
  | succ i =>
    have : 1 / c.T.p ^ (i + 1) = 0 := Nat.div_eq_of_lt (Nat.lt_of_lt_of_le (Nat.one_lt_two_pow_iff.mpr (Nat.succ_ne_zero i)) (Nat.pow_le_pow_left hp2 _))
    simp [this]
/-! ### the members' defs -/
theorem k_sum (a b : Kq c) : R_member_sum [c.eK a, c.eK b, .int c.d.p] (c.eK (a + b)) := by
  have h := R_member_sum.mk (c.e a) (c.e b) c.d.p c.pp.pos (by have := c.e_le a; omega)
  rw [show ((c.e a).zip (c.e b)).map (fun (q : Int × Int) => (q.1 + q.2) % c.d.p) = c.e (a + b) from (c.g4 a b).2.1] at h
  exact h
theorem k_neg (a : Kq c) : R_member_negative [c.eK a, .int c.d.p] (c.eK (-a)) := by
  have h := R_member_negative.mk (c.e a) c.d.p c.pp.pos (by have := c.e_le a; omega)
  rw [show (c.e a).map (fun (x : Int) => -x % c.d.p) = c.e (-a) from (c.g5 a).1] at h
  exact h
theorem k_mul (a b : Kq c) : R_member_product [c.eK a, c.eK b, tI c.d.m, .int c.d.p] (c.eK (a * b)) := by
  have h := R_member_product.mk (c.e a) (c.e b) c.d.m c.d.p c.pp (by have := c.e_le a; omega) (by have := c.e_le b; omega) c.g6.1
  rw [show mprod (c.e a) (c.e b) c.d.m c.d.p = c.e (a * b) from (c.g4 a b).2.2.1] at h
  exact h
theorem k_inv {a : Kq c} (n : a ≠ 0) : R_member_inverse [c.eK a, tI c.d.m, .int c.d.p] (c.eK (Fd.inv a)) := by
  obtain ⟨h1, h2⟩ := (c.g5 a).2.1 n
  have h := R_member_inverse.mk (c.e a) c.d.m c.d.p c.pp h1
  rw [show minv (c.e a) c.d.m c.d.p = c.e (Fd.inv a) from h2] at h
  exact h
theorem nn : (1 : Int) ≤ c.d.n ∧ c.d.n ≤ 3 := by
  have := c.g0.2
  show (1 : Int) ≤ (c.T.n : Int) ∧ (c.T.n : Int) ≤ 3
  omega
theorem k_zero : R_member_of [.tup [], .int c.d.n] (c.eK 0) := by
  have h := R_member_of.mk false [] c.d.n (by have := c.nn; omega) (by decide)
  rw [show ([] : List Int) ++ List.replicate (c.d.n - (([] : List Int).length : Int)).toNat 0 = c.e 0 from by rw [c.e_zero]; show List.replicate ((c.T.n : Int) - 0).toNat 0 = _; congr 1] at h
  exact h
theorem k_one : R_member_of [.tup [.int 1], .int c.d.n] (c.eK 1) := by
  have h := R_member_of.mk false [1] c.d.n (by have := c.nn; omega) (by decide)
  rw [show ([1] : List Int) ++ List.replicate (c.d.n - (([1] : List Int).length : Int)).toNat 0 = c.e 1 from by rw [c.e_one]; show 1 :: List.replicate ((c.T.n : Int) - 1).toNat 0 = _; congr 2; omega] at h
  exact h
theorem k_is (a : Kq c) : R_is_member_row [c.eK a, .int c.d.n, .int c.d.p] (.bl true) :=
  .mk (c.e a) c.d.n c.d.p (by rw [c.e_len]; rfl) (by have := c.e_le a; omega) (c.g5 a).2.2
end FC
end FM
set_option autoImplicit false
namespace FM
/-! ## polynomials over a field -/
section
variable {K : Type} [Fd K]
def co (l : List K) (i : Nat) : K := l.getD i 0
theorem co_nil (i : Nat) : co ([] : List K) i = 0 := rfl
theorem co_zero (x : K) (l : List K) : co (x :: l) 0 = x := rfl
theorem co_succ (x : K) (l : List K) (i : Nat) : co (x :: l) (i + 1) = co l i := rfl
theorem co_out {l : List K} {i : Nat} (h : l.length ≤ i) : co l i = 0 := by
  unfold co
  rw [List.getD_eq_getElem?_getD, List.getElem?_eq_none h]
  rfl
theorem co_map {f : K → K} (h : f 0 = 0) (l : List K) (i : Nat) : co (l.map f) i = f (co l i) := by
  unfold co
  rw [List.getD_eq_getElem?_getD, List.getD_eq_getElem?_getD, List.getElem?_map]
  cases l[i]? with
  | none => exact h.symm
  | some x => rfl
def padd : List K → List K → List K
  | [], b => b
  | a, [] => a
  | x :: a, y :: b => (x + y) :: padd a b
theorem co_padd : ∀ (a b : List K) (i : Nat), co (padd a b) i = co a i + co b i
  | [], b, i => by rw [padd, co_nil]; grind
  | x :: a, [], i => by rw [padd, co_nil]; · grind
                        · intro h; cases h
  | x :: a, y :: b, 0 => by rw [padd, co_zero, co_zero, co_zero]
  | x :: a, y :: b, i + 1 => by rw [padd, co_succ, co_succ, co_succ, co_padd a b i]
def psc (c : K) (l : List K) : List K := l.map (c * ·)
theorem co_psc (c : K) (l : List K) (i : Nat) : co (psc c l) i = c * co l i := co_map (f := (c * ·)) (by grind) l i
def pmul : List K → List K → List K
  | [], _ => []
  | x :: a, b => padd (psc x b) (0 :: pmul a b)
theorem co_pmul0 (x : K) (a b : List K) : co (pmul (x :: a) b) 0 = x * co b 0 := by
  rw [pmul, co_padd, co_psc, co_zero]
  grind
theorem co_pmul1 (x : K) (a b : List K) (i : Nat) : co (pmul (x :: a) b) (i + 1) = x * co b (i + 1) + co (pmul a b) i := by rw [pmul, co_padd, co_psc, co_succ]
def Eqv (a b : List K) : Prop := ∀ i, co a i = co b i
theorem pmul_congr {b b' : List K} (h : Eqv b b') : ∀ a : List K, Eqv (pmul a b) (pmul a b')
  | [], i => rfl
  | x :: a, 0 => by rw [co_pmul0, co_pmul0, h 0]
  | x :: a, i + 1 => by rw [co_pmul1, co_pmul1, h (i + 1), pmul_congr h a i]
theorem pmul_nil : ∀ (a : List K) (i : Nat), co (pmul a []) i = 0
  | [], i => rfl
  | x :: a, 0 => by rw [co_pmul0, co_nil]; grind
  | x :: a, i + 1 => by rw [co_pmul1, co_nil, pmul_nil a i]; grind
theorem pmul_c0 (y : K) : ∀ (a b : List K), co (pmul a (y :: b)) 0 = co a 0 * y
  | [], b => by rw [pmul, co_nil]; grind
  | x :: a, b => by rw [co_pmul0, co_zero, co_zero]
theorem pmul_c1 (y : K) : ∀ (a b : List K) (i : Nat), co (pmul a (y :: b)) (i + 1) = co a (i + 1) * y + co (pmul a b) i
  | [], b, i => by rw [pmul, co_nil, pmul, co_nil]; grind
  | x :: a, b, 0 => by rw [co_pmul1, co_succ, co_succ, pmul_c0, co_pmul0]; grind
  | x :: a, b, i + 1 => by rw [co_pmul1, co_succ, co_succ, pmul_c1 y a b i, co_pmul1]; grind
theorem pmul_comm : ∀ (a b : List K), Eqv (pmul a b) (pmul b a)
  | [], b, i => by rw [pmul_nil]; rfl
  | x :: a, b, 0 => by rw [co_pmul0, pmul_c0]; grind
  | x :: a, b, i + 1 => by rw [co_pmul1, pmul_c1, pmul_comm a b i]; grind
theorem pmul_add (b c : List K) : ∀ (a : List K) (i : Nat), co (pmul a (padd b c)) i = co (pmul a b) i + co (pmul a c) i
  | [], i => by rw [pmul, pmul, pmul, co_nil]; grind
  | x :: a, 0 => by rw [co_pmul0, co_pmul0, co_pmul0, co_padd]; grind
  | x :: a, i + 1 => by rw [co_pmul1, co_pmul1, co_pmul1, co_padd, pmul_add b c a i]; grind
theorem padd_pmul (a b c : List K) (i : Nat) : co (pmul (padd a b) c) i = co (pmul a c) i + co (pmul b c) i := by rw [pmul_comm, pmul_add, pmul_comm c a, pmul_comm c b]
theorem psc_pmul (y : K) (b : List K) : ∀ (a : List K) (i : Nat), co (pmul (psc y a) b) i = y * co (pmul a b) i
  | [], i => by rw [psc, List.map_nil, pmul, co_nil]; grind
  | x :: a, 0 => by
    rw [show psc y (x :: a) = (y * x) :: psc y a from rfl, co_pmul0, co_pmul0]
    grind
  | x :: a, i + 1 => by
    rw [show psc y (x :: a) = (y * x) :: psc y a from rfl, co_pmul1, co_pmul1, psc_pmul y b a i]
    grind
theorem pmul_assoc (b c : List K) : ∀ (a : List K) (i : Nat), co (pmul (pmul a b) c) i = co (pmul a (pmul b c)) i
  | [], i => rfl
  | x :: a, 0 => by
    rw [pmul, padd_pmul, psc_pmul, co_pmul0, co_pmul0]
    grind
  | x :: a, i + 1 => by
    rw [pmul, padd_pmul, psc_pmul, co_pmul1, co_pmul1, pmul_assoc b c a i]
    grind
/-- no zero at the end -/
def nz (l : List K) : Prop := ∀ x, l[l.length - 1]? = some x → x ≠ 0
def isK (x : K) : Bool := decide (x = 0)
def trK (l : List K) : List K := dropZ isK l
theorem zc_nz (l : List K) : nz (trK l) := fun x h => by
  unfold trK dropZ at h
  have hle := zc_le isK l
  by_cases hz : zc isK l < l.length
  · obtain ⟨y, h1, h2⟩ := zc_at hz
    have hl : (l.take (l.length - zc isK l)).length = l.length - zc isK l := by rw [List.length_take]; omega
    rw [hl, List.getElem?_take, if_pos (by omega)] at h
    rw [show l.length - zc isK l - 1 = l.length - 1 - zc isK l from by omega, h1] at h
    cases h
    exact of_decide_eq_false h2
  · rw [show l.length - zc isK l = 0 from by omega] at h
    cases h
theorem co_trK (l : List K) (i : Nat) : co (trK l) i = co l i := by
  unfold trK dropZ co
  rw [List.getD_eq_getElem?_getD, List.getD_eq_getElem?_getD, List.getElem?_take]
  split
  · rfl
  · rename_i h
    by_cases hi : i < l.length
    · have hz : l.length - 1 - i < zc isK l := by omega
      obtain ⟨x, h1, h2⟩ := zc_lt hz
      rw [show l.length - 1 - (l.length - 1 - i) = i from by omega] at h1
      rw [h1]
      exact (of_decide_eq_true h2).symm
    · rw [List.getElem?_eq_none (by omega)]
theorem nz_len {a b : List K} (ha : nz a) (h : Eqv a b) : a.length ≤ b.length := by
  by_cases q : a.length ≤ b.length
  · exact q
  · have hl : a.length - 1 < a.length := by omega
    have e := List.getElem?_eq_getElem hl
    have z := h (a.length - 1)
    rw [co_out (l := b) (by omega)] at z
    unfold co at z
    rw [List.getD_eq_getElem?_getD, e] at z
    exact absurd z (ha _ e)
theorem nz_ext {a b : List K} (ha : nz a) (hb : nz b) (h : Eqv a b) : a = b := by
  have h1 := nz_len ha h
  have h2 := nz_len hb fun i => (h i).symm
  refine List.ext_getElem? fun i => ?_
  by_cases hi : i < a.length
  · have z := h i
    unfold co at z
    rw [List.getD_eq_getElem?_getD, List.getD_eq_getElem?_getD, List.getElem?_eq_getElem hi, List.getElem?_eq_getElem (by omega)] at z
    rw [List.getElem?_eq_getElem hi, List.getElem?_eq_getElem (by omega)]
    exact congrArg some z
  · rw [List.getElem?_eq_none (by omega), List.getElem?_eq_none (by omega)]
theorem trK_nz {l : List K} (h : nz l) : trK l = l := nz_ext (zc_nz l) h (co_trK l)
end
structure Pol (K : Type) [Fd K] where
  l : List K
  ok : nz l
section
variable {K : Type} [Fd K]
/-- the coefficients -/
def Pol.c (a : Pol K) (i : Nat) : K := co a.l i
theorem Pol.ext {a b : Pol K} (h : ∀ i, a.c i = b.c i) : a = b := by
  cases a with
  | mk l hl =>
    cases b with
    | mk m hm =>
      have e : l = m := nz_ext hl hm h
      subst e
      rfl
def mkP (l : List K) : Pol K := ⟨trK l, zc_nz l⟩
theorem mkP_c (l : List K) (i : Nat) : (mkP l).c i = co l i := co_trK l i
theorem mkP_l (a : Pol K) : mkP a.l = a := Pol.ext fun i => mkP_c _ _
theorem mkP_of {l m : List K} (h : Eqv l m) : mkP l = mkP m := Pol.ext fun i => by rw [mkP_c, mkP_c, h i]
theorem mkP_eq {l : List K} {a : Pol K} (h : ∀ i, co l i = a.c i) : mkP l = a := Pol.ext fun i => by rw [mkP_c, h i]
theorem pmul_mk (a b : List K) : Eqv (pmul (trK a) (trK b)) (pmul a b) := fun i => by
  rw [pmul_congr (co_trK b), pmul_comm, pmul_congr (co_trK a), pmul_comm]
def polD : RingD (Pol K) where
  add a b := mkP (padd a.l b.l)
  mul a b := mkP (pmul a.l b.l)
  neg a := mkP (a.l.map (- ·))
  zero := ⟨[], fun x h => by cases h⟩
  one := mkP [1]
  add_zero a := Pol.ext fun i => by rw [mkP_c, co_padd, co_nil]; show co a.l i + 0 = co a.l i; grind
  add_comm a b := mkP_of fun i => by rw [co_padd, co_padd]; grind
  add_assoc a b c := mkP_of fun i => by
    rw [co_padd, co_padd, show co (mkP (padd a.l b.l)).l i = _ from mkP_c _ i, show co (mkP (padd b.l c.l)).l i = _ from mkP_c _ i, co_padd, co_padd]
    grind
  mul_comm a b := mkP_of fun i => pmul_comm _ _ i
  mul_assoc a b c := mkP_of fun i => by
    show co (pmul (trK (pmul a.l b.l)) c.l) i = co (pmul a.l (trK (pmul b.l c.l))) i
    rw [pmul_congr (co_trK _), pmul_comm, pmul_congr (co_trK _), pmul_comm, pmul_assoc]
  mul_one a := Pol.ext fun i => by
    rw [mkP_c]
    show co (pmul a.l (trK [1])) i = co a.l i
    rw [pmul_congr (co_trK _), pmul_comm]
    cases i with
    | zero => rw [co_pmul0]; grind
    | succ i => rw [co_pmul1, pmul, co_nil]; grind
  distrib a b c := mkP_of fun i => by
    rw [co_padd, show co (mkP (pmul a.l b.l)).l i = _ from mkP_c _ i, show co (mkP (pmul a.l c.l)).l i = _ from mkP_c _ i, ← pmul_add]
    exact pmul_congr (co_trK _) _ i
  zero_mul a := Pol.ext fun i => by rw [mkP_c]; rfl
  neg_add a := Pol.ext fun i => by
    rw [mkP_c, co_padd, show co (mkP (a.l.map (- ·))).l i = _ from mkP_c _ i, co_map (by grind)]
    show -(co a.l i) + co a.l i = co [] i
    rw [co_nil]
    grind
instance : Lean.Grind.CommRing (Pol K) := polD.ring
namespace Pol
theorem c_add (a b : Pol K) (i : Nat) : (a + b).c i = a.c i + b.c i := (mkP_c _ i).trans (co_padd ..)
theorem c_neg (a : Pol K) (i : Nat) : (-a).c i = -a.c i := (mkP_c _ i).trans (co_map (by grind) _ _)
theorem c_sub (a b : Pol K) (i : Nat) : (a - b).c i = a.c i - b.c i := by
  rw [show a - b = a + -b from by grind, c_add, c_neg]
  grind
theorem c_zero (i : Nat) : (0 : Pol K).c i = 0 := rfl
theorem one_eq : (1 : Pol K) = mkP [1] := Pol.ext fun i => by
  show (RingD.add (polD (K := K)) polD.zero polD.one).c i = _
  rw [polD.add_comm, polD.add_zero]
  rfl
theorem c_one0 : (1 : Pol K).c 0 = 1 := by rw [one_eq, mkP_c]; rfl
theorem c_one1 (i : Nat) : (1 : Pol K).c (i + 1) = 0 := by rw [one_eq, mkP_c]; rfl
theorem mul_l (a b : Pol K) : a * b = mkP (pmul a.l b.l) := rfl
theorem mk_mul (a b : List K) : mkP a * mkP b = mkP (pmul a b) := mkP_of (pmul_mk a b)
theorem mk_add (a b : List K) : mkP a + mkP b = mkP (padd a b) := Pol.ext fun i => by rw [c_add, mkP_c, mkP_c, mkP_c, co_padd]
/-- a constant -/
def C (x : K) : Pol K := mkP [x]
/-- the variable -/
def X : Pol K := mkP [0, 1]
theorem c_C0 (x : K) : (C x).c 0 = x := by rw [C, mkP_c]; rfl
theorem c_C1 (x : K) (i : Nat) : (C x).c (i + 1) = 0 := by rw [C, mkP_c]; rfl
theorem c_Cmul (x : K) (a : Pol K) (i : Nat) : (C x * a).c i = x * a.c i := by
  rw [← mkP_l a, C, mk_mul, mkP_c, mkP_c]
  cases i with
  | zero => rw [co_pmul0]
  | succ i => rw [co_pmul1, pmul, co_nil]; grind
theorem c_Xmul0 (a : Pol K) : (X * a).c 0 = 0 := by
  rw [← mkP_l a, X, mk_mul, mkP_c, co_pmul0]; grind
theorem c_Xmul1 (a : Pol K) (i : Nat) : (X * a).c (i + 1) = a.c i := by
  rw [← mkP_l a, X, mk_mul, mkP_c, mkP_c, co_pmul1]
  cases i with
  | zero => rw [co_pmul0]; grind
  | succ i => rw [co_pmul1, pmul, co_nil]; grind
theorem C_zero : C (0 : K) = 0 := Pol.ext fun i => by cases i with
  | zero => rw [c_C0]; rfl
  | succ i => rw [c_C1]; rfl
theorem C_one : C (1 : K) = 1 := one_eq.symm
theorem C_add (x y : K) : C (x + y) = C x + C y := Pol.ext fun i => by cases i with
  | zero => rw [c_add, c_C0, c_C0, c_C0]
  | succ i => rw [c_add, c_C1, c_C1, c_C1]; grind
theorem C_mul (x y : K) : C (x * y) = C x * C y := Pol.ext fun i => by cases i with
  | zero => rw [c_Cmul, c_C0, c_C0]
  | succ i => rw [c_Cmul, c_C1, c_C1]; grind
theorem C_neg (x : K) : C (-x) = -C x := Pol.ext fun i => by cases i with
  | zero => rw [c_neg, c_C0, c_C0]
  | succ i => rw [c_neg, c_C1, c_C1]; grind
theorem C_inj {x y : K} (h : C x = C y) : x = y := by rw [← c_C0 x, h, c_C0]
/-- cons -/
theorem mk_cons (x : K) (l : List K) : mkP (x :: l) = C x + X * mkP l := Pol.ext fun i => by
  cases i with
  | zero => rw [mkP_c, c_add, c_C0, c_Xmul0, co_zero]; grind
  | succ i => rw [mkP_c, c_add, c_C1, c_Xmul1, co_succ, mkP_c]; grind
theorem mk_nil : mkP ([] : List K) = 0 := Pol.ext fun i => by rw [mkP_c]; rfl
/-- the number of coefficients -/
def len (a : Pol K) : Nat := a.l.length
theorem c_out {a : Pol K} {i : Nat} (h : a.len ≤ i) : a.c i = 0 := co_out h
theorem c_top {a : Pol K} (h : a ≠ 0) : a.c (a.len - 1) ≠ 0 := by
  cases e : a.l with
  | nil => exact absurd (Pol.ext fun i => by show co a.l i = 0; rw [e]; rfl) h
  | cons x r =>
    have hl : a.l.length - 1 < a.l.length := by rw [e]; simp
    have q := List.getElem?_eq_getElem hl
    have n := a.ok _ q
    show co a.l (a.l.length - 1) ≠ 0
    unfold co
    rw [List.getD_eq_getElem?_getD, q]
    exact n
theorem len_zero : (0 : Pol K).len = 0 := rfl
theorem len_pos {a : Pol K} (h : a ≠ 0) : 0 < a.len := by
  rcases Nat.eq_zero_or_pos a.len with z | z
  · exact absurd (Pol.ext fun i => by rw [c_out (by omega)]; rfl) h
  · exact z
theorem len_le {a : Pol K} {n : Nat} (h : ∀ i, n ≤ i → a.c i = 0) : a.len ≤ n := by
  by_cases z : a = 0
  · rw [z, len_zero]; omega
  · by_cases q : a.len ≤ n
    · exact q
    · exact absurd (h (a.len - 1) (by omega)) (c_top z)
theorem lt_len {a : Pol K} {i : Nat} (h : a.c i ≠ 0) : i < a.len := by
  by_cases q : a.len ≤ i
  · exact absurd (c_out q) h
  · omega
theorem eq_zero_of_len {a : Pol K} (h : a.len = 0) : a = 0 := by
  by_cases z : a = 0
  · exact z
  · exact absurd h (by have := len_pos z; omega)
theorem mk_len (l : List K) : (mkP l).len ≤ l.length := dropZ_len _ _
/-- leading coefficient -/
def lc (a : Pol K) : K := a.c (a.len - 1)
theorem noz {a b : K} (ha : a ≠ 0) (hb : b ≠ 0) : a * b ≠ 0 := fun h => by
  have e := Fd.mul_inv a ha
  have : b = Fd.inv a * (a * b) := by grind
  rw [h] at this
  exact hb (by grind)
theorem c_mul_top (a b : List K) : co (pmul a b) (a.length - 1 + (b.length - 1)) = co a (a.length - 1) * co b (b.length - 1) := by
  induction a with
  | nil => rw [pmul, co_nil, co_nil]; grind
  | cons x a ih =>
    cases a with
    | nil =>
      show co (pmul [x] b) (0 + (b.length - 1)) = x * _
      rw [Nat.zero_add]
      cases b.length - 1 with
      | zero => rw [co_pmul0]
      | succ i => rw [co_pmul1, pmul, co_nil]; grind
    | cons y a =>
      show co (pmul (x :: y :: a) b) (a.length + 1 + (b.length - 1)) = co (y :: a) a.length * _
      rw [show a.length + 1 + (b.length - 1) = a.length + (b.length - 1) + 1 from by omega, co_pmul1]
      have ih' : co (pmul (y :: a) b) (a.length + (b.length - 1)) = co (y :: a) a.length * co b (b.length - 1) := ih
      rw [ih', co_out (l := b) (by omega)]
      grind
theorem c_mul_out (b : List K) : ∀ (a : List K) (i : Nat), a.length + b.length ≤ i + 1 → co (pmul a b) i = 0
  | [], i, h => rfl
  | x :: a, 0, h => by
    rw [co_pmul0, co_out (l := b) (by simp at h; omega)]
    grind
  | x :: a, i + 1, h => by
    rw [List.length_cons] at h
    by_cases hb : b = []
    · subst hb
      exact pmul_nil _ _
    · have := List.length_pos_iff.mpr hb
      rw [co_pmul1, c_mul_out b a i (by omega), co_out (l := b) (by omega)]
      grind
theorem mul_ne {a b : Pol K} (ha : a ≠ 0) (hb : b ≠ 0) : a * b ≠ 0 := fun h => by
  have e : (a * b).c (a.len - 1 + (b.len - 1)) = a.lc * b.lc := by
    rw [mul_l, mkP_c]
    exact c_mul_top a.l b.l
  rw [h] at e
  exact noz (c_top ha) (c_top hb) e.symm
theorem len_mul {a b : Pol K} (ha : a ≠ 0) (hb : b ≠ 0) : (a * b).len = a.len + b.len - 1 := by
  have h1 := len_pos ha
  have h2 := len_pos hb
  have e : (a * b).c (a.len - 1 + (b.len - 1)) = a.lc * b.lc := by
    rw [mul_l, mkP_c]
    exact c_mul_top a.l b.l
  have g := lt_len (a := a * b) (by rw [e]; exact noz (c_top ha) (c_top hb))
  have u : (a * b).len ≤ a.len + b.len - 1 := len_le fun i hi => by
    rw [mul_l, mkP_c]
    have h3 : a.l.length = a.len := rfl
    have h4 : b.l.length = b.len := rfl
    exact c_mul_out b.l a.l i (by omega)
  omega
theorem lc_mul {a b : Pol K} (ha : a ≠ 0) (hb : b ≠ 0) : (a * b).lc = a.lc * b.lc := by
  have h1 := len_pos ha
  have h2 := len_pos hb
  unfold lc
  rw [len_mul ha hb, show a.len + b.len - 1 - 1 = a.len - 1 + (b.len - 1) from by omega, mul_l, mkP_c]
  exact c_mul_top a.l b.l
theorem one_ne0 : (1 : Pol K) ≠ 0 := fun h => by
  have e : (1 : Pol K).c 0 = 0 := by rw [h]; rfl
  rw [c_one0] at e
  exact Fd.one_ne e
theorem len_one : (1 : Pol K).len = 1 := by
  have := len_pos (one_ne0 (K := K))
  have : (1 : Pol K).len ≤ 1 := len_le fun i hi => by
    cases i with
    | zero => omega
    | succ i => exact c_one1 i
  omega
theorem cancel {a b c : Pol K} (h : a ≠ 0) (e : a * b = a * c) : b = c := by
  by_cases z : b - c = 0
  · grind
  · exact absurd (show a * (b - c) = 0 by grind) (mul_ne h z)
end Pol
end
end FM
set_option autoImplicit false
namespace FM
open Pol
section
variable {K : Type} [Fd K]
/-! ## the rows' operations -/
theorem co_set {l : List K} {i : Nat} (h : i < l.length) (x : K) (j : Nat) : co (l.set i x) j = if i = j then x else co l j := by
  unfold co
  rw [List.getD_eq_getElem?_getD, List.getD_eq_getElem?_getD, List.getElem?_set]
  split
  · rename_i e
    subst e
    first | rfl | (rw [if_pos h]; rfl)
  · rfl
theorem co_rep (n i : Nat) : co (List.replicate n (0 : K)) i = 0 := by
  unfold co
  rw [List.getD_eq_getElem?_getD, List.getElem?_replicate]
  split <;> rfl
theorem co_append (a b : List K) (i : Nat) : co (a ++ b) i = if i < a.length then co a i else co b (i - a.length) := by
  unfold co
  rw [List.getD_eq_getElem?_getD, List.getD_eq_getElem?_getD, List.getD_eq_getElem?_getD]
  split
  · rename_i h
    rw [List.getElem?_append_left h]
  · rename_i h
    rw [List.getElem?_append_right (by omega)]
theorem co_pad (a : List K) (n i : Nat) : co (a ++ List.replicate n 0) i = co a i := by
  rw [co_append]
  split
  · rfl
  · rename_i h
    rw [co_rep, co_out (by omega)]
def addL (a b : List K) : List K := ((a ++ List.replicate (b.length - a.length) 0).zip (b ++ List.replicate (a.length - b.length) 0)).map fun (q : K × K) => q.1 + q.2
theorem co_zipadd : ∀ (a b : List K) (i : Nat), a.length = b.length → co ((a.zip b).map fun (q : K × K) => q.1 + q.2) i = co a i + co b i
  | [], b, i, h => by
    cases b with
    | nil => show (0 : K) = 0 + 0; grind
    | cons y b => cases h
  | x :: a, [], i, h => by cases h
  | x :: a, y :: b, 0, h => rfl
  | x :: a, y :: b, i + 1, h => co_zipadd a b i (Nat.succ.inj h)
theorem co_addL (a b : List K) (i : Nat) : co (addL a b) i = co a i + co b i := by
  unfold addL
  rw [co_zipadd _ _ _ (by simp; omega), co_pad, co_pad]
theorem addL_P (a b : Pol K) : mkP (addL a.l b.l) = a + b := mkP_eq fun i => by rw [co_addL, c_add]; rfl
theorem subL_P (a b : Pol K) : mkP (addL a.l (b.l.map (- ·))) = a - b := mkP_eq fun i => by
  rw [co_addL, co_map (by grind), c_sub]
  show co a.l i + -co b.l i = co a.l i - co b.l i
  grind
theorem c_Xpow (a : Pol K) : ∀ (k i : Nat), (X ^ k * a).c i = if k ≤ i then a.c (i - k) else 0
  | 0, i => by
    rw [if_pos (Nat.zero_le i), show (X : Pol K) ^ 0 * a = a from by grind]
    rfl
  | k + 1, 0 => by
    rw [show (X : Pol K) ^ (k + 1) * a = X * (X ^ k * a) from by grind, c_Xmul0, if_neg (by omega)]
  | k + 1, i + 1 => by
    rw [show (X : Pol K) ^ (k + 1) * a = X * (X ^ k * a) from by grind, c_Xmul1, c_Xpow a k i]
    by_cases h : k ≤ i
    · rw [if_pos h, if_pos (by omega), show i + 1 - (k + 1) = i - k from by omega]
    · rw [if_neg h, if_neg (by omega)]
def mulL (a b : List K) : List K := mulOut 0 (· + ·) (· * ·) a b a.length
theorem co_mulIn {out : List K} {i : Nat} {x : K} {b : List K} (n : Nat) (h : i + n ≤ out.length) (j : Nat) : co (mulIn 0 (· + ·) (· * ·) out i x b n) j = co out j + if i ≤ j ∧ j < i + n then x * co b (j - i) else 0 := by
  induction n with
  | zero =>
    rw [mulIn, if_neg (by omega)]
    grind
  | succ n ih =>
    rw [mulIn, co_set (by rw [mulIn_len]; omega)]
    have ih := ih (by omega)
    split
    · rename_i e
      subst e
      show co (mulIn 0 (· + ·) (· * ·) out i x b n) (i + n) + x * co b n = _
      rw [ih, if_neg (by omega), if_pos (by omega), show i + n - i = n from by omega]
      grind
    · rename_i e
      rw [ih]
      by_cases hj : i ≤ j ∧ j < i + n
      · rw [if_pos hj, if_pos (by omega)]
      · rw [if_neg hj, if_neg (by omega)]
theorem co_cxm (x : K) (i : Nat) (b : List K) (j : Nat) : (C x * (X ^ i * mkP b)).c j = if i ≤ j ∧ j < i + b.length then x * co b (j - i) else 0 := by
  rw [c_Cmul, c_Xpow]
  by_cases h : i ≤ j
  · rw [if_pos h, mkP_c]
    by_cases h2 : j < i + b.length
    · rw [if_pos ⟨h, h2⟩]
    · rw [if_neg (by omega), co_out (by omega)]
      grind
  · rw [if_neg h, if_neg (by omega)]
    grind
theorem mk_take (a : List K) {i : Nat} (h : i < a.length) : mkP (a.take (i + 1)) = mkP (a.take i) + C (co a i) * X ^ i := Pol.ext fun j => by
  rw [c_add, mkP_c, mkP_c, show (X : Pol K) ^ i = X ^ i * 1 from by grind, c_Cmul, c_Xpow]
  have ct : ∀ n, co (a.take n) j = if j < n then co a j else 0 := fun n => by
    unfold co
    rw [List.getD_eq_getElem?_getD, List.getElem?_take]
    split
    · rw [List.getD_eq_getElem?_getD]
    · rfl
  rw [ct, ct]
  by_cases h1 : j < i
  · rw [if_pos h1, if_pos (by omega), if_neg (by omega)]
    grind
  · by_cases h2 : j = i
    · subst h2
      rw [if_pos (by omega), if_neg h1, if_pos (Nat.le_refl _), Nat.sub_self, c_one0]
      grind
    · rw [if_neg (by omega), if_neg h1, if_pos (by omega), show j - i = (j - i - 1) + 1 from by omega, c_one1]
      grind
theorem mulOut_P (a b : List K) : ∀ i, i ≤ a.length → mkP (mulOut 0 (· + ·) (· * ·) a b i) = mkP (a.take i) * mkP b
  | 0, _ => by
    rw [List.take_zero, mk_nil, mulOut]
    rw [show (0 : Pol K) * mkP b = 0 from by grind]
    exact mkP_eq fun i => co_rep _ _
  | i + 1, h => by
    rw [mk_take a (by omega), mulOut]
    have ih := mulOut_P a b i (by omega)
    rw [show (mkP (a.take i) + C (co a i) * X ^ i) * mkP b = mkP (a.take i) * mkP b + C (co a i) * (X ^ i * mkP b) from by grind, ← ih]
    refine mkP_eq fun j => ?_
    rw [co_mulIn _ (by rw [mulOut_len]; omega), c_add, mkP_c, co_cxm]
    rfl
theorem mulL_P (a b : List K) : mkP (mulL a b) = mkP a * mkP b := by
  unfold mulL
  rw [mulOut_P a b _ (Nat.le_refl _), List.take_length]
/-! ### division -/
def divL (a b : List K) : List K × List K := divSt 0 (· * ·) (fun r f y => r + -(f * y)) a b (Fd.inv (co b (b.length - 1))) (a.length + 1 - b.length) (a.length + 1 - b.length)
theorem co_divIn {rest : List K} {k : Nat} {f : K} {b : List K} (n : Nat) (h : k + n ≤ rest.length) (j : Nat) : co (divIn 0 (fun r f y => r + -(f * y)) rest k f b n) j = co rest j - if k ≤ j ∧ j < k + n then f * co b (j - k) else 0 := by
  induction n with
  | zero =>
    rw [divIn, if_neg (by omega)]
    grind
  | succ n ih =>
    rw [divIn, co_set (by rw [divIn_len]; omega)]
    have ih := ih (by omega)
    split
    · rename_i e
      subst e
      show co (divIn 0 (fun r f y => r + -(f * y)) rest k f b n) (k + n) + -(f * co b n) = _
      rw [ih, if_neg (by omega), if_pos (by omega), show k + n - k = n from by omega]
      grind
    · rename_i e
      rw [ih]
      by_cases hj : k ≤ j ∧ j < k + n
      · rw [if_pos hj, if_pos (by omega)]
      · rw [if_neg hj, if_neg (by omega)]
theorem divSt_P {a b : List K} (hb : co b (b.length - 1) ≠ 0) (hb0 : b ≠ []) : ∀ t, t ≤ a.length + 1 - b.length →
    ∃ q r, divSt 0 (· * ·) (fun r f y => r + -(f * y)) a b (Fd.inv (co b (b.length - 1))) (a.length + 1 - b.length) t = (q, r) ∧ q.length = a.length + 1 - b.length ∧ r.length = a.length ∧ mkP a = mkP q * mkP b + mkP r ∧ (∀ j, a.length + 1 - b.length - t + (b.length - 1) ≤ j → co r j = 0) ∧ ∀ j, j < a.length + 1 - b.length - t → co q j = 0
  | 0, _ => by
    have := List.length_pos_iff.mpr hb0
    refine ⟨_, _, rfl, List.length_replicate .., rfl, ?_, fun j hj => co_out (by omega), fun j _ => co_rep _ _⟩
    rw [show mkP (List.replicate (a.length + 1 - b.length) (0 : K)) = 0 from mkP_eq fun i => co_rep _ _]
    grind
  | t + 1, ht => by
    obtain ⟨q, r, e, lq, lr, h1, h2, h3⟩ := divSt_P (a := a) hb hb0 t (by omega)
    have := List.length_pos_iff.mpr hb0
    rw [divSt, e]
    dsimp only
    have hk : a.length + 1 - b.length - 1 - t + b.length ≤ r.length := by omega
    refine ⟨_, _, rfl, by rw [List.length_set, lq], by rw [divIn_len, lr], ?_, fun j hj => ?_, fun j hj => ?_⟩
    · have q2 : ∀ f, mkP (q.set (a.length + 1 - b.length - 1 - t) f) = mkP q + C f * X ^ (a.length + 1 - b.length - 1 - t) := fun f => Pol.ext fun j => by
        rw [mkP_c, co_set (l := q) (by omega), c_add, mkP_c, show (X : Pol K) ^ (a.length + 1 - b.length - 1 - t) = X ^ (a.length + 1 - b.length - 1 - t) * 1 from by grind, c_Cmul, c_Xpow]
        by_cases z : a.length + 1 - b.length - 1 - t = j
        · rw [if_pos z, if_pos (by omega), h3 j (by omega), show j - (a.length + 1 - b.length - 1 - t) = 0 from by omega, c_one0]
          grind
        · rw [if_neg z]
          by_cases z2 : a.length + 1 - b.length - 1 - t ≤ j
          · rw [if_pos z2, show j - (a.length + 1 - b.length - 1 - t) = (j - (a.length + 1 - b.length - 1 - t) - 1) + 1 from by omega, c_one1]
            grind
          · rw [if_neg z2]
            grind
      have r2 : ∀ f, mkP (divIn 0 (fun r f y => r + -(f * y)) r (a.length + 1 - b.length - 1 - t) f b b.length) = mkP r - C f * (X ^ (a.length + 1 - b.length - 1 - t) * mkP b) := fun f => Pol.ext fun j => by
        rw [mkP_c, co_divIn _ hk, c_sub, mkP_c, co_cxm]
      rw [q2, r2, h1]
      grind
    · rw [co_divIn _ hk]
      by_cases z : j = a.length + 1 - b.length - 1 - t + (b.length - 1)
      · subst z
        rw [if_pos (by omega), show a.length + 1 - b.length - 1 - t + (b.length - 1) - (a.length + 1 - b.length - 1 - t) = b.length - 1 from by omega]
        have e1 := Fd.mul_inv _ hb
        show co r _ - co r (a.length + 1 - b.length - 1 - t + (b.length - 1)) * Fd.inv (co b (b.length - 1)) * co b (b.length - 1) = 0
        grind
      · rw [h2 j (by omega), if_neg (by omega)]
        grind
    · rw [co_set (l := q) (by omega), if_neg (by omega)]
      exact h3 j (by omega)
end
namespace Pol
variable {K : Type} [Fd K]
def quo (a b : Pol K) : Pol K := mkP (divL a.l b.l).1
def rem (a b : Pol K) : Pol K := mkP (divL a.l b.l).2
theorem ne_nil {b : Pol K} (h : b ≠ 0) : b.l ≠ [] := fun z => by
  have := len_pos h
  unfold len at this
  rw [z] at this
  exact absurd this (Nat.lt_irrefl 0)
theorem div_spec (a : Pol K) {b : Pol K} (h : b ≠ 0) : a = quo a b * b + rem a b ∧ (rem a b).len < b.len := by
  obtain ⟨q, r, e, lq, lr, h1, h2, h3⟩ := divSt_P (a := a.l) (b := b.l) (c_top h) (ne_nil h) (a.l.length + 1 - b.l.length) (Nat.le_refl _)
  have hl := len_pos h
  unfold quo rem divL
  rw [e]
  rw [mkP_l, mkP_l] at h1
  refine ⟨h1, ?_⟩
  have : (mkP r).len ≤ b.len - 1 := len_le fun i hi => by
    rw [mkP_c]
    exact h2 i (by have : b.l.length = b.len := rfl; omega)
  show (mkP r).len < b.len
  omega
theorem len_neg (a : Pol K) : (-a).len = a.len := by
  have h1 : (-a).len ≤ a.len := len_le fun i hi => by
    rw [c_neg, c_out hi]
    grind
  have h2 : (- -a).len ≤ (-a).len := len_le fun i hi => by
    rw [c_neg, c_out hi]
    grind
  rw [show - -a = a from by grind] at h2
  omega
theorem len_add_le (a b : Pol K) {n : Nat} (ha : a.len ≤ n) (hb : b.len ≤ n) : (a + b).len ≤ n := len_le fun i hi => by
  rw [c_add, c_out (by omega), c_out (by omega)]
  grind
theorem len_sub_le (a b : Pol K) {n : Nat} (ha : a.len ≤ n) (hb : b.len ≤ n) : (a - b).len ≤ n := by
  rw [show a - b = a + -b from by grind]
  exact len_add_le _ _ ha (by rw [len_neg]; exact hb)
theorem div_uniq {a b q r : Pol K} (h : b ≠ 0) (e : a = q * b + r) (l : r.len < b.len) : quo a b = q ∧ rem a b = r := by
  obtain ⟨e1, l1⟩ := div_spec a h
  have e2 : (quo a b - q) * b = r - rem a b := by grind
  have l2 : (r - rem a b).len ≤ b.len - 1 := len_sub_le _ _ (by omega) (by omega)
  by_cases z : quo a b - q = 0
  · have : quo a b = q := by grind
    exact ⟨this, by grind⟩
  · have := len_mul z h
    rw [e2] at this
    have := len_pos z
    have := len_pos h
    omega
theorem quo_mul (a : Pol K) {b : Pol K} (h : b ≠ 0) : quo (a * b) b = a := (div_uniq h (r := 0) (by grind) (by rw [len_zero]; exact len_pos h)).1
def Dv (a b : Pol K) : Prop := ∃ c, b = a * c
def Cp (a b : Pol K) : Prop := ∃ u v, u * a + v * b = 1
theorem Cp.symm {a b : Pol K} (h : Cp a b) : Cp b a := by
  obtain ⟨u, v, e⟩ := h
  exact ⟨v, u, by grind⟩
theorem Cp.mul {a b c : Pol K} (h1 : Cp a c) (h2 : Cp b c) : Cp (a * b) c := by
  obtain ⟨u, v, e1⟩ := h1
  obtain ⟨w, x, e2⟩ := h2
  exact ⟨u * w, u * a * x + v * w * b + v * x * c, by grind⟩
theorem Cp.one (c : Pol K) : Cp 1 c := ⟨1, 0, by grind⟩
theorem Cp.pow {a c : Pol K} (h : Cp a c) : ∀ n : Nat, Cp (a ^ n) c
  | 0 => by rw [show a ^ 0 = 1 from by grind]; exact .one c
  | n + 1 => by rw [show a ^ (n + 1) = a ^ n * a from by grind]; exact (h.pow n).mul h
theorem Cp.dv {a b c : Pol K} (h : Cp a b) (d : Dv a (b * c)) : Dv a c := by
  obtain ⟨u, v, e⟩ := h
  obtain ⟨w, e2⟩ := d
  exact ⟨u * c + v * w, by grind⟩
theorem Cp.dv_mul {a b c : Pol K} (h : Cp a b) (d1 : Dv a c) (d2 : Dv b c) : Dv (a * b) c := by
  obtain ⟨u, v, e⟩ := h
  obtain ⟨w, e1⟩ := d1
  obtain ⟨x, e2⟩ := d2
  exact ⟨u * x + v * w, by grind⟩
theorem Cp.of_dv {a b c : Pol K} (h : Cp b c) (d : Dv a b) : Cp a c := by
  obtain ⟨u, v, e⟩ := h
  obtain ⟨w, e1⟩ := d
  exact ⟨u * w, v, by grind⟩
theorem Dv.refl (a : Pol K) : Dv a a := ⟨1, by grind⟩
theorem Dv.trans {a b c : Pol K} (h1 : Dv a b) (h2 : Dv b c) : Dv a c := by
  obtain ⟨u, e1⟩ := h1
  obtain ⟨v, e2⟩ := h2
  exact ⟨u * v, by grind⟩
theorem Dv.mulr {a b : Pol K} (c : Pol K) (h : Dv a b) : Dv a (b * c) := by
  obtain ⟨u, e1⟩ := h
  exact ⟨u * c, by grind⟩
theorem Dv.mull {a b : Pol K} (c : Pol K) (h : Dv a b) : Dv a (c * b) := by
  obtain ⟨u, e1⟩ := h
  exact ⟨u * c, by grind⟩
theorem Dv.add {a b c : Pol K} (h1 : Dv a b) (h2 : Dv a c) : Dv a (b + c) := by
  obtain ⟨u, e1⟩ := h1
  obtain ⟨v, e2⟩ := h2
  exact ⟨u + v, by grind⟩
theorem Dv.sub {a b c : Pol K} (h1 : Dv a b) (h2 : Dv a c) : Dv a (b - c) := by
  obtain ⟨u, e1⟩ := h1
  obtain ⟨v, e2⟩ := h2
  exact ⟨u - v, by grind⟩
theorem rem_zero_iff (a : Pol K) {b : Pol K} (h : b ≠ 0) : rem a b = 0 ↔ Dv b a := by
  obtain ⟨e1, l1⟩ := div_spec a h
  refine ⟨fun z => ⟨quo a b, by grind⟩, fun ⟨c, e⟩ => (div_uniq h (q := c) (r := 0) (by grind) (by rw [len_zero]; exact len_pos h)).2⟩
/-- monic -/
def Mo (a : Pol K) : Prop := a.lc = 1
theorem Mo.ne {a : Pol K} (h : Mo a) : a ≠ 0 := fun z => by
  rw [z] at h
  exact Fd.one_ne h.symm
theorem Mo.mul {a b : Pol K} (h1 : Mo a) (h2 : Mo b) : Mo (a * b) := by
  unfold Mo
  rw [lc_mul h1.ne h2.ne, h1, h2]
  grind
theorem mo_one : Mo (1 : Pol K) := by
  unfold Mo lc
  rw [len_one, c_one0]
theorem Mo.pow {a : Pol K} (h : Mo a) : ∀ n : Nat, Mo (a ^ n)
  | 0 => by rw [show a ^ 0 = 1 from by grind]; exact mo_one
  | n + 1 => by rw [show a ^ (n + 1) = a ^ n * a from by grind]; exact (h.pow n).mul h
theorem len_C {x : K} (h : x ≠ 0) : (C x).len = 1 := by
  have h1 : 0 < (C x).len := lt_len (by rw [c_C0]; exact h)
  have h2 : (C x).len ≤ 1 := len_le fun i hi => by
    cases i with
    | zero => omega
    | succ i => exact c_C1 x i
  omega
theorem eq_C {a : Pol K} (h : a.len ≤ 1) : a = C (a.c 0) := Pol.ext fun i => by
  cases i with
  | zero => rw [c_C0]
  | succ i => rw [c_C1, c_out (by omega)]
theorem C_ne {x : K} (h : x ≠ 0) : C x ≠ 0 := fun z => by
  have := len_C h
  rw [z] at this
  cases this
theorem lc_C {x : K} (h : x ≠ 0) : (C x).lc = x := by
  unfold lc
  rw [len_C h, c_C0]
/-- made monic -/
def mon (a : Pol K) : Pol K := C (Fd.inv a.lc) * a
theorem inv_ne {x : K} (h : x ≠ 0) : Fd.inv x ≠ 0 := fun z => by
  have := Fd.mul_inv x h
  rw [z] at this
  have e : x * 0 = 0 := by grind
  exact Fd.one_ne (this.symm.trans e)
theorem mon_mo {a : Pol K} (h : a ≠ 0) : Mo (mon a) := by
  have hl : a.lc ≠ 0 := c_top h
  unfold Mo mon
  rw [lc_mul (C_ne (inv_ne hl)) h, lc_C (inv_ne hl)]
  have := Fd.mul_inv a.lc hl
  grind
theorem mon_eq {a : Pol K} (h : a ≠ 0) : a = C a.lc * mon a := by
  have hl : a.lc ≠ 0 := c_top h
  unfold mon
  have : C a.lc * C (Fd.inv a.lc) = 1 := by rw [← C_mul, Fd.mul_inv _ hl, C_one]
  grind
theorem mon_of {a : Pol K} (h : Mo a) : mon a = a := by
  unfold mon
  have e : Fd.inv (1 : K) = 1 := by
    have := Fd.mul_inv (1 : K) Fd.one_ne
    grind
  rw [h, e, C_one]
  grind
theorem mon_C {x : K} (hx : x ≠ 0) {a : Pol K} (h : Mo a) : mon (C x * a) = a := by
  unfold mon
  rw [lc_mul (C_ne hx) h.ne, lc_C hx, h, show x * 1 = x from by grind]
  have : C (Fd.inv x) * C x = 1 := by
    rw [← C_mul, show Fd.inv x * x = x * Fd.inv x from by grind, Fd.mul_inv _ hx, C_one]
  grind
theorem unit_len {a b : Pol K} (h : a * b = 1) : a.len = 1 ∧ b.len = 1 := by
  have ha : a ≠ 0 := fun z => one_ne0 (by rw [← h, z]; grind)
  have hb : b ≠ 0 := fun z => one_ne0 (by rw [← h, z]; grind)
  have := len_mul ha hb
  rw [h, len_one] at this
  have := len_pos ha
  have := len_pos hb
  omega
theorem mo_one_of {a : Pol K} (h : Mo a) (l : a.len = 1) : a = 1 := by
  have e := eq_C (a := a) (by omega)
  have h' : a.c (a.len - 1) = 1 := h
  rw [l] at h'
  have h' : a.c 0 = 1 := h'
  rw [e, h', C_one]
theorem mo_eq {a b : Pol K} (ha : Mo a) (hb : Mo b) (h1 : Dv a b) (h2 : Dv b a) : a = b := by
  obtain ⟨u, e1⟩ := h1
  obtain ⟨v, e2⟩ := h2
  have e : u * v = 1 := cancel ha.ne (by grind)
  obtain ⟨l1, _⟩ := unit_len e
  have un : u ≠ 0 := fun z => by rw [z] at l1; cases l1
  have hu : Mo u := by
    have h := lc_mul ha.ne un
    rw [← e1, hb, ha] at h
    unfold Mo
    grind
  rw [e1, mo_one_of hu l1]
  grind
/-- d is the monic greatest common divisor -/
def IsG (d a b : Pol K) : Prop := Mo d ∧ ∃ x y, a = d * x ∧ b = d * y ∧ Cp x y
theorem IsG.uniq {d e a b : Pol K} (h1 : IsG d a b) (h2 : IsG e a b) : d = e := by
  obtain ⟨m1, x, y, e1, e2, u, v, e3⟩ := h1
  obtain ⟨m2, x', y', e1', e2', u', v', e3'⟩ := h2
  exact mo_eq m1 m2 ⟨u' * x + v' * y, by grind⟩ ⟨u * x' + v * y', by grind⟩
/-- Euclid's steps -/
def gS (f g : Pol K) : Nat → Pol K × Pol K
  | 0 => (f, g)
  | i + 1 => ((gS f g i).2, rem (gS f g i).1 (gS f g i).2)
theorem gS_cons (f g : Pol K) : ∀ i, gS f g (i + 1) = gS g (rem f g) i
  | 0 => rfl
  | i + 1 => by
    rw [gS, gS_cons f g i]
    rfl
theorem gS_end : ∀ (n : Nat) (f g : Pol K), g.len ≤ n → ∃ N, (gS f g N).2 = 0 ∧ (∀ i, i < N → (gS f g i).2 ≠ 0) ∧ (f ≠ 0 ∨ g ≠ 0 → (gS f g N).1 ≠ 0 ∧ ∃ x y u v, f = (gS f g N).1 * x ∧ g = (gS f g N).1 * y ∧ (gS f g N).1 = u * f + v * g)
  | n, f, g, h => by
    by_cases z : g = 0
    · refine ⟨0, z, fun i hi => absurd hi (by omega), fun q => ?_⟩
      have hf : f ≠ 0 := by
        rcases q with q | q
        · exact q
        · exact absurd z q
      exact ⟨hf, 1, 0, 1, 0, by show f = f * 1; grind, by show g = f * 0; rw [z]; grind, by show f = _; grind⟩
    · obtain ⟨e1, l1⟩ := div_spec f z
      have hp := len_pos z
      obtain ⟨N, h1, h2, h3⟩ := gS_end (n - 1) g (rem f g) (by omega)
      refine ⟨N + 1, by rw [gS_cons]; exact h1, fun i hi => ?_, fun _ => ?_⟩
      · cases i with
        | zero => exact z
        | succ i =>
          rw [gS_cons]
          exact h2 i (by omega)
      · obtain ⟨h4, x, y, u, v, e2, e3, e4⟩ := h3 (.inl z)
        rw [gS_cons]
        exact ⟨h4, quo f g * x + y, x, v, u - v * quo f g, by grind, e2, by grind⟩
termination_by n => n
decreasing_by
  have := len_pos z
  omega
theorem exists_gcd (f g : Pol K) (h : f ≠ 0 ∨ g ≠ 0) : ∃ N, (gS f g N).2 = 0 ∧ (∀ i, i < N → (gS f g i).2 ≠ 0) ∧ (gS f g N).1 ≠ 0 ∧ IsG (mon (gS f g N).1) f g := by
  obtain ⟨N, h1, h2, h3⟩ := gS_end _ f g (Nat.le_refl _)
  obtain ⟨h4, x, y, u, v, e2, e3, e4⟩ := h3 h
  have em := mon_eq h4
  have mm := mon_mo h4
  refine ⟨N, h1, h2, h4, mm, C (gS f g N).1.lc * x, C (gS f g N).1.lc * y, by grind, by grind, ?_⟩
  have e5 : u * x + v * y = 1 := cancel h4 (by grind)
  have hl : (gS f g N).1.lc ≠ 0 := c_top h4
  have e6 : C (Fd.inv (gS f g N).1.lc) * C (gS f g N).1.lc = 1 := by
    rw [← C_mul, show Fd.inv (gS f g N).1.lc * (gS f g N).1.lc = (gS f g N).1.lc * Fd.inv (gS f g N).1.lc from by grind, Fd.mul_inv _ hl, C_one]
  exact ⟨C (Fd.inv (gS f g N).1.lc) * u, C (Fd.inv (gS f g N).1.lc) * v, by grind⟩
/-- irreducible -/
def Irr (g : Pol K) : Prop := 2 ≤ g.len ∧ ∀ a b, g = a * b → a.len = 1 ∨ b.len = 1
theorem Irr.dich {g : Pol K} (h : Irr g) (a : Pol K) : Dv g a ∨ Cp g a := by
  have gn : g ≠ 0 := fun z => by
    have := h.1
    rw [z, len_zero] at this
    omega
  obtain ⟨N, _, _, _, mm, x, y, e1, e2, cp⟩ := exists_gcd g a (.inl gn)
  rcases h.2 _ _ e1 with l | l
  · rw [mo_one_of mm l] at e1 e2
    refine .inr ?_
    rw [show g = x from by grind, show a = y from by grind]
    exact cp
  · have ex := eq_C (a := x) (by omega)
    have nx : x.c 0 ≠ 0 := fun z => by
      rw [z, C_zero] at ex
      rw [ex] at l
      cases l
    refine .inl ⟨C (Fd.inv (x.c 0)) * y, ?_⟩
    have : C (x.c 0) * C (Fd.inv (x.c 0)) = 1 := by rw [← C_mul, Fd.mul_inv _ nx, C_one]
    rw [← ex] at this
    grind
theorem Irr.not_cp {g a : Pol K} (h : Irr g) (d : Dv g a) (c : Cp g a) : False := by
  obtain ⟨u, e⟩ := d
  obtain ⟨x, y, e2⟩ := c
  have := (unit_len (a := g) (b := x + y * u) (by grind)).1
  have := h.1
  omega
theorem Irr.prime {g a b : Pol K} (h : Irr g) (d : Dv g (a * b)) : Dv g a ∨ Dv g b := by
  rcases h.dich a with q | q
  · exact .inl q
  · exact .inr (q.dv d)
theorem Irr.cp {g h : Pol K} (ig : Irr g) (ih : Irr h) (mg : Mo g) (mh : Mo h) (ne : g ≠ h) : Cp g h := by
  rcases ig.dich h with q | q
  · obtain ⟨x, e⟩ := q
    rcases ih.2 _ _ e with l | l
    · have := ig.1
      omega
    · have xn : x ≠ 0 := fun z => by rw [z] at l; cases l
      have mx : Mo x := by
        have q := lc_mul mg.ne xn
        rw [← e, mh, mg] at q
        unfold Mo
        grind
      exact absurd (by rw [e, mo_one_of mx l]; grind) ne
  · exact q
end Pol
end FM
set_option autoImplicit false
namespace FM
instance (priority := low) fdCast {K : Type} [Fd K] : NatCast K := Lean.Grind.Semiring.natCast
instance (priority := low) polCast {K : Type} [Fd K] : NatCast (Pol K) := Lean.Grind.Semiring.natCast
namespace Pol
variable {K : Type} [Fd K]
/-! ## the derivative -/
def der (a : Pol K) : Pol K := mkP ((List.range (a.l.length - 1)).map fun i => ((i + 1 : Nat) : K) * co a.l (i + 1))
theorem c_der (a : Pol K) (i : Nat) : (der a).c i = ((i + 1 : Nat) : K) * a.c (i + 1) := by
  unfold der
  rw [mkP_c]
  by_cases h : i < a.l.length - 1
  · unfold co
    rw [List.getD_eq_getElem?_getD, List.getElem?_map, List.getElem?_range h]
    rfl
  · rw [co_out (by simp; omega), c_out (by unfold len; omega)]
    grind
theorem der_add (a b : Pol K) : der (a + b) = der a + der b := Pol.ext fun i => by
  rw [c_add, c_der, c_der, c_der, c_add]
  grind
theorem der_C (x : K) : der (C x) = 0 := Pol.ext fun i => by
  rw [c_der, c_C1, c_zero]
  grind
theorem der_Cmul (x : K) (a : Pol K) : der (C x * a) = C x * der a := Pol.ext fun i => by
  rw [c_der, c_Cmul, c_Cmul, c_der]
  grind
theorem nat_succ (n : Nat) : ((n + 1 : Nat) : K) = (n : K) + 1 := by grind
theorem der_X (a : Pol K) : der (X * a) = a + X * der a := Pol.ext fun i => by
  rw [c_der, c_add, c_Xmul1]
  cases i with
  | zero =>
    rw [c_Xmul0, nat_succ]
    grind
  | succ i =>
    rw [c_Xmul1, c_der, nat_succ]
    grind
theorem der_mulL (b : Pol K) : ∀ l : List K, der (mkP l * b) = der (mkP l) * b + mkP l * der b
  | [] => by
    rw [mk_nil, show (0 : Pol K) * b = 0 from by grind, show der (0 : Pol K) = 0 from by have h := der_C (0 : K); rwa [C_zero] at h]
    grind
  | x :: l => by
    have ih := der_mulL b l
    rw [mk_cons, show (C x + X * mkP l) * b = C x * b + X * (mkP l * b) from by grind, der_add, der_add, der_Cmul, der_X, der_X, ih, der_C]
    grind
theorem der_mul (a b : Pol K) : der (a * b) = der a * b + a * der b := by
  have h := der_mulL b a.l
  rwa [mkP_l] at h
theorem der_one : der (1 : Pol K) = 0 := by rw [← C_one, der_C]
theorem C_nat : ∀ n : Nat, C ((n : Nat) : K) = (n : Pol K)
  | 0 => by
    rw [show ((0 : Nat) : K) = 0 from by grind, C_zero]
    grind
  | n + 1 => by
    rw [nat_succ, C_add, C_nat n, C_one]
    grind
theorem der_pow (a : Pol K) : ∀ n : Nat, der (a ^ (n + 1)) = C ((n + 1 : Nat) : K) * (a ^ n * der a)
  | 0 => by
    rw [show a ^ (0 + 1) = a from by grind, show ((0 + 1 : Nat) : K) = 1 from by grind, C_one]
    grind
  | n + 1 => by
    rw [show a ^ (n + 1 + 1) = a ^ (n + 1) * a from by grind, der_mul, der_pow a n, nat_succ (n + 1), C_add, C_one]
    grind
theorem der_len {a : Pol K} (h : der a ≠ 0) : (der a).len < a.len := by
  by_cases q : (der a).len < a.len
  · exact q
  · have t := c_top h
    rw [c_der] at t
    rw [c_out (by have := len_pos h; omega)] at t
    exact absurd (by grind) t
end Pol
/-! ## the characteristic -/
structure Chp (K : Type) [Fd K] (p s : Nat) : Prop where
  hp : p = 2 ∨ p = 3 ∨ p = 5
  z : ((p : Nat) : K) = 0
  hs : ∀ x : K, (x ^ s) ^ p = x
namespace Chp
open Pol
variable {K : Type} [Fd K] {p s : Nat}
theorem pos (H : Chp K p s) : 0 < p := by
  rcases H.hp with h | h | h <;> omega
theorem le (H : Chp K p s) : p ≤ 5 := by
  rcases H.hp with h | h | h <;> omega
theorem nat_ne (H : Chp K p s) : ∀ {n : Nat}, 0 < n → n < p → ((n : Nat) : K) ≠ 0 := fun {n} h0 h1 e => by
  have o : (1 : K) ≠ 0 := Fd.one_ne
  have z := H.z
  rcases H.hp with h | h | h <;> subst h
  · have : n = 1 := by omega
    subst this
    exact o (by grind)
  · have : n = 1 ∨ n = 2 := by omega
    rcases this with h | h <;> subst h
    · exact o (by grind)
    · have q : (1 : K) = ((3 : Nat) : K) - ((2 : Nat) : K) := by grind
      rw [z, e] at q
      exact o (q.trans (by grind))
  · have : n = 1 ∨ n = 2 ∨ n = 3 ∨ n = 4 := by omega
    rcases this with h | h | h | h <;> subst h
    · exact o (by grind)
    · have q : (1 : K) = ((5 : Nat) : K) - ((2 : Nat) : K) * 2 := by grind
      rw [z, e] at q
      exact o (q.trans (by grind))
    · have q : (1 : K) = ((3 : Nat) : K) * 2 - ((5 : Nat) : K) := by grind
      rw [z, e] at q
      exact o (q.trans (by grind))
    · have q : (1 : K) = ((5 : Nat) : K) - ((4 : Nat) : K) := by grind
      rw [z, e] at q
      exact o (q.trans (by grind))
theorem nat_mod (H : Chp K p s) (n : Nat) : ((n : Nat) : K) = ((n % p : Nat) : K) := by
  have e : n = p * (n / p) + n % p := (Nat.div_add_mod n p).symm
  have z := H.z
  have : ((p * (n / p) + n % p : Nat) : K) = ((p : Nat) : K) * ((n / p : Nat) : K) + ((n % p : Nat) : K) := by grind
  rw [← e, z] at this
  grind
theorem nat_iff (H : Chp K p s) (n : Nat) : ((n : Nat) : K) = 0 ↔ n % p = 0 := by
  rw [H.nat_mod n]
  refine ⟨fun h => ?_, fun h => by rw [h]; grind⟩
  by_cases q : n % p = 0
  · exact q
  · exact absurd h (H.nat_ne (by omega) (Nat.mod_lt _ H.pos))
theorem frob (H : Chp K p s) (a b : Pol K) : (a + b) ^ p = a ^ p + b ^ p := by
  have z : ((p : Nat) : Pol K) = 0 := by rw [← C_nat, H.z, C_zero]
  rcases H.hp with h | h | h <;> subst h
  · have z' : (2 : Pol K) = 0 := z
    grind
  · have z' : (3 : Pol K) = 0 := z
    grind
  · have z' : (5 : Pol K) = 0 := z
    grind
theorem C_pow (x : K) : ∀ n : Nat, C (x ^ n) = (C x) ^ n
  | 0 => by
    rw [show x ^ 0 = 1 from by grind, C_one]
    grind
  | n + 1 => by
    rw [show x ^ (n + 1) = x ^ n * x from by grind, C_mul, C_pow x n]
    grind
theorem mul_pow (a b : Pol K) : ∀ n : Nat, (a * b) ^ n = a ^ n * b ^ n
  | 0 => by grind
  | n + 1 => by
    have := mul_pow a b n
    rw [show (a * b) ^ (n + 1) = (a * b) ^ n * (a * b) from by grind, this]
    grind
/-- the p-th power's coefficients -/
theorem pow_cL (H : Chp K p s) : ∀ (l : List K) (i : Nat), (mkP l ^ p).c (i * p) = co l i ^ p ∧ ∀ j, j % p ≠ 0 → (mkP l ^ p).c j = 0
  | [], i => by
    have hp := H.pos
    have e : (mkP ([] : List K)) ^ p = 0 := by
      rw [mk_nil]
      rcases H.hp with h | h | h <;> subst h <;> grind
    rw [e]
    refine ⟨?_, fun j _ => rfl⟩
    rw [co_nil]
    show (0 : K) = _
    rcases H.hp with h | h | h <;> subst h <;> grind
  | x :: l, i => by
    have hp := H.pos
    have e : mkP (x :: l) ^ p = C (x ^ p) + X ^ p * (mkP l ^ p) := by rw [mk_cons, H.frob, mul_pow, C_pow]
    rw [e]
    refine ⟨?_, fun j hj => ?_⟩
    · cases i with
      | zero =>
        rw [Nat.zero_mul, c_add, c_C0, c_Xpow, if_neg (by omega), co_zero]
        grind
      | succ i =>
        obtain ⟨m, hm⟩ : ∃ m, (i + 1) * p = m + 1 := ⟨(i + 1) * p - 1, by have : (i + 1) * p = i * p + p := Nat.succ_mul i p; omega⟩
        rw [c_add, c_Xpow, if_pos (by rw [Nat.succ_mul]; omega), show (i + 1) * p - p = i * p from by rw [Nat.succ_mul]; omega, (pow_cL H l i).1, hm, c_C1, co_succ]
        grind
    · cases j with
      | zero => exact absurd (Nat.zero_mod p) hj
      | succ j =>
        rw [c_add, c_C1, c_Xpow]
        split
        · rename_i h
          rw [(pow_cL H l i).2 _ (by
            intro z
            refine hj ?_
            rw [show j + 1 = (j + 1 - p) + p from by omega, Nat.add_mod_right]
            exact z)]
          grind
        · grind
theorem pow_c (H : Chp K p s) (a : Pol K) (i : Nat) : (a ^ p).c (i * p) = a.c i ^ p := by
  have h := (H.pow_cL a.l i).1
  rw [mkP_l] at h
  exact h
theorem pow_c0 (H : Chp K p s) (a : Pol K) {j : Nat} (hj : j % p ≠ 0) : (a ^ p).c j = 0 := by
  have h := (H.pow_cL a.l 0).2 j hj
  rw [mkP_l] at h
  exact h
theorem hs' (H : Chp K p s) (x : K) : (x ^ p) ^ s = x := by
  have h := H.hs x
  have e : ∀ (y : K) (m n : Nat), (y ^ m) ^ n = y ^ (m * n) := fun y m n => by
    induction n with
    | zero => grind
    | succ n ih => rw [show (y ^ m) ^ (n + 1) = (y ^ m) ^ n * y ^ m from by grind, ih, Nat.mul_succ]; grind
  rw [e, Nat.mul_comm, ← e]
  exact h
/-- the root -/
def root (p s : Nat) (f : Pol K) : Pol K := mkP ((List.range ((f.l.length + p - 1) / p)).map fun i => co f.l (i * p) ^ s)
theorem zpow (H : Chp K p s) : (0 : K) ^ s = 0 := by
  have h := H.hs 0
  by_cases z : (0 : K) ^ s = 0
  · exact z
  · have : (0 : K) ^ s = 1 := by
      cases s with
      | zero => grind
      | succ n => exact absurd (by grind) z
    rw [this] at h
    exact absurd (by rcases H.hp with h | h | h <;> subst h <;> grind) (Fd.one_ne (K := K))
theorem c_root (H : Chp K p s) (f : Pol K) (i : Nat) : (root p s f).c i = f.c (i * p) ^ s := by
  unfold root
  rw [mkP_c]
  by_cases h : i < (f.l.length + p - 1) / p
  · unfold co
    rw [List.getD_eq_getElem?_getD, List.getElem?_map, List.getElem?_range h]
    rfl
  · have hp := H.pos
    rw [co_out (by simp; omega), c_out (a := f), H.zpow]
    have h2 : f.l.length + p - 1 < (i + 1) * p := (Nat.div_lt_iff_lt_mul hp).mp (by omega)
    rw [Nat.succ_mul] at h2
    unfold len
    omega
theorem root_pow (H : Chp K p s) (h : Pol K) : root p s (h ^ p) = h := Pol.ext fun i => by rw [H.c_root, H.pow_c, H.hs']
theorem pow_root (H : Chp K p s) {f : Pol K} (hd : der f = 0) : (root p s f) ^ p = f := Pol.ext fun i => by
  by_cases q : i % p = 0
  · have e : i = i / p * p := by
      have := Nat.div_add_mod i p
      rw [Nat.mul_comm] at this
      omega
    rw [e, H.pow_c, H.c_root, H.hs, ← e]
  · rw [H.pow_c0 _ q]
    cases i with
    | zero => exact absurd (Nat.zero_mod p) q
    | succ i =>
      have e := c_der f i
      rw [hd] at e
      have n : ((i + 1 : Nat) : K) ≠ 0 := fun z => q ((H.nat_iff _).mp z)
      by_cases z : f.c (i + 1) = 0
      · exact z.symm
      · exact absurd e.symm (noz n z)
theorem irr_der (H : Chp K p s) {g : Pol K} (h : Irr g) : Cp g (der g) := by
  have gn : g ≠ 0 := fun z => by
    have := h.1
    rw [z, len_zero] at this
    omega
  have dn : der g ≠ 0 := fun z => by
    have e := H.pow_root z
    have hp := H.pos
    obtain ⟨m, rfl⟩ : ∃ m, p = m + 2 := ⟨p - 2, by rcases H.hp with h | h | h <;> omega⟩
    have e2 : g = root (m + 2) s g * (root (m + 2) s g) ^ (m + 1) := by rw [← e]; rw [H.root_pow]; grind
    have rn : root (m + 2) s g ≠ 0 := fun z => gn (by rw [e2, z]; grind)
    have one_or : (root (m + 2) s g).len = 1 := by
      rcases h.2 _ _ e2 with l | l
      · exact l
      · have en : (root (m + 2) s g) ^ (m + 1) = root (m + 2) s g * (root (m + 2) s g) ^ m := by grind
        have pn : (root (m + 2) s g) ^ m ≠ 0 := fun z => gn (by rw [e2, en, z]; grind)
        rw [en] at l
        have := len_mul rn pn
        have := len_pos rn
        have := len_pos pn
        omega
    have pl : ∀ n : Nat, ((root (m + 2) s g) ^ n).len = 1 := fun n => by
      induction n with
      | zero => rw [show (root (m + 2) s g) ^ 0 = 1 from by grind, len_one]
      | succ n ih =>
        rw [show (root (m + 2) s g) ^ (n + 1) = (root (m + 2) s g) ^ n * root (m + 2) s g from by grind, len_mul (fun z => by rw [z] at ih; cases ih) rn, ih, one_or]
    have q := pl (m + 2)
    rw [e] at q
    have := h.1
    omega
  rcases h.dich (der g) with q | q
  · obtain ⟨u, e⟩ := q
    have un : u ≠ 0 := fun z => dn (by rw [e, z]; grind)
    have l := len_mul gn un
    rw [← e] at l
    have := der_len dn
    have := len_pos un
    omega
  · exact q
end Chp
end FM
set_option autoImplicit false
namespace FM
open Pol
section
variable {K : Type} [Fd K]
/-! ## products of irreducibles, by exponents -/
abbrev Fac (K : Type) [Fd K] := List (Pol K × Nat)
structure WF (ps : Fac K) : Prop where
  irr : ∀ x ∈ ps, Irr x.1
  mo : ∀ x ∈ ps, Mo x.1
  ne : ps.Pairwise fun x y => x.1 ≠ y.1
theorem WF.tail {x : Pol K × Nat} {ps : Fac K} (h : WF (x :: ps)) : WF ps := ⟨fun y hy => h.irr y (List.mem_cons_of_mem _ hy), fun y hy => h.mo y (List.mem_cons_of_mem _ hy), (List.pairwise_cons.mp h.ne).2⟩
theorem WF.cp {x : Pol K × Nat} {ps : Fac K} (h : WF (x :: ps)) : ∀ y ∈ ps, Cp x.1 y.1 := fun y hy =>
  (h.irr x (List.mem_cons_self ..)).cp (h.irr y (List.mem_cons_of_mem _ hy)) (h.mo x (List.mem_cons_self ..)) (h.mo y (List.mem_cons_of_mem _ hy)) ((List.pairwise_cons.mp h.ne).1 y hy)
def Mf (α : Nat → Nat) : Fac K → Pol K
  | [] => 1
  | x :: ps => x.1 ^ α x.2 * Mf α ps
theorem Mf_mo (α : Nat → Nat) : ∀ {ps : Fac K}, (∀ x ∈ ps, Mo x.1) → Mo (Mf α ps)
  | [], _ => mo_one
  | x :: ps, h => ((h x (List.mem_cons_self ..)).pow _).mul (Mf_mo α fun y hy => h y (List.mem_cons_of_mem _ hy))
theorem Mf_congr {α β : Nat → Nat} : ∀ {ps : Fac K}, (∀ x ∈ ps, α x.2 = β x.2) → Mf α ps = Mf β ps
  | [], _ => rfl
  | x :: ps, h => by
    rw [Mf, Mf, h x (List.mem_cons_self ..), Mf_congr (ps := ps) fun y hy => h y (List.mem_cons_of_mem _ hy)]
theorem Mf_mul (α β : Nat → Nat) : ∀ (ps : Fac K), Mf α ps * Mf β ps = Mf (fun e => α e + β e) ps
  | [] => by rw [Mf, Mf, Mf]; grind
  | x :: ps => by
    rw [Mf, Mf, Mf, ← Mf_mul α β ps]
    have : x.1 ^ (α x.2 + β x.2) = x.1 ^ α x.2 * x.1 ^ β x.2 := by grind
    rw [this]
    grind
theorem Mf_cp1 {g : Pol K} (α : Nat → Nat) : ∀ {ps : Fac K}, (∀ y ∈ ps, Cp g y.1) → Cp g (Mf α ps)
  | [], _ => (Cp.one g).symm
  | x :: ps, h => (Cp.mul ((h x (List.mem_cons_self ..)).symm.pow _) (Mf_cp1 α (ps := ps) fun y hy => h y (List.mem_cons_of_mem _ hy)).symm).symm
theorem Mf_cp (α β : Nat → Nat) : ∀ {ps : Fac K}, WF ps → (∀ x ∈ ps, α x.2 = 0 ∨ β x.2 = 0) → Cp (Mf α ps) (Mf β ps)
  | [], _, _ => Cp.one _
  | x :: ps, w, h => by
    have ih := Mf_cp α β w.tail fun y hy => h y (List.mem_cons_of_mem _ hy)
    have c1 := Mf_cp1 β w.cp
    have c2 := Mf_cp1 α w.cp
    rw [Mf, Mf]
    refine Cp.mul ?_ (Cp.mul (c2.pow _) ih.symm).symm
    rcases h x (List.mem_cons_self ..) with z | z
    · rw [z, show x.1 ^ 0 = 1 from by grind]
      exact Cp.one _
    · rw [z, show x.1 ^ 0 * Mf β ps = Mf β ps from by grind]
      exact c1.pow _
theorem Mf_gcd (α β : Nat → Nat) {ps : Fac K} (w : WF ps) : IsG (Mf (fun e => min (α e) (β e)) ps) (Mf α ps) (Mf β ps) := by
  refine ⟨Mf_mo _ w.mo, Mf (fun e => α e - min (α e) (β e)) ps, Mf (fun e => β e - min (α e) (β e)) ps, ?_, ?_, Mf_cp _ _ w fun x _ => ?_⟩
  · rw [Mf_mul]
    exact Mf_congr fun x _ => by omega
  · rw [Mf_mul]
    exact Mf_congr fun x _ => by omega
  · omega
theorem Mf_quo (α β : Nat → Nat) {ps : Fac K} (w : WF ps) (h : ∀ x ∈ ps, β x.2 ≤ α x.2) : quo (Mf α ps) (Mf β ps) = Mf (fun e => α e - β e) ps := by
  have e : Mf α ps = Mf (fun e => α e - β e) ps * Mf β ps := by
    rw [Mf_mul]
    exact Mf_congr fun x hx => by have := h x hx; omega
  rw [e]
  exact quo_mul _ (Mf_mo β w.mo).ne
theorem Mf_pow (α : Nat → Nat) (n : Nat) : ∀ (ps : Fac K), Mf α ps ^ n = Mf (fun e => α e * n) ps
  | [] => by
    rw [Mf, Mf]
    induction n with
    | zero => grind
    | succ n ih => rw [show (1 : Pol K) ^ (n + 1) = 1 ^ n * 1 from by grind, ih]; grind
  | x :: ps => by
    have e : ∀ m : Nat, (x.1 ^ m) ^ n = x.1 ^ (m * n) := fun m => by
      induction n with
      | zero => grind
      | succ n ih => rw [show (x.1 ^ m) ^ (n + 1) = (x.1 ^ m) ^ n * x.1 ^ m from by grind, ih, Nat.mul_succ]; grind
    rw [Mf, Mf, Chp.mul_pow, Mf_pow α n ps, e]
theorem pow_len {g : Pol K} (hg : 2 ≤ g.len) (mg : Mo g) : ∀ n : Nat, n = 0 ∨ 2 ≤ (g ^ n).len
  | 0 => .inl rfl
  | n + 1 => by
    have := len_pos (mg.pow n).ne
    have e := len_mul (mg.pow n).ne mg.ne
    rw [show g ^ n * g = g ^ (n + 1) from by grind] at e
    exact .inr (by omega)
theorem Mf_len1 (α : Nat → Nat) : ∀ {ps : Fac K}, WF ps → ((Mf α ps).len = 1 ↔ ∀ x ∈ ps, α x.2 = 0)
  | [], _ => ⟨fun _ x hx => (nomatch hx), fun _ => len_one⟩
  | x :: ps, w => by
    have ih := Mf_len1 α w.tail
    have mx := w.mo x (List.mem_cons_self ..)
    have l2 := (w.irr x (List.mem_cons_self ..)).1
    have n1 := (mx.pow (α x.2)).ne
    have n2 := (Mf_mo α w.tail.mo).ne
    have e := len_mul n1 n2
    have p1 := len_pos n1
    have p2 := len_pos n2
    rw [Mf]
    refine ⟨fun h => ?_, fun h => ?_⟩
    · have q : α x.2 = 0 := by
        rcases pow_len l2 mx (α x.2) with q | q
        · exact q
        · omega
      have q2 := ih.mp (by omega)
      intro y hy
      rcases List.mem_cons.mp hy with z | z
      · rw [z]; exact q
      · exact q2 y z
    · rw [h x (List.mem_cons_self ..), show x.1 ^ 0 * Mf α ps = Mf α ps from by grind]
      exact ih.mpr fun y hy => h y (List.mem_cons_of_mem _ hy)
theorem Mf_one {α : Nat → Nat} : ∀ {ps : Fac K}, (∀ x ∈ ps, α x.2 = 0) → Mf α ps = 1
  | [], _ => rfl
  | x :: ps, h => by
    rw [Mf, h x (List.mem_cons_self ..), Mf_one fun y hy => h y (List.mem_cons_of_mem _ hy)]
    grind
/-! ### its derivative -/
def bA (p : Nat) (α : Nat → Nat) (e : Nat) : Nat := if α e % p = 0 then 0 else 1
def rA (p : Nat) (α : Nat → Nat) (e : Nat) : Nat := if α e % p = 0 then α e else α e - 1
def Sd (p : Nat) (α : Nat → Nat) : Fac K → Pol K
  | [] => 0
  | x :: ps => if α x.2 % p = 0 then Sd p α ps else C ((α x.2 : Nat) : K) * (der x.1 * Mf (bA p α) ps) + x.1 * Sd p α ps
variable {p s : Nat}
theorem Mf_split (p : Nat) (α : Nat → Nat) (ps : Fac K) : Mf α ps = Mf (rA p α) ps * Mf (bA p α) ps := by
  rw [Mf_mul]
  exact Mf_congr fun x _ => by
    unfold rA bA
    split
    · rfl
    · rename_i q
      have : α x.2 ≠ 0 := fun z => q (by rw [z, Nat.zero_mod])
      omega
theorem Mf_der (H : Chp K p s) (α : Nat → Nat) : ∀ (ps : Fac K), der (Mf α ps) = Mf (rA p α) ps * Sd p α ps
  | [] => by
    rw [Mf, Sd, der_one]
    grind
  | x :: ps => by
    have ih := Mf_der H α ps
    have sp := Mf_split p α ps
    rw [Mf, Mf, Sd, der_mul, ih]
    by_cases q : α x.2 % p = 0
    · rw [if_pos q, show rA p α x.2 = α x.2 from if_pos q]
      have : der (x.1 ^ α x.2) = 0 := by
        cases e : α x.2 with
        | zero => rw [show x.1 ^ 0 = 1 from by grind, der_one]
        | succ n =>
          rw [e] at q
          rw [der_pow, (H.nat_iff _).mpr q, C_zero]
          grind
      rw [this]
      grind
    · rw [if_neg q, show rA p α x.2 = α x.2 - 1 from if_neg q]
      have : α x.2 ≠ 0 := fun z => q (by rw [z, Nat.zero_mod])
      obtain ⟨n, hn⟩ : ∃ n, α x.2 = n + 1 := ⟨α x.2 - 1, by omega⟩
      rw [hn, Nat.add_sub_cancel, der_pow, sp]
      grind
theorem Cp.addm {a b c : Pol K} (h : Cp a b) : Cp a (b + a * c) := by
  obtain ⟨u, v, e⟩ := h
  exact ⟨u - v * c, v, by grind⟩
theorem Cp.C {a : Pol K} {x : K} (h : x ≠ 0) : Cp (C x) a := by
  refine ⟨Pol.C (Fd.inv x), 0, ?_⟩
  rw [← C_mul, show Fd.inv x * x = x * Fd.inv x from by grind, Fd.mul_inv _ h, C_one]
  grind
theorem Sd_cp (H : Chp K p s) (α : Nat → Nat) : ∀ {ps : Fac K}, WF ps → Cp (Mf (bA p α) ps) (Sd p α ps)
  | [], _ => Cp.one _
  | x :: ps, w => by
    have ih := Sd_cp H α w.tail
    have c1 := Mf_cp1 (bA p α) w.cp
    rw [Mf, Sd]
    by_cases q : α x.2 % p = 0
    · rw [if_pos q, show bA p α x.2 = 0 from if_pos q, show x.1 ^ 0 * Mf (bA p α) ps = Mf (bA p α) ps from by grind]
      exact ih
    · rw [if_neg q, show bA p α x.2 = 1 from if_neg q, show x.1 ^ 1 * Mf (bA p α) ps = x.1 * Mf (bA p α) ps from by grind]
      have ne : ((α x.2 : Nat) : K) ≠ 0 := fun z => q ((H.nat_iff _).mp z)
      refine Cp.mul (Cp.addm ?_) ?_
      · exact (Cp.mul (Cp.C ne) (Cp.mul (H.irr_der (w.irr x (List.mem_cons_self ..))).symm c1.symm)).symm
      · have h : Cp (Mf (bA p α) ps) (x.1 * Sd p α ps) := (Cp.mul c1 ih.symm).symm
        have h2 := Cp.addm (c := Pol.C ((α x.2 : Nat) : K) * der x.1) h
        rw [show Pol.C ((α x.2 : Nat) : K) * (der x.1 * Mf (bA p α) ps) + x.1 * Sd p α ps = x.1 * Sd p α ps + Mf (bA p α) ps * (Pol.C ((α x.2 : Nat) : K) * der x.1) from by grind]
        exact h2
theorem Mf_gder (H : Chp K p s) (α : Nat → Nat) {ps : Fac K} (w : WF ps) : IsG (Mf (rA p α) ps) (Mf α ps) (der (Mf α ps)) :=
  ⟨Mf_mo _ w.mo, _, _, Mf_split p α ps, Mf_der H α ps, Sd_cp H α w⟩
theorem Mf_der0 (H : Chp K p s) (α : Nat → Nat) {ps : Fac K} (w : WF ps) : der (Mf α ps) = 0 ↔ ∀ x ∈ ps, α x.2 % p = 0 := by
  refine ⟨fun h => ?_, fun h => ?_⟩
  · rw [Mf_der H] at h
    have sz : Sd p α ps = 0 := by
      by_cases z : Sd p α ps = 0
      · exact z
      · exact absurd h (mul_ne (Mf_mo _ w.mo).ne z)
    have cp := Sd_cp H α w
    rw [sz] at cp
    obtain ⟨u, v, e⟩ := cp
    have l := (unit_len (a := Mf (bA p α) ps) (b := u) (by grind)).1
    intro x hx
    have := (Mf_len1 _ w).mp l x hx
    unfold bA at this
    split at this
    · assumption
    · cases this
  · have sz : ∀ {qs : Fac K}, (∀ x ∈ qs, α x.2 % p = 0) → Sd p α qs = 0 := fun {qs} => by
      induction qs with
      | nil => intro _; rfl
      | cons x qs ih =>
        intro h
        rw [Sd, if_pos (h x (List.mem_cons_self ..))]
        exact ih fun y hy => h y (List.mem_cons_of_mem _ hy)
    rw [Mf_der H, sz h]
    grind
theorem Mf_root (H : Chp K p s) (α : Nat → Nat) {ps : Fac K} (h : ∀ x ∈ ps, α x.2 % p = 0) : Chp.root p s (Mf α ps) = Mf (fun e => α e / p) ps := by
  have e : Mf α ps = Mf (fun e => α e / p) ps ^ p := by
    rw [Mf_pow]
    exact Mf_congr fun x hx => by
      have := Nat.div_add_mod (α x.2) p
      rw [h x hx, Nat.mul_comm] at this
      omega
  rw [e, H.root_pow]
/-! ### the loop of the squarefree parts -/
/-- what is left of the radical at turn k -/
def baseA (p : Nat) (α : Nat → Nat) (k e : Nat) : Nat := if α e % p ≠ 0 ∧ k ≤ α e then 1 else 0
def restA (p : Nat) (α : Nat → Nat) (k e : Nat) : Nat := if α e % p = 0 then α e else α e - k
def partA (p : Nat) (α : Nat → Nat) (k e : Nat) : Nat := if α e % p ≠ 0 ∧ α e = k then 1 else 0
theorem loop_start (H : Chp K p s) (α : Nat → Nat) {ps : Fac K} (w : WF ps) : Mf (rA p α) ps = Mf (restA p α 1) ps ∧ quo (Mf α ps) (Mf (restA p α 1) ps) = Mf (baseA p α 1) ps := by
  refine ⟨Mf_congr fun x _ => rfl, ?_⟩
  rw [Mf_quo _ _ w fun x _ => by unfold restA; split <;> omega]
  exact Mf_congr fun x _ => by
    unfold restA baseA
    by_cases q : α x.2 % p = 0
    · rw [if_pos q, if_neg fun z => z.1 q]
      omega
    · have : α x.2 ≠ 0 := fun z => q (by rw [z, Nat.zero_mod])
      rw [if_neg q, if_pos ⟨q, by omega⟩]
      omega
theorem loop_step (α : Nat → Nat) {ps : Fac K} (w : WF ps) (k : Nat) (hk : 1 ≤ k) :
    IsG (Mf (baseA p α (k + 1)) ps) (Mf (baseA p α k) ps) (Mf (restA p α k) ps) ∧ quo (Mf (baseA p α k) ps) (Mf (baseA p α (k + 1)) ps) = Mf (partA p α k) ps ∧ quo (Mf (restA p α k) ps) (Mf (baseA p α (k + 1)) ps) = Mf (restA p α (k + 1)) ps := by
  refine ⟨?_, ?_, ?_⟩
  · have h := Mf_gcd (baseA p α k) (restA p α k) w
    rw [Mf_congr (β := baseA p α (k + 1)) fun x _ => ?_] at h
    · exact h
    · unfold baseA restA
      by_cases q : α x.2 % p = 0
      · rw [if_neg fun z => z.1 q, if_pos q, if_neg fun z => z.1 q]
        omega
      · rw [if_neg (c := α x.2 % p = 0) q]
        by_cases q1 : k + 1 ≤ α x.2
        · rw [if_pos ⟨q, by omega⟩, if_pos ⟨q, q1⟩]
          omega
        · rw [if_neg (c := α x.2 % p ≠ 0 ∧ k + 1 ≤ α x.2) fun z => q1 z.2]
          omega
  · rw [Mf_quo _ _ w fun x _ => ?_]
    · exact Mf_congr fun x _ => by
        unfold baseA partA
        by_cases q : α x.2 % p = 0
        · rw [if_neg fun z => z.1 q, if_neg fun z => z.1 q, if_neg fun z => z.1 q]
        · by_cases q1 : k + 1 ≤ α x.2
          · rw [if_pos ⟨q, by omega⟩, if_pos ⟨q, q1⟩, if_neg fun z => by omega]
          · by_cases q2 : k ≤ α x.2
            · rw [if_pos ⟨q, q2⟩, if_neg fun z => q1 z.2, if_pos ⟨q, by omega⟩]
            · rw [if_neg fun z => q2 z.2, if_neg fun z => q1 z.2, if_neg fun z => by omega]
    · unfold baseA
      by_cases q : α x.2 % p ≠ 0 ∧ k + 1 ≤ α x.2
      · rw [if_pos q, if_pos ⟨q.1, by omega⟩]
        omega
      · rw [if_neg q]
        omega
  · rw [Mf_quo _ _ w fun x _ => ?_]
    · exact Mf_congr fun x _ => by
        unfold baseA restA
        by_cases q : α x.2 % p = 0
        · rw [if_pos q, if_pos q, if_neg (c := α x.2 % p ≠ 0 ∧ k + 1 ≤ α x.2) fun z => z.1 q]
          omega
        · rw [if_neg (c := α x.2 % p = 0) q, if_neg (c := α x.2 % p = 0) q]
          by_cases q1 : k + 1 ≤ α x.2
          · rw [if_pos (c := α x.2 % p ≠ 0 ∧ k + 1 ≤ α x.2) ⟨q, q1⟩]
            omega
          · rw [if_neg (c := α x.2 % p ≠ 0 ∧ k + 1 ≤ α x.2) fun z => q1 z.2]
            omega
    · unfold baseA restA
      by_cases q : α x.2 % p = 0
      · rw [if_neg (c := α x.2 % p ≠ 0 ∧ k + 1 ≤ α x.2) fun z => z.1 q]
        omega
      · rw [if_neg (c := α x.2 % p = 0) q]
        split <;> omega
end
end FM
set_option autoImplicit false
namespace FM
open Pol
section
variable {K : Type} [Fd K]
/-! ## linear algebra -/
def clr (lead : List K) (at_ : Nat) (row : List K) : List K := (row.zip lead).map fun (q : K × K) => q.1 + -(co row at_ * q.2)
theorem clr_len {lead row : List K} (at_ : Nat) (h : row.length = lead.length) : (clr lead at_ row).length = row.length := by
  unfold clr
  rw [List.length_map, List.length_zip]
  omega
theorem co_zip (f : K) : ∀ (a b : List K) (i : Nat), a.length = b.length → co ((a.zip b).map fun (q : K × K) => q.1 + -(f * q.2)) i = co a i - f * co b i
  | [], b, i, h => by
    cases b with
    | nil => show (0 : K) = 0 - f * 0; grind
    | cons y b => cases h
  | x :: a, [], i, h => by cases h
  | x :: a, y :: b, 0, h => by show x + -(f * y) = x - f * y; grind
  | x :: a, y :: b, i + 1, h => co_zip f a b i (Nat.succ.inj h)
theorem clr_P {lead row : List K} (at_ : Nat) (h : row.length = lead.length) : mkP (clr lead at_ row) = mkP row - C (co row at_) * mkP lead := mkP_eq fun i => by
  unfold clr
  rw [co_zip _ _ _ _ h, c_sub, mkP_c, c_Cmul, mkP_c]
structure RS (K : Type) [Fd K] where
  rest : List (List K)
  done : List (List K)
  piv : List Nat
def chosen (rest : List (List K)) (at_ : Nat) : List Nat := (List.range rest.length).filter fun k => !decide (co (rest.getD k []) at_ = 0)
def leadOf (rest : List (List K)) (at_ i : Nat) : List K := (rest.getD i []).map fun x => Fd.inv (co (rest.getD i []) at_) * x
def redStep (S : RS K) (at_ : Nat) : RS K :=
  match chosen S.rest at_ with
  | [] => S
  | i :: _ => ⟨(S.rest.take i ++ S.rest.drop (i + 1)).map (clr (leadOf S.rest at_ i) at_), S.done.map (clr (leadOf S.rest at_ i) at_) ++ [leadOf S.rest at_ i], S.piv ++ [at_]⟩
def redS (rows : List (List K)) : Nat → RS K
  | 0 => ⟨rows, [], []⟩
  | t + 1 => redStep (redS rows t) t
/-- subspaces -/
structure SubP (S : Pol K → Prop) : Prop where
  zero : S 0
  lin : ∀ a b x, S a → S b → S (a - C x * b)
theorem SubP.sc {S : Pol K → Prop} (s : SubP S) (x : K) {a : Pol K} (h : S a) : S (C x * a) := by
  have := s.lin 0 a (-x) s.zero h
  rw [C_neg] at this
  rw [show C x * a = 0 - -C x * a from by grind]
  exact this
theorem SubP.add {S : Pol K → Prop} (s : SubP S) {a b : Pol K} (h : S a) (h2 : S b) : S (a + b) := by
  have := s.lin a b (-1) h h2
  rw [C_neg, C_one] at this
  rw [show a + b = a - -1 * b from by grind]
  exact this
structure RI (w : Nat) (rows : List (List K)) (t : Nat) (R : RS K) : Prop where
  lr : ∀ r ∈ R.rest, r.length = w
  ld : ∀ r ∈ R.done, r.length = w
  lp : R.done.length = R.piv.length
  cnt : R.rest.length + R.done.length = rows.length
  pl : ∀ c ∈ R.piv, c < t
  nd : R.piv.Nodup
  sp : ∀ S : Pol K → Prop, SubP S → ((∀ r ∈ rows, S (mkP r)) ↔ ((∀ r ∈ R.rest, S (mkP r)) ∧ ∀ r ∈ R.done, S (mkP r)))
  rz : ∀ r ∈ R.rest, ∀ c, c < t → co r c = 0
  un : ∀ (i j : Nat) (r : List K) (c : Nat), R.done[i]? = some r → R.piv[j]? = some c → co r c = if i = j then 1 else 0
theorem RI.start {w : Nat} {rows : List (List K)} (h : ∀ r ∈ rows, r.length = w) : RI w rows 0 ⟨rows, [], []⟩ where
  lr := h
  ld := fun r hr => nomatch hr
  lp := rfl
  cnt := rfl
  pl := fun r hr => nomatch hr
  nd := List.nodup_nil
  sp := fun S s => ⟨fun h => ⟨h, fun r hr => nomatch hr⟩, fun h => h.1⟩
  rz := fun r hr c hc => by omega
  un := fun i j r c h => by cases h
theorem chosen_mem {rest : List (List K)} {at_ i : Nat} {l : List Nat} (h : chosen rest at_ = i :: l) : ∃ r, rest[i]? = some r ∧ rest.getD i [] = r ∧ co r at_ ≠ 0 := by
  have m : i ∈ chosen rest at_ := by rw [h]; exact List.mem_cons_self ..
  unfold chosen at m
  rw [List.mem_filter, List.mem_range] at m
  have e := List.getElem?_eq_getElem m.1
  have e2 : rest.getD i [] = rest[i] := by rw [List.getD_eq_getElem?_getD, e]; rfl
  refine ⟨_, e, e2, fun z => ?_⟩
  have m2 := m.2
  rw [e2, z] at m2
  simp at m2
theorem chosen_nil {rest : List (List K)} {at_ : Nat} (h : chosen rest at_ = []) : ∀ r ∈ rest, co r at_ = 0 := fun r hr => by
  obtain ⟨k, hk⟩ := List.mem_iff_getElem?.mp hr
  have hl : k < rest.length := (List.getElem?_eq_some_iff.mp hk).1
  by_cases z : co r at_ = 0
  · exact z
  · have m : k ∈ chosen rest at_ := by
      unfold chosen
      rw [List.mem_filter, List.mem_range]
      refine ⟨hl, ?_⟩
      rw [List.getD_eq_getElem?_getD, hk]
      show (!decide (co r at_ = 0)) = true
      rw [decide_eq_false z]
      rfl
    rw [h] at m
    cases m
theorem RI.step {w : Nat} {rows : List (List K)} {t : Nat} {R : RS K} (I : RI w rows t R) (ht : t < w) : RI w rows (t + 1) (redStep R t) := by
  unfold redStep
  cases e : chosen R.rest t with
  | nil =>
    have z := chosen_nil e
    exact { I with
      pl := fun c hc => by have := I.pl c hc; omega
      rz := fun r hr c hc => by
        by_cases q : c = t
        · rw [q]; exact z r hr
        · exact I.rz r hr c (by omega) }
  | cons i l =>
    obtain ⟨r0, h0, h1, h2⟩ := chosen_mem e
    have hi : i < R.rest.length := (List.getElem?_eq_some_iff.mp h0).1
    have m0 : r0 ∈ R.rest := List.mem_of_getElem? h0
    have lr0 := I.lr r0 m0
    have el : leadOf R.rest t i = r0.map fun x => Fd.inv (co r0 t) * x := by unfold leadOf; rw [h1]
    dsimp only
    rw [el]
    have ll : (r0.map fun x => Fd.inv (co r0 t) * x).length = w := by rw [List.length_map, lr0]
    have cl : ∀ c, co (r0.map fun x => Fd.inv (co r0 t) * x) c = Fd.inv (co r0 t) * co r0 c := fun c => co_map (by grind) r0 c
    have Pl : mkP (r0.map fun x => Fd.inv (co r0 t) * x) = C (Fd.inv (co r0 t)) * mkP r0 := mkP_eq fun c => by rw [cl, c_Cmul, mkP_c]
    have Pr : mkP r0 = C (co r0 t) * mkP (r0.map fun x => Fd.inv (co r0 t) * x) := by
      have e2 : C (co r0 t) * C (Fd.inv (co r0 t)) = 1 := by rw [← C_mul, Fd.mul_inv _ h2, C_one]
      rw [Pl]
      grind
    have lt : co (r0.map fun x => Fd.inv (co r0 t) * x) t = 1 := by
      rw [cl]
      have := Fd.mul_inv _ h2
      grind
    have lz : ∀ c, c < t → co (r0.map fun x => Fd.inv (co r0 t) * x) c = 0 := fun c hc => by
      rw [cl, I.rz r0 m0 c hc]
      grind
    have mo : ∀ r ∈ R.rest.take i ++ R.rest.drop (i + 1), r ∈ R.rest := fun r hr => by
      rcases List.mem_append.mp hr with q | q
      · exact List.mem_of_mem_take q
      · exact List.mem_of_mem_drop q
    have om : ∀ r ∈ R.rest, r = r0 ∨ r ∈ R.rest.take i ++ R.rest.drop (i + 1) := fun r hr => by
      have sp : R.rest = R.rest.take i ++ r0 :: R.rest.drop (i + 1) := by
        have e3 : R.rest.drop i = r0 :: R.rest.drop (i + 1) := by
          rw [List.drop_eq_getElem_cons hi]
          congr 1
          have e4 := List.getElem?_eq_getElem hi
          rw [h0] at e4
          exact (Option.some.inj e4).symm
        rw [← e3, List.take_append_drop]
      rw [sp] at hr
      rcases List.mem_append.mp hr with q | q
      · exact .inr (List.mem_append_left _ q)
      · rcases List.mem_cons.mp q with q | q
        · exact .inl q
        · exact .inr (List.mem_append_right _ q)
    generalize el2 : (r0.map fun x => Fd.inv (co r0 t) * x) = lead at *
    have cc : ∀ r : List K, r.length = w → ∀ c, co (clr lead t r) c = co r c - co r t * co lead c := fun r hr c => by
      unfold clr
      rw [co_zip _ _ _ _ (by omega)]
    refine { lr := fun r hr => ?_, ld := fun r hr => ?_, lp := ?_, cnt := ?_, pl := fun c hc => ?_, nd := ?_, sp := fun S s => ?_, rz := fun r hr c hc => ?_, un := fun a b r c ha hb => ?_ }
    · obtain ⟨r', h', rfl⟩ := List.mem_map.mp hr
      have := I.lr r' (mo r' h')
      rw [clr_len _ (by omega)]
      exact this
    · rcases List.mem_append.mp hr with q | q
      · obtain ⟨r', h', rfl⟩ := List.mem_map.mp q
        have := I.ld r' h'
        rw [clr_len _ (by omega)]
        exact this
      · rw [List.mem_singleton.mp q]
        exact ll
    · simp only [List.length_append, List.length_map, List.length_singleton, I.lp]
    · have := I.cnt
      simp only [List.length_append, List.length_map, List.length_singleton, List.length_take, List.length_drop]
      omega
    · rcases List.mem_append.mp hc with q | q
      · have := I.pl c q
        omega
      · rw [List.mem_singleton.mp q]
        omega
    · refine List.nodup_append.mpr ⟨I.nd, by simp, fun x hx y hy z => ?_⟩
      have := I.pl x hx
      rw [List.mem_singleton.mp hy] at z
      omega
    · rw [I.sp S s]
      have key : S (mkP lead) → ∀ r : List K, r.length = w → (S (mkP r) ↔ S (mkP (clr lead t r))) := fun hl r hr => by
        rw [clr_P _ (by omega)]
        refine ⟨fun h => s.lin _ _ _ h hl, fun h => ?_⟩
        have := s.lin _ _ (-(co r t)) h hl
        rw [C_neg] at this
        rw [show mkP r = mkP r - C (co r t) * mkP lead - -C (co r t) * mkP lead from by grind]
        exact this
      refine ⟨fun ⟨q1, q2⟩ => ?_, fun ⟨q1, q2⟩ => ?_⟩
      · have sl : S (mkP lead) := by
          rw [Pl]
          exact s.sc _ (q1 r0 m0)
        refine ⟨fun r hr => ?_, fun r hr => ?_⟩
        · obtain ⟨r', h', rfl⟩ := List.mem_map.mp hr
          exact (key sl r' (I.lr r' (mo r' h'))).mp (q1 r' (mo r' h'))
        · rcases List.mem_append.mp hr with q | q
          · obtain ⟨r', h', rfl⟩ := List.mem_map.mp q
            exact (key sl r' (I.ld r' h')).mp (q2 r' h')
          · rw [List.mem_singleton.mp q]
            exact sl
      · have sl : S (mkP lead) := q2 lead (List.mem_append_right _ (List.mem_singleton.mpr rfl))
        refine ⟨fun r hr => ?_, fun r hr => ?_⟩
        · rcases om r hr with q | q
          · rw [q, Pr]
            exact s.sc _ sl
          · exact (key sl r (I.lr r hr)).mpr (q1 _ (List.mem_map.mpr ⟨r, q, rfl⟩))
        · exact (key sl r (I.ld r hr)).mpr (q2 _ (List.mem_append_left _ (List.mem_map.mpr ⟨r, hr, rfl⟩)))
    · obtain ⟨r', h', rfl⟩ := List.mem_map.mp hr
      rw [cc r' (I.lr r' (mo r' h'))]
      by_cases q : c = t
      · rw [q, lt]
        grind
      · rw [I.rz r' (mo r' h') c (by omega), lz c (by omega)]
        grind
    · have ub : b < R.piv.length ∨ b = R.piv.length := by
        have := (List.getElem?_eq_some_iff.mp hb).1
        rw [List.length_append, List.length_singleton] at this
        omega
      have ua : a < R.done.length ∨ a = R.done.length := by
        have := (List.getElem?_eq_some_iff.mp ha).1
        rw [List.length_append, List.length_map, List.length_singleton] at this
        omega
      have lp := I.lp
      rcases ua with ua | ua
      · rw [List.getElem?_append_left (by rw [List.length_map]; exact ua), List.getElem?_map] at ha
        cases ed : R.done[a]? with
        | none => rw [ed] at ha; cases ha
        | some r' =>
          rw [ed] at ha
          cases ha
          have m' := List.mem_of_getElem? ed
          rw [cc r' (I.ld r' m')]
          rcases ub with ub | ub
          · rw [List.getElem?_append_left ub] at hb
            rw [I.un a b r' c ed hb, lz c (I.pl c (List.mem_of_getElem? hb))]
            grind
          · rw [List.getElem?_append_right (by omega), ub, Nat.sub_self] at hb
            cases hb
            rw [lt, if_neg (by omega)]
            grind
      · rw [List.getElem?_append_right (by rw [List.length_map]; omega), List.length_map, ua, Nat.sub_self] at ha
        cases ha
        rcases ub with ub | ub
        · rw [List.getElem?_append_left ub] at hb
          rw [lz c (I.pl c (List.mem_of_getElem? hb)), if_neg (by omega)]
        · rw [List.getElem?_append_right (by omega), ub, Nat.sub_self] at hb
          cases hb
          rw [lt, if_pos (by omega)]
theorem redS_I {w : Nat} {rows : List (List K)} (h : ∀ r ∈ rows, r.length = w) : ∀ t, t ≤ w → RI w rows t (redS rows t)
  | 0, _ => .start h
  | t + 1, ht => (redS_I h t (by omega)).step (by omega)
/-- the end: what is left is zero -/
theorem red_end {w : Nat} {rows : List (List K)} (h : ∀ r ∈ rows, r.length = w) (S : Pol K → Prop) (s : SubP S) : (∀ r ∈ rows, S (mkP r)) ↔ ∀ r ∈ (redS rows w).done, S (mkP r) := by
  have I := redS_I h w (Nat.le_refl _)
  rw [I.sp S s]
  refine ⟨fun q => q.2, fun q => ⟨fun r hr => ?_, q⟩⟩
  have : mkP r = 0 := mkP_eq fun c => by
    by_cases z : c < w
    · exact I.rz r hr c z
    · exact co_out (by rw [I.lr r hr]; omega)
  rw [this]
  exact s.zero
/-! ### the kernel -/
def dot (w : Nat) (a v : Pol K) : K := match w with
  | 0 => 0
  | w + 1 => dot w a v + a.c w * v.c w
theorem dot_lin (a b v : Pol K) (x : K) : ∀ w, dot w (a - C x * b) v = dot w a v - x * dot w b v
  | 0 => by rw [dot, dot, dot]; grind
  | w + 1 => by rw [dot, dot, dot, dot_lin a b v x w, c_sub, c_Cmul]; grind
theorem dot_linr (a b v : Pol K) (x : K) : ∀ w, dot w v (a - C x * b) = dot w v a - x * dot w v b
  | 0 => by rw [dot, dot, dot]; grind
  | w + 1 => by rw [dot, dot, dot, dot_linr a b v x w, c_sub, c_Cmul]; grind
theorem dot_zero (v : Pol K) : ∀ w, dot w 0 v = 0
  | 0 => rfl
  | w + 1 => by rw [dot, dot_zero v w, c_zero]; grind
theorem dot_zeror (v : Pol K) : ∀ w, dot w v 0 = 0
  | 0 => rfl
  | w + 1 => by rw [dot, dot_zeror v w, c_zero]; grind
theorem dot_z {a v : Pol K} : ∀ {w : Nat}, (∀ c, c < w → a.c c * v.c c = 0) → dot w a v = 0
  | 0, _ => rfl
  | w + 1, h => by rw [dot, h w (by omega), dot_z fun c hc => h c (by omega)]; grind
theorem dot_two {a v : Pol K} {p f : Nat} (hpf : p ≠ f) : ∀ {w : Nat}, (∀ c, c < w → c ≠ p → c ≠ f → a.c c * v.c c = 0) → p < w → f < w → dot w a v = a.c p * v.c p + a.c f * v.c f
  | 0, _, h, _ => by omega
  | w + 1, h, hp, hf => by
    rw [dot]
    have one : ∀ {p f : Nat}, p ≠ f → (∀ c, c < w + 1 → c ≠ p → c ≠ f → a.c c * v.c c = 0) → p = w → f < w + 1 → dot w a v = a.c f * v.c f := fun {p f} hpf h hp hf => by
      have : ∀ n, n ≤ w → dot n a v = if f < n then a.c f * v.c f else 0 := fun n => by
        induction n with
        | zero => intro _; rw [dot, if_neg (by omega)]
        | succ n ih =>
          intro hn
          rw [dot, ih (by omega)]
          by_cases q : n = f
          · rw [q, if_neg (by omega), if_pos (by omega)]
            grind
          · rw [h n (by omega) (by omega) q]
            by_cases q2 : f < n
            · rw [if_pos q2, if_pos (by omega)]
              grind
            · rw [if_neg q2, if_neg (by omega)]
              grind
      rw [this w (Nat.le_refl _), if_pos (by omega)]
    by_cases q1 : p = w
    · rw [one hpf h q1 hf, q1]
      grind
    · by_cases q2 : f = w
      · rw [one (Ne.symm hpf) (fun c hc h1 h2 => h c hc h2 h1) q2 hp, q2]
      · rw [dot_two hpf (fun c hc => h c (by omega)) (by omega) (by omega), h w (by omega) (Ne.symm q1) (Ne.symm q2)]
        grind
theorem dot_one {a v : Pol K} {p : Nat} : ∀ {w : Nat}, (∀ c, c < w → c ≠ p → a.c c * v.c c = 0) → p < w → dot w a v = a.c p * v.c p
  | 0, _, h => by omega
  | w + 1, h, hp => by
    rw [dot]
    by_cases q : p = w
    · rw [dot_z fun c hc => h c (by omega) (by omega), q]
      grind
    · rw [dot_one (fun c hc => h c (by omega)) (by omega), h w (by omega) (Ne.symm q)]
      grind
/-- the vector of a free column, turn by turn -/
def kvS (w : Nat) (lines : List (List K)) (piv : List Nat) (at_ : Nat) : Nat → List K
  | 0 => (List.replicate w 0).set at_ 1
  | i + 1 => (kvS w lines piv at_ i).set (piv.getD i 0) (-(co (lines.getD i []) at_))
theorem kvS_len (w : Nat) (lines : List (List K)) (piv : List Nat) (at_ : Nat) : ∀ i, (kvS w lines piv at_ i).length = w
  | 0 => by rw [kvS, List.length_set, List.length_replicate]
  | i + 1 => by rw [kvS, List.length_set, kvS_len w lines piv at_ i]
def kv (w : Nat) (R : RS K) (at_ : Nat) : List K := kvS w R.done R.piv at_ R.piv.length
def free (w : Nat) (R : RS K) : List Nat := (List.range w).filter fun c => !decide (c ∈ R.piv)
def kerL (rows : List (List K)) (w : Nat) : List (List K) := (free w (redS rows w)).map (kv w (redS rows w))
theorem kvS_free {w : Nat} {lines : List (List K)} {piv : List Nat} {at_ : Nat} (hp : ∀ c ∈ piv, c < w) (ha : at_ < w) (c : Nat) (hc : c ∉ piv) : ∀ i, i ≤ piv.length → co (kvS w lines piv at_ i) c = if at_ = c then 1 else 0
  | 0, _ => by
    rw [kvS, co_set (by rw [List.length_replicate]; exact ha), co_rep]
  | i + 1, h => by
    have e := List.getElem?_eq_getElem (show i < piv.length by omega)
    have m := List.mem_of_getElem? e
    have g : piv.getD i 0 = piv[i] := by rw [List.getD_eq_getElem?_getD, e]; rfl
    rw [kvS, co_set (by rw [kvS_len, g]; exact hp _ m), if_neg (fun z => hc (by rw [← z, g]; exact m)), kvS_free hp ha c hc i (by omega)]
theorem kvS_piv {w : Nat} {lines : List (List K)} {piv : List Nat} {at_ : Nat} (hp : ∀ c ∈ piv, c < w) (nd : piv.Nodup) (j : Nat) (c : Nat) (hj : piv[j]? = some c) : ∀ i, i ≤ piv.length → j < i → co (kvS w lines piv at_ i) c = -(co (lines.getD j []) at_)
  | 0, _, h => by omega
  | i + 1, h, hji => by
    have e := List.getElem?_eq_getElem (show i < piv.length by omega)
    have m := List.mem_of_getElem? e
    have g : piv.getD i 0 = piv[i] := by rw [List.getD_eq_getElem?_getD, e]; rfl
    rw [kvS, co_set (by rw [kvS_len, g]; exact hp _ m), g]
    by_cases q : j = i
    · subst q
      rw [e] at hj
      cases hj
      rw [if_pos rfl]
    · refine (if_neg (fun z => ?_)).trans (kvS_piv hp nd j c hj i (by omega) (by omega))
      refine q ?_
      obtain ⟨hl, hj'⟩ := List.getElem?_eq_some_iff.mp hj
      have pw := List.pairwise_iff_getElem.mp nd
      rcases Nat.lt_or_gt_of_ne q with g2 | g2
      · exact absurd (hj'.trans z.symm) (pw j i hl (by omega) g2)
      · exact absurd (z.trans hj'.symm) (pw i j (by omega) hl g2)
theorem mem_free {w : Nat} {R : RS K} {c : Nat} : c ∈ free w R ↔ c < w ∧ c ∉ R.piv := by
  unfold free
  rw [List.mem_filter, List.mem_range]
  simp
/-- the kernel's vectors solve -/
theorem ker_sol {w : Nat} {rows : List (List K)} (h : ∀ r ∈ rows, r.length = w) : ∀ v ∈ kerL rows w, v.length = w ∧ ∀ r ∈ rows, dot w (mkP r) (mkP v) = 0 := fun v hv => by
  obtain ⟨at_, ha, rfl⟩ := List.mem_map.mp hv
  rw [mem_free] at ha
  have I := redS_I h w (Nat.le_refl _)
  refine ⟨kvS_len .., ?_⟩
  have s : SubP fun a : Pol K => dot w a (mkP (kv w (redS rows w) at_)) = 0 := ⟨dot_zero _ _, fun a b x ha hb => by rw [dot_lin, ha, hb]; grind⟩
  refine (red_end h _ s).mpr fun r hr => ?_
  obtain ⟨i, hi⟩ := List.mem_iff_getElem?.mp hr
  have hil := (List.getElem?_eq_some_iff.mp hi).1
  have hp := List.getElem?_eq_getElem (show i < (redS rows w).piv.length by rw [← I.lp]; exact hil)
  generalize ep : (redS rows w).piv[i]'(by rw [← I.lp]; exact hil) = pc at hp
  have mp := List.mem_of_getElem? hp
  have ne : pc ≠ at_ := fun z => ha.2 (z ▸ mp)
  rw [dot_two (p := pc) (f := at_) ne (fun c hc h1 h2 => ?_) (I.pl _ mp) ha.1]
  · rw [mkP_c, mkP_c, mkP_c, mkP_c, I.un i i r pc hi hp, if_pos rfl]
    have k1 : co (kv w (redS rows w) at_) pc = -(co ((redS rows w).done.getD i []) at_) := kvS_piv I.pl I.nd i pc hp _ (Nat.le_refl _) (by rw [← I.lp]; exact hil)
    have k2 : co (kv w (redS rows w) at_) at_ = if at_ = at_ then 1 else 0 := kvS_free I.pl ha.1 at_ ha.2 _ (Nat.le_refl _)
    rw [k1, k2, if_pos rfl, show (redS rows w).done.getD i [] = r from by rw [List.getD_eq_getElem?_getD, hi]; rfl]
    grind
  · rw [mkP_c, mkP_c]
    by_cases m : c ∈ (redS rows w).piv
    · obtain ⟨j, hj⟩ := List.mem_iff_getElem?.mp m
      rw [I.un i j r c hi hj, if_neg]
      · grind
      · rintro rfl
        rw [hp] at hj
        cases hj
        exact h1 rfl
    · have k2 : co (kv w (redS rows w) at_) c = if at_ = c then 1 else 0 := kvS_free I.pl ha.1 c m _ (Nat.le_refl _)
      rw [k2, if_neg (Ne.symm h2)]
      grind
/-- and span the solutions -/
theorem ker_span {w : Nat} {rows : List (List K)} (h : ∀ r ∈ rows, r.length = w) (S : Pol K → Prop) (s : SubP S) (hS : ∀ v ∈ kerL rows w, S (mkP v)) (v : Pol K) (hl : v.len ≤ w) (hv : ∀ r ∈ rows, dot w (mkP r) v = 0) : S v := by
  have I := redS_I h w (Nat.le_refl _)
  have sol : ∀ r ∈ (redS rows w).done, dot w (mkP r) v = 0 := (red_end h _ (⟨dot_zero _ _, fun a b x ha hb => by rw [dot_lin, ha, hb]; grind⟩ : SubP fun a : Pol K => dot w a v = 0)).mp hv
  have ksol : ∀ c ∈ free w (redS rows w), ∀ r ∈ (redS rows w).done, dot w (mkP r) (mkP (kv w (redS rows w) c)) = 0 := fun c hc =>
    (red_end h _ (⟨dot_zero _ _, fun a b x ha hb => by rw [dot_lin, ha, hb]; grind⟩ : SubP fun a : Pol K => dot w a (mkP (kv w (redS rows w) c)) = 0)).mp (ker_sol h _ (List.mem_map.mpr ⟨c, hc, rfl⟩)).2
  -- subtract the free columns, one by one
  have go : ∀ fs : List Nat, (∀ c ∈ fs, c ∈ free w (redS rows w)) → fs.Nodup → ∀ u : Pol K, u.len ≤ w → (∀ r ∈ (redS rows w).done, dot w (mkP r) u = 0) → (∀ c ∈ free w (redS rows w), c ∉ fs → u.c c = 0) → S u := by
    intro fs
    induction fs with
    | nil =>
      intro _ _ u hu su fz
      have : u = 0 := Pol.ext fun c => by
        rw [c_zero]
        by_cases z : c < w
        · by_cases m : c ∈ (redS rows w).piv
          · obtain ⟨j, hj⟩ := List.mem_iff_getElem?.mp m
            have hjl := (List.getElem?_eq_some_iff.mp hj).1
            have hd := List.getElem?_eq_getElem (show j < (redS rows w).done.length by rw [I.lp]; exact hjl)
            have q := su _ (List.mem_of_getElem? hd)
            rw [dot_one (p := c) (fun c' hc' ne => ?_) z, mkP_c, I.un j j _ c hd hj, if_pos rfl] at q
            · rw [← q]
              grind
            · rw [mkP_c]
              by_cases m' : c' ∈ (redS rows w).piv
              · obtain ⟨j', hj'⟩ := List.mem_iff_getElem?.mp m'
                rw [I.un j j' _ c' hd hj', if_neg]
                · grind
                · rintro rfl
                  rw [hj] at hj'
                  cases hj'
                  exact ne rfl
              · rw [fz c' (mem_free.mpr ⟨hc', m'⟩) (by simp)]
                grind
          · exact fz c (mem_free.mpr ⟨z, m⟩) (by simp)
        · exact c_out (by omega)
      rw [this]
      exact s.zero
    | cons c fs ih =>
      intro hm nd u hu su fz
      have hc := hm c (List.mem_cons_self ..)
      have hc2 := mem_free.mp hc
      have ks := hS _ (List.mem_map.mpr ⟨c, hc, rfl⟩)
      have kc : ∀ c' , c' ∉ (redS rows w).piv → (mkP (kv w (redS rows w) c)).c c' = if c = c' then 1 else 0 := fun c' m => by
        rw [mkP_c]
        exact kvS_free I.pl hc2.1 c' m _ (Nat.le_refl _)
      have r := ih (fun c' h' => hm c' (List.mem_cons_of_mem _ h')) (List.nodup_cons.mp nd).2 (u - C (u.c c) * mkP (kv w (redS rows w) c)) ?_ ?_ ?_
      · have q := s.lin _ _ (-(u.c c)) r ks
        rw [C_neg] at q
        rw [show u = u - C (u.c c) * mkP (kv w (redS rows w) c) - -C (u.c c) * mkP (kv w (redS rows w) c) from by grind]
        exact q
      · refine len_le fun i hi => ?_
        rw [c_sub, c_Cmul, c_out (a := u) (by omega), mkP_c, co_out (by show (kvS _ _ _ _ _).length ≤ i; rw [kvS_len]; exact hi)]
        grind
      · intro r hr
        rw [dot_linr, su r hr, ksol c hc r hr]
        grind
      · intro c' h' n'
        rw [c_sub, c_Cmul, kc c' (mem_free.mp h').2]
        by_cases q : c = c'
        · subst q
          rw [if_pos rfl]
          grind
        · rw [if_neg q, fz c' h' fun z => by
            rcases List.mem_cons.mp z with z | z
            · exact q z.symm
            · exact n' z]
          grind
  exact go (free w (redS rows w)) (fun _ h => h) (List.nodup_range.filter _) v hl sol fun c hc n => absurd hc n
end
end FM
set_option autoImplicit false
namespace FM
open Pol
section
variable {K : Type} [Fd K]
/-! ## values of polynomials -/
def evL (y : Pol K) : List K → Pol K
  | [] => 0
  | x :: l => C x + y * evL y l
theorem evL_z (y : Pol K) : ∀ {l : List K}, (∀ i, co l i = 0) → evL y l = 0
  | [], _ => rfl
  | x :: l, h => by
    rw [evL, show x = 0 from h 0, C_zero, evL_z y (l := l) fun i => h (i + 1)]
    grind
theorem evL_eqv (y : Pol K) : ∀ {l m : List K}, Eqv l m → evL y l = evL y m
  | [], m, h => by rw [evL_z y (l := m) fun i => (h i).symm]; rfl
  | x :: l, [], h => evL_z y h
  | x :: l, z :: m, h => by
    rw [evL, evL, evL_eqv y (l := l) (m := m) fun i => h (i + 1), show x = z from h 0]
theorem evL_add (y : Pol K) : ∀ (l m : List K), evL y (padd l m) = evL y l + evL y m
  | [], m => by rw [padd, evL]; grind
  | x :: l, [] => by
    rw [show padd (x :: l) [] = x :: l from rfl, evL, evL]
    grind
  | x :: l, z :: m => by
    rw [padd, evL, evL, evL, evL_add y l m, C_add]
    grind
theorem evL_sc (y : Pol K) (c : K) : ∀ (l : List K), evL y (psc c l) = C c * evL y l
  | [] => by rw [psc, List.map_nil, evL]; grind
  | x :: l => by
    rw [show psc c (x :: l) = (c * x) :: psc c l from rfl, evL, evL, evL_sc y c l, C_mul]
    grind
theorem evL_mul (y : Pol K) (m : List K) : ∀ (l : List K), evL y (pmul l m) = evL y l * evL y m
  | [] => by rw [pmul, evL]; grind
  | x :: l => by
    rw [pmul, evL_add, evL_sc, evL, evL, evL_mul y m l, C_zero]
    grind
def ev (y : Pol K) (a : Pol K) : Pol K := evL y a.l
theorem ev_mk (y : Pol K) (l : List K) : ev y (mkP l) = evL y l := evL_eqv y (co_trK l)
theorem ev_mulP (y a b : Pol K) : ev y (a * b) = ev y a * ev y b := by rw [mul_l, ev_mk, evL_mul]; rfl
theorem ev_addP (y a b : Pol K) : ev y (a + b) = ev y a + ev y b := by
  rw [show a + b = mkP (padd a.l b.l) from rfl, ev_mk, evL_add]
  rfl
theorem ev_C (y : Pol K) (x : K) : ev y (C x) = C x := by
  rw [C, ev_mk, evL, evL]
  show C x + y * 0 = C x
  grind
theorem ev_X (y : Pol K) : ev y X = y := by
  rw [X, ev_mk, evL, evL, evL, C_zero, C_one]
  grind
theorem ev_subP (y a b : Pol K) : ev y (a - b) = ev y a - ev y b := by
  have h := ev_addP y (a - b) b
  rw [show a - b + b = a from by grind] at h
  grind
theorem evp_one (y : Pol K) : ev y 1 = 1 := by rw [← C_one, ev_C]
theorem ev_powP (y a : Pol K) : ∀ n : Nat, ev y (a ^ n) = ev y a ^ n
  | 0 => by rw [show a ^ 0 = 1 from by grind, evp_one]; grind
  | n + 1 => by
    rw [show a ^ (n + 1) = a ^ n * a from by grind, ev_mulP, ev_powP y a n]
    grind
theorem ev_self : ∀ l : List K, evL X l = mkP l
  | [] => mk_nil.symm
  | x :: l => by rw [evL, ev_self l, mk_cons]
/-! ## the field is finite -/
structure Fin9 (K : Type) [Fd K] (p n : Nat) (all : List K) : Prop where
  mem : ∀ x : K, x ∈ all
  nd : all.Nodup
  pow : ∀ x : K, x ^ all.length = x
  q2 : 2 ≤ all.length
  qe : all.length = p ^ n
def linP (b : Pol K) : List K → Pol K
  | [] => 1
  | c :: l => (b - C c) * linP b l
theorem ev_lin (b : Pol K) : ∀ l : List K, ev b (linP X l) = linP b l
  | [] => evp_one b
  | c :: l => by rw [linP, linP, ev_mulP, ev_subP, ev_X, ev_C, ev_lin b l]
theorem dv_pow (a b : Pol K) : ∀ n : Nat, Dv (a - b) (a ^ n - b ^ n)
  | 0 => ⟨0, by grind⟩
  | n + 1 => by
    obtain ⟨u, e⟩ := dv_pow a b n
    exact ⟨u * a + b ^ n, by
      rw [show a ^ (n + 1) - b ^ (n + 1) = (a ^ n - b ^ n) * a + b ^ n * (a - b) from by grind, e]
      grind⟩
theorem c_X (i : Nat) : (X : Pol K).c i = if i = 1 then 1 else 0 := by
  rw [X, mkP_c]
  match i with
  | 0 => rfl
  | 1 => rfl
  | i + 2 => rfl
theorem lin_len (c : K) : (X - C c : Pol K).len = 2 ∧ Mo (X - C c : Pol K) := by
  have h1 : 1 < (X - C c : Pol K).len := lt_len (by
    rw [c_sub, c_X, if_pos rfl, c_C1]
    intro z
    exact Fd.one_ne (K := K) (by grind))
  have h2 : (X - C c : Pol K).len ≤ 2 := len_le fun i hi => by
    obtain ⟨j, rfl⟩ : ∃ j, i = j + 1 := ⟨i - 1, by omega⟩
    rw [c_sub, c_X, if_neg (by omega), c_C1]
    grind
  have h3 : (X - C c : Pol K).len = 2 := by omega
  refine ⟨h3, ?_⟩
  unfold Mo lc
  rw [h3, c_sub, c_X, if_pos rfl, c_C1]
  grind
theorem lin_cp {c d : K} (h : c ≠ d) : Cp (X - C c : Pol K) (X - C d) := by
  have n : d - c ≠ 0 := fun z => h (by grind)
  have e : C (d - c) * C (Fd.inv (d - c)) = 1 := by rw [← C_mul, Fd.mul_inv _ n, C_one]
  have e2 : C (d - c) = C d - C c := by
    rw [show d - c = d + -c from by grind, C_add, C_neg]
    grind
  exact ⟨C (Fd.inv (d - c)), -C (Fd.inv (d - c)), by rw [e2] at e; grind⟩
theorem linP_cp {c : K} : ∀ {l : List K}, c ∉ l → Cp (X - C c) (linP X l)
  | [], _ => (Cp.one _).symm
  | d :: l, h => (Cp.mul (lin_cp fun z => h (by rw [z]; exact List.mem_cons_self ..)).symm (linP_cp (l := l) fun z => h (List.mem_cons_of_mem _ z)).symm).symm
theorem linP_mo : ∀ l : List K, Mo (linP X l) ∧ (linP (X : Pol K) l).len = l.length + 1
  | [] => ⟨mo_one, len_one⟩
  | c :: l => by
    obtain ⟨h1, h2⟩ := linP_mo l
    obtain ⟨h3, h4⟩ := lin_len c
    refine ⟨h4.mul h1, ?_⟩
    rw [linP, len_mul h4.ne h1.ne, h2, h3, List.length_cons]
    omega
theorem linP_dv {F : Pol K} : ∀ {l : List K}, l.Nodup → (∀ c ∈ l, Dv (X - C c) F) → Dv (linP X l) F
  | [], _, _ => ⟨F, by rw [linP]; grind⟩
  | c :: l, nd, h => (linP_cp (List.nodup_cons.mp nd).1).dv_mul (h c (List.mem_cons_self ..)) (linP_dv (List.nodup_cons.mp nd).2 fun d hd => h d (List.mem_cons_of_mem _ hd))
theorem X_pow_mo (n : Nat) : Mo (X ^ n : Pol K) ∧ (X ^ n : Pol K).len = n + 1 := by
  have c : ∀ i, (X ^ n : Pol K).c i = if i = n then 1 else 0 := fun i => by
    rw [show (X ^ n : Pol K) = X ^ n * 1 from by grind, c_Xpow]
    by_cases h : n ≤ i
    · rw [if_pos h]
      by_cases e : i = n
      · rw [if_pos e, e, Nat.sub_self, c_one0]
      · rw [if_neg e, show i - n = (i - n - 1) + 1 from by omega, c_one1]
    · rw [if_neg h, if_neg (by omega)]
  have h1 : n < (X ^ n : Pol K).len := lt_len (by rw [c, if_pos rfl]; exact Fd.one_ne)
  have h2 : (X ^ n : Pol K).len ≤ n + 1 := len_le fun i hi => by rw [c, if_neg (by omega)]
  have h3 : (X ^ n : Pol K).len = n + 1 := by omega
  refine ⟨?_, h3⟩
  unfold Mo lc
  rw [h3, c, if_pos (by omega)]
theorem mo_len_eq {a b : Pol K} (ha : Mo a) (hb : Mo b) (l : a.len = b.len) (h : Dv a b) : a = b := by
  obtain ⟨u, e⟩ := h
  have un : u ≠ 0 := fun z => hb.ne (by rw [e, z]; grind)
  have e2 := len_mul ha.ne un
  rw [← e] at e2
  have := len_pos un
  have := len_pos ha.ne
  have mu : Mo u := by
    have q := lc_mul ha.ne un
    rw [← e, hb, ha] at q
    unfold Mo
    grind
  have : u = 1 := mo_one_of mu (by omega)
  rw [e, this]
  grind
variable {p n s : Nat} {all : List K}
theorem Fin9.lin (F : Fin9 K p n all) (b : Pol K) : b ^ all.length - b = linP b all := by
  have q2 := F.q2
  obtain ⟨m1, l1⟩ := X_pow_mo (K := K) all.length
  have lX : (X : Pol K).len = 2 := by
    have := (X_pow_mo (K := K) 1).2
    rwa [show (X ^ 1 : Pol K) = X from by grind] at this
  obtain ⟨m2, l2⟩ := linP_mo all
  by_cases hq : all.length = 0
  · omega
  · have len : (X ^ all.length - X : Pol K).len = all.length + 1 ∧ Mo (X ^ all.length - X : Pol K) := by
      have c1 : (X ^ all.length - X : Pol K).c all.length = 1 := by
        have e : (X ^ all.length : Pol K).c (all.length + 1 - 1) = 1 := by
          have := m1
          unfold Mo lc at this
          rwa [l1] at this
        rw [c_sub, show (X ^ all.length : Pol K).c all.length = 1 from e, c_X, if_neg (by omega)]
        grind
      have h1 := lt_len (a := (X ^ all.length - X : Pol K)) (i := all.length) (by rw [c1]; exact Fd.one_ne)
      have h2 := len_sub_le (X ^ all.length : Pol K) X (n := all.length + 1) (by omega) (by omega)
      have h3 : (X ^ all.length - X : Pol K).len = all.length + 1 := by omega
      refine ⟨h3, ?_⟩
      unfold Mo lc
      rw [h3]
      exact c1
    have d : Dv (linP X all) (X ^ all.length - X : Pol K) := linP_dv F.nd fun c _ => by
      obtain ⟨u, e⟩ := dv_pow (X : Pol K) (C c) all.length
      have e2 : (C c : Pol K) ^ all.length = C c := by rw [← Chp.C_pow, F.pow]
      exact ⟨u - 1, by rw [e2] at e; grind⟩
    have e := mo_len_eq m2 len.2 (by rw [l2, len.1]) d
    have e2 := congrArg (ev b) e
    rw [ev_lin, ev_subP, ev_powP, ev_X] at e2
    exact e2.symm
theorem linP_split {b g : Pol K} (h : Irr g) : ∀ {l : List K}, Dv g (linP b l) → ∃ c ∈ l, Dv g (b - C c)
  | [], d => by
    have : Cp g (1 : Pol K) := (Cp.one g).symm
    exact (h.not_cp d this).elim
  | c :: l, d => by
    rcases h.prime d with q | q
    · exact ⟨c, List.mem_cons_self .., q⟩
    · obtain ⟨c', h1, h2⟩ := linP_split h q
      exact ⟨c', List.mem_cons_of_mem _ h1, h2⟩
theorem linP_mem {b : Pol K} {c : K} : ∀ {l : List K}, c ∈ l → Dv (b - C c) (linP b l)
  | d :: l, h => by
    rcases List.mem_cons.mp h with q | q
    · rw [linP, ← q]
      exact (Dv.refl _).mulr _
    · rw [linP]
      exact (linP_mem q).mull _
/-- g divides b^q - b iff b is a constant modulo g -/
theorem Fin9.fix (F : Fin9 K p n all) {g : Pol K} (h : Irr g) (b : Pol K) : Dv g (b ^ all.length - b) ↔ ∃ c, Dv g (b - C c) := by
  rw [F.lin]
  exact ⟨fun d => (linP_split h d).imp fun c q => q.2, fun ⟨c, d⟩ => d.trans (linP_mem (F.mem c))⟩
theorem res_uniq {g b : Pol K} (h : Irr g) {c d : K} (h1 : Dv g (b - C c)) (h2 : Dv g (b - C d)) : c = d := by
  by_cases z : c = d
  · exact z
  · have n : c - d ≠ 0 := fun q => z (by grind)
    have e : C (c - d) = C c - C d := by
      rw [show c - d = c + -d from by grind, C_add, C_neg]
      grind
    have d3 : Dv g (C (c - d)) := by
      rw [e, show C c - C d = (b - C d) - (b - C c) from by grind]
      exact h2.sub h1
    exact (h.not_cp d3 (Cp.C n).symm).elim
/-! ## Berlekamp's space -/
def prodP : List (Pol K) → Pol K
  | [] => 1
  | g :: l => g * prodP l
structure WG (gs : List (Pol K)) : Prop where
  irr : ∀ g ∈ gs, Irr g
  mo : ∀ g ∈ gs, Mo g
  ne : gs.Nodup
theorem WG.tail {g : Pol K} {gs : List (Pol K)} (h : WG (g :: gs)) : WG gs := ⟨fun y hy => h.irr y (List.mem_cons_of_mem _ hy), fun y hy => h.mo y (List.mem_cons_of_mem _ hy), (List.nodup_cons.mp h.ne).2⟩
theorem WG.cp {g : Pol K} {gs : List (Pol K)} (h : WG gs) (hg : Irr g) (mg : Mo g) (hn : g ∉ gs) : Cp g (prodP gs) := by
  induction gs with
  | nil => exact (Cp.one g).symm
  | cons x gs ih =>
    have c1 := hg.cp (h.irr x (List.mem_cons_self ..)) mg (h.mo x (List.mem_cons_self ..)) fun z => hn (by rw [z]; exact List.mem_cons_self ..)
    exact (Cp.mul c1.symm (ih h.tail fun z => hn (List.mem_cons_of_mem _ z)).symm).symm
theorem prodP_mo {gs : List (Pol K)} (h : ∀ g ∈ gs, Mo g) : Mo (prodP gs) := by
  induction gs with
  | nil => exact mo_one
  | cons x gs ih => exact (h x (List.mem_cons_self ..)).mul (ih fun g hg => h g (List.mem_cons_of_mem _ hg))
theorem prodP_dv {gs : List (Pol K)} {g : Pol K} (h : g ∈ gs) : Dv g (prodP gs) := by
  induction gs with
  | nil => cases h
  | cons x gs ih =>
    rcases List.mem_cons.mp h with q | q
    · rw [q, prodP]
      exact (Dv.refl _).mulr _
    · rw [prodP]
      exact (ih q).mull _
theorem prodP_dvd {gs : List (Pol K)} (w : WG gs) {a : Pol K} (h : ∀ g ∈ gs, Dv g a) : Dv (prodP gs) a := by
  induction gs with
  | nil => exact ⟨a, by rw [prodP]; grind⟩
  | cons x gs ih =>
    have c := w.tail.cp (w.irr x (List.mem_cons_self ..)) (w.mo x (List.mem_cons_self ..)) (List.nodup_cons.mp w.ne).1
    exact c.dv_mul (h x (List.mem_cons_self ..)) (ih w.tail fun g hg => h g (List.mem_cons_of_mem _ hg))
theorem Fin9.fixF (F : Fin9 K p n all) {gs : List (Pol K)} (w : WG gs) (b : Pol K) : Dv (prodP gs) (b ^ all.length - b) ↔ ∀ g ∈ gs, ∃ c, Dv g (b - C c) :=
  ⟨fun d g hg => (F.fix (w.irr g hg) b).mp ((prodP_dv hg).trans d), fun h => prodP_dvd w fun g hg => (F.fix (w.irr g hg) b).mpr (h g hg)⟩
/-- remainders by the Chinese -/
theorem crt {gs : List (Pol K)} (w : WG gs) (f : Pol K → K) : ∃ b : Pol K, b.len < (prodP gs).len ∧ ∀ g ∈ gs, Dv g (b - C (f g)) := by
  have : ∃ b : Pol K, ∀ g ∈ gs, Dv g (b - C (f g)) := by
    induction gs with
    | nil => exact ⟨0, fun g hg => nomatch hg⟩
    | cons x gs ih =>
      obtain ⟨b, hb⟩ := ih w.tail
      obtain ⟨u, v, e⟩ := w.tail.cp (w.irr x (List.mem_cons_self ..)) (w.mo x (List.mem_cons_self ..)) (List.nodup_cons.mp w.ne).1
      refine ⟨C (f x) * (v * prodP gs) + b * (u * x), fun g hg => ?_⟩
      rcases List.mem_cons.mp hg with q | q
      · rw [q]
        exact ⟨b * u - C (f x) * u, by grind⟩
      · obtain ⟨y, hy⟩ := prodP_dv q
        obtain ⟨z, hz⟩ := hb g q
        refine ⟨C (f x) * v * y - b * v * y + z, ?_⟩
        rw [show C (f x) * (v * prodP gs) + b * (u * x) - C (f g) = C (f x) * (v * prodP gs) + b * (1 - v * prodP gs) - C (f g) from by rw [← e]; grind, hy]
        rw [show C (f x) * (v * (g * y)) + b * (1 - v * (g * y)) - C (f g) = C (f x) * (v * (g * y)) - b * (v * (g * y)) + (b - C (f g)) from by grind, hz]
        grind
  obtain ⟨b, hb⟩ := this
  have nz := (prodP_mo w.mo).ne
  obtain ⟨e, l⟩ := div_spec b nz
  refine ⟨rem b (prodP gs), l, fun g hg => ?_⟩
  obtain ⟨u, hu⟩ := hb g hg
  obtain ⟨v, hv⟩ := prodP_dv hg
  exact ⟨u - quo b (prodP gs) * v, by
    rw [show rem b (prodP gs) - C (f g) = (b - C (f g)) - quo b (prodP gs) * prodP gs from by grind, hu, hv]
    grind⟩
/-! ### spans -/
def Sp : List (Pol K) → Pol K → Prop
  | [], b => b = 0
  | v :: B, b => ∃ c, Sp B (b - C c * v)
theorem Sp.sub : ∀ B : List (Pol K), SubP (Sp B)
  | [] => ⟨rfl, fun a b x ha hb => by
      show a - C x * b = 0
      rw [show a = 0 from ha, show b = 0 from hb]
      grind⟩
  | v :: B => by
    have s := Sp.sub B
    refine ⟨⟨0, ?_⟩, fun a b x ⟨c, ha⟩ ⟨d, hb⟩ => ⟨c - x * d, ?_⟩⟩
    · rw [C_zero, show (0 : Pol K) - 0 * v = 0 from by grind]
      exact s.zero
    · have := s.lin _ _ x ha hb
      rw [show C (c - x * d) = C c - C x * C d from by rw [show c - x * d = c + -(x * d) from by grind, C_add, C_neg, C_mul]; grind]
      rw [show a - C x * b - (C c - C x * C d) * v = a - C c * v - C x * (b - C d * v) from by grind]
      exact this
theorem Sp.mem : ∀ {B : List (Pol K)} {v : Pol K}, v ∈ B → Sp B v
  | u :: B, v, h => by
    rcases List.mem_cons.mp h with q | q
    · exact ⟨1, by rw [q, C_one, show u - 1 * u = 0 from by grind]; exact (Sp.sub B).zero⟩
    · exact ⟨0, by rw [C_zero, show v - 0 * u = v from by grind]; exact Sp.mem q⟩
theorem Sp.le {S : Pol K → Prop} (s : SubP S) : ∀ {B : List (Pol K)}, (∀ v ∈ B, S v) → ∀ b, Sp B b → S b
  | [], _, b, h => by
    rw [show b = 0 from h]
    exact s.zero
  | v :: B, hB, b, ⟨c, h⟩ => by
    have h1 := Sp.le s (B := B) (fun u hu => hB u (List.mem_cons_of_mem _ hu)) _ h
    have h2 := s.lin _ _ (-c) h1 (hB v (List.mem_cons_self ..))
    rw [C_neg] at h2
    rw [show b = b - C c * v - -C c * v from by grind]
    exact h2
/-- all of a span -/
def spL (all : List K) : List (Pol K) → List (Pol K)
  | [] => [0]
  | v :: B => all.flatMap fun c => (spL all B).map fun u => u + C c * v
theorem spL_mem (hm : ∀ x : K, x ∈ all) : ∀ {B : List (Pol K)} {b : Pol K}, Sp B b → b ∈ spL all B
  | [], b, h => by rw [show b = 0 from h]; exact List.mem_singleton.mpr rfl
  | v :: B, b, ⟨c, h⟩ => List.mem_flatMap.mpr ⟨c, hm c, List.mem_map.mpr ⟨_, spL_mem hm h, by grind⟩⟩
theorem flat_len {α β : Type} {f : α → List β} {m : Nat} : ∀ l : List α, (∀ x ∈ l, (f x).length = m) → (l.flatMap f).length = l.length * m
  | [], _ => by simp
  | x :: l, h => by
    rw [List.flatMap_cons, List.length_append, h x (List.mem_cons_self ..), flat_len l fun y hy => h y (List.mem_cons_of_mem _ hy), List.length_cons, Nat.succ_mul]
    omega
theorem spL_len : ∀ B : List (Pol K), (spL all B).length = all.length ^ B.length
  | [] => rfl
  | v :: B => by
    rw [spL, flat_len (m := all.length ^ B.length) all fun c _ => (by rw [List.length_map]; exact spL_len B), List.length_cons, Nat.pow_succ, Nat.mul_comm]
/-- all rows of r members -/
def tup (all : List K) : Nat → List (List K)
  | 0 => [[]]
  | r + 1 => all.flatMap fun c => (tup all r).map fun t => c :: t
theorem tup_len : ∀ r, (tup all r).length = all.length ^ r
  | 0 => rfl
  | r + 1 => by rw [tup, flat_len (m := all.length ^ r) all fun c _ => (by rw [List.length_map]; exact tup_len r), Nat.pow_succ, Nat.mul_comm]
theorem tup_l : ∀ {r : Nat} {t : List K}, t ∈ tup all r → t.length = r
  | 0, t, h => by rw [List.mem_singleton.mp h]; rfl
  | r + 1, t, h => by
    obtain ⟨c, _, h2⟩ := List.mem_flatMap.mp h
    obtain ⟨u, h3, rfl⟩ := List.mem_map.mp h2
    rw [List.length_cons, tup_l h3]
theorem nodup_fm {α : Type} {T : List (List α)} (hT : T.Nodup) : ∀ {l : List α}, l.Nodup → (l.flatMap fun c => T.map fun t => c :: t).Nodup
  | [], _ => List.nodup_nil
  | x :: l, h => by
    rw [List.flatMap_cons]
    obtain ⟨h1, h2⟩ := List.nodup_cons.mp h
    refine List.nodup_append.mpr ⟨?_, nodup_fm hT h2, fun a ha b hb z => ?_⟩
    · refine List.pairwise_map.mpr (hT.imp fun {a b} hne z => hne ?_)
      injection z
    · obtain ⟨t, _, rfl⟩ := List.mem_map.mp ha
      obtain ⟨c, hc, hb2⟩ := List.mem_flatMap.mp hb
      obtain ⟨u, _, rfl⟩ := List.mem_map.mp hb2
      injection z with z1 z2
      exact h1 (z1 ▸ hc)
theorem tup_nd (nd : all.Nodup) : ∀ r, (tup all r).Nodup
  | 0 => by simp [tup]
  | r + 1 => nodup_fm (tup_nd nd r) nd
theorem pigeon {α : Type} [DecidableEq α] : ∀ {a b : List α}, a.Nodup → (∀ x ∈ a, x ∈ b) → a.length ≤ b.length
  | [], b, _, _ => Nat.zero_le _
  | x :: a, b, nd, h => by
    obtain ⟨h1, h2⟩ := List.nodup_cons.mp nd
    have hx := h x (List.mem_cons_self ..)
    have := pigeon (b := b.erase x) h2 fun y hy => (List.mem_erase_of_ne fun z => by subst z; exact h1 hy).mpr (h y (List.mem_cons_of_mem _ hy))
    rw [List.length_erase_of_mem hx] at this
    have := List.length_pos_of_mem hx
    rw [List.length_cons]
    omega
/-- the value of b at g -/
noncomputable def res (g b : Pol K) : K := by
  classical
  exact if h : ∃ c, Dv g (b - C c) then h.choose else 0
theorem res_eq {g b : Pol K} (h : Irr g) {c : K} (d : Dv g (b - C c)) : res g b = c := by
  have q : ∃ c, Dv g (b - C c) := ⟨c, d⟩
  unfold res
  rw [dif_pos q]
  exact res_uniq h q.choose_spec d
/-- a spanning list is not too short -/
theorem span_len (F : Fin9 K p n all) {gs : List (Pol K)} (w : WG gs) {B : List (Pol K)} (hB : ∀ b : Pol K, b.len < (prodP gs).len → (∀ g ∈ gs, ∃ c, Dv g (b - C c)) → Sp B b) : gs.length ≤ B.length := by
  have key : ∀ t ∈ tup all gs.length, t ∈ (spL all B).map fun b => gs.map fun g => res g b := fun t ht => by
    have lt := tup_l ht
    obtain ⟨b, l, hb⟩ := crt w (fun g : Pol K => t.getD (gs.findIdx fun (x : Pol K) => decide (x.l = g.l)) 0)
    refine List.mem_map.mpr ⟨b, spL_mem F.mem (hB b l fun g hg => ⟨_, hb g hg⟩), ?_⟩
    refine List.ext_getElem? fun i => ?_
    rw [List.getElem?_map]
    by_cases hi : i < gs.length
    · have e := List.getElem?_eq_getElem hi
      have m := List.mem_of_getElem? e
      rw [e]
      show some (res gs[i] b) = _
      rw [res_eq (w.irr _ m) (hb _ m)]
      have fi : (gs.findIdx fun (x : Pol K) => decide (x.l = (gs[i]).l)) = i := by
        refine (List.findIdx_eq hi).mpr ⟨decide_eq_true rfl, fun j hj => ?_⟩
        refine decide_eq_false fun z => ?_
        have ne := (List.pairwise_iff_getElem.mp w.ne) j i (by omega) hi hj
        exact ne (by cases hx : gs[j]; cases hy : gs[i]; rw [hx, hy] at z; cases z; rfl)
      rw [fi, List.getD_eq_getElem?_getD, List.getElem?_eq_getElem (by omega)]
      rfl
    · rw [List.getElem?_eq_none (by omega), List.getElem?_eq_none (by omega)]
      rfl
  have h := pigeon (tup_nd F.nd gs.length) key
  rw [tup_len, List.length_map, spL_len] at h
  exact (Nat.pow_le_pow_iff_right F.q2).mp h
end
end FM
set_option autoImplicit false
namespace FM
open Pol
section
variable {K : Type} [Fd K] {p n s : Nat} {all : List K}
instance : DecidableEq (Pol K) := fun a b => if h : a.l = b.l then isTrue (by cases a; cases b; cases h; rfl) else isFalse fun z => h (by rw [z])
/-! ## splitting by an element of the space -/
noncomputable def fil (b : Pol K) (c : K) (ps : List (Pol K)) : List (Pol K) := ps.filter fun g => decide (res g b = c)
theorem prodP_filter (f : Pol K → Bool) : ∀ ps : List (Pol K), prodP ps = prodP (ps.filter f) * prodP (ps.filter fun g => !f g)
  | [] => by
    show (1 : Pol K) = 1 * 1
    grind
  | g :: ps => by
    have ih := prodP_filter f ps
    rw [List.filter_cons, List.filter_cons]
    cases h : f g with
    | true =>
      rw [if_pos rfl, if_neg (by decide), prodP, prodP, ih]
      grind
    | false =>
      rw [if_neg (by decide), if_pos (by decide), prodP, prodP, ih]
      grind
theorem WG.sub {ps qs : List (Pol K)} (w : WG ps) (h : qs.Sublist ps) : WG qs := ⟨fun g hg => w.irr g (h.subset hg), fun g hg => w.mo g (h.subset hg), w.ne.sublist h⟩
theorem split_gcd {ps : List (Pol K)} (w : WG ps) {b : Pol K} (hb : ∀ g ∈ ps, ∃ c, Dv g (b - C c)) (c : K) : IsG (prodP (fil b c ps)) (prodP ps) (b - C c) := by
  have wf := w.sub (qs := fil b c ps) List.filter_sublist
  have wn := w.sub (qs := ps.filter fun g => !decide (res g b = c)) List.filter_sublist
  obtain ⟨y, hy⟩ : Dv (prodP (fil b c ps)) (b - C c) := prodP_dvd wf fun g hg => by
    obtain ⟨h1, h2⟩ := List.mem_filter.mp hg
    obtain ⟨d, hd⟩ := hb g h1
    have e := res_eq (w.irr g h1) hd
    rw [of_decide_eq_true h2] at e
    rw [e]
    exact hd
  refine ⟨prodP_mo wf.mo, _, y, prodP_filter _ ps, hy, ?_⟩
  have cp : ∀ qs : List (Pol K), (∀ g ∈ qs, Cp g (b - C c)) → Cp (prodP qs) (b - C c) := fun qs => by
    induction qs with
    | nil => intro _; exact Cp.one _
    | cons g qs ih => intro h; exact Cp.mul (h g (List.mem_cons_self ..)) (ih fun x hx => h x (List.mem_cons_of_mem _ hx))
  have := cp (ps.filter fun g => !decide (res g b = c)) fun g hg => by
    obtain ⟨h1, h2⟩ := List.mem_filter.mp hg
    rcases (w.irr g h1).dich (b - C c) with q | q
    · have e := res_eq (w.irr g h1) q
      rw [e] at h2
      simp at h2
    · exact q
  exact ((this.symm).of_dv ⟨prodP (fil b c ps), by rw [hy]; grind⟩).symm
theorem fil_len {ps : List (Pol K)} (w : WG ps) : (prodP ps).len = 1 ↔ ps = [] := by
  refine ⟨fun h => ?_, fun h => by rw [h]; exact len_one⟩
  cases ps with
  | nil => rfl
  | cons g ps =>
    have m := w.mo g (List.mem_cons_self ..)
    have m2 := prodP_mo w.tail.mo
    have := len_mul m.ne m2.ne
    have := (w.irr g (List.mem_cons_self ..)).1
    have := len_pos m2.ne
    rw [prodP] at h
    omega
noncomputable def prt (all : List K) (b : Pol K) (ps : List (Pol K)) : List (List (Pol K)) := (all.map fun c => fil b c ps).filter fun l => !l.isEmpty
theorem perm_filter_or {α : Type} (f g : α → Bool) (l : List α) (h : ∀ x ∈ l, f x = true → g x = false) : (l.filter f ++ l.filter g).Perm (l.filter fun x => f x || g x) := by
  induction l with
  | nil => exact .refl _
  | cons x l ih =>
    have ih := ih fun y hy => h y (List.mem_cons_of_mem _ hy)
    rw [List.filter_cons, List.filter_cons, List.filter_cons]
    cases e1 : f x with
    | true =>
      rw [h x (List.mem_cons_self ..) e1]
      exact ih.cons x
    | false =>
      cases e2 : g x with
      | true => exact (List.perm_middle).trans (ih.cons x)
      | false => exact ih
theorem flat_fil (b : Pol K) (ps : List (Pol K)) : ∀ {al : List K}, al.Nodup → (al.flatMap fun c => fil b c ps).Perm (ps.filter fun g => decide (res g b ∈ al))
  | [], _ => by
    rw [List.flatMap_nil]
    have : (ps.filter fun g => decide (res g b ∈ ([] : List K))) = [] := List.filter_eq_nil_iff.mpr fun g _ => by simp
    rw [this]
  | c :: al, nd => by
    obtain ⟨h1, h2⟩ := List.nodup_cons.mp nd
    rw [List.flatMap_cons]
    refine ((flat_fil b ps h2).append_left _).trans ?_
    refine (perm_filter_or (fun g => decide (res g b = c)) (fun g => decide (res g b ∈ al)) ps fun g _ hg => decide_eq_false fun z => h1 (by rw [← of_decide_eq_true hg]; exact z)).trans ?_
    refine List.Perm.of_eq (List.filter_congr fun g _ => ?_)
    by_cases q : res g b = c
    · simp [q]
    · simp [q]
theorem flatten_ne {α : Type} : ∀ (L : List (List α)), (L.filter fun l => !l.isEmpty).flatten = L.flatten
  | [] => rfl
  | [] :: L => by
    rw [List.filter_cons, if_neg (by simp), flatten_ne L]
    rfl
  | (x :: l) :: L => by
    rw [List.filter_cons, if_pos (by simp), List.flatten_cons, List.flatten_cons, flatten_ne L]
theorem prt_perm (hm : ∀ x : K, x ∈ all) (nd : all.Nodup) (b : Pol K) (ps : List (Pol K)) : (prt all b ps).flatten.Perm ps := by
  unfold prt
  rw [flatten_ne, ← List.flatMap_def]
  refine (flat_fil b ps nd).trans (.of_eq ?_)
  exact List.filter_eq_self.mpr fun g _ => by exact decide_eq_true (hm (res g b))
theorem prt_ne {b : Pol K} {ps l : List (Pol K)} (h : l ∈ prt all b ps) : l ≠ [] ∧ l.Sublist ps ∧ ∀ g ∈ l, ∀ g' ∈ l, res g b = res g' b := by
  obtain ⟨h1, h2⟩ := List.mem_filter.mp h
  obtain ⟨c, _, rfl⟩ := List.mem_map.mp h1
  refine ⟨fun z => (by rw [z] at h2; cases h2), List.filter_sublist, fun g hg g' hg' => ?_⟩
  rw [of_decide_eq_true (List.mem_filter.mp hg).2, of_decide_eq_true (List.mem_filter.mp hg').2]
/-- the turns of the splitting -/
noncomputable def dS (all : List K) (B : List (Pol K)) (gs : List (Pol K)) : Nat → List (List (Pol K))
  | 0 => [gs]
  | i + 1 => if (dS all B gs i).length < B.length then (dS all B gs i).flatMap (prt all (B.getD i 0)) else dS all B gs i
structure DI (B : List (Pol K)) (gs : List (Pol K)) (i : Nat) (L : List (List (Pol K))) : Prop where
  perm : L.flatten.Perm gs
  ne : ∀ l ∈ L, l ≠ [] ∧ l.Sublist gs
  ag : B.length ≤ L.length ∨ ∀ l ∈ L, ∀ j b, j < i → B[j]? = some b → ∀ g ∈ l, ∀ g' ∈ l, res g b = res g' b
theorem flatten_flatMap_perm {α : Type} {f : List α → List (List α)} (h : ∀ l, (f l).flatten.Perm l) : ∀ L : List (List α), (L.flatMap f).flatten.Perm L.flatten
  | [] => .refl _
  | l :: L => by
    rw [List.flatMap_cons, List.flatten_append, List.flatten_cons]
    exact (h l).append (flatten_flatMap_perm h L)
theorem dS_I (F : Fin9 K p n all) {B gs : List (Pol K)} (hg : gs ≠ []) : ∀ i, i ≤ B.length → DI B gs i (dS all B gs i)
  | 0, _ => ⟨by rw [dS, List.flatten_singleton], fun l hl => by rw [List.mem_singleton.mp hl]; exact ⟨hg, .refl _⟩, .inr fun l _ j b hj => absurd hj (Nat.not_lt_zero _)⟩
  | i + 1, h => by
    have I := dS_I F (B := B) hg i (by omega)
    rw [dS]
    split
    · rename_i hl
      refine ⟨(flatten_flatMap_perm (prt_perm F.mem F.nd _) _).trans I.perm, fun l hl' => ?_, .inr fun l hl' j b hj hb g hg' g' hg2 => ?_⟩
      · obtain ⟨l0, h0, h1⟩ := List.mem_flatMap.mp hl'
        obtain ⟨q1, q2, _⟩ := prt_ne h1
        exact ⟨q1, q2.trans (I.ne l0 h0).2⟩
      · obtain ⟨l0, h0, h1⟩ := List.mem_flatMap.mp hl'
        obtain ⟨q1, q2, q3⟩ := prt_ne h1
        by_cases z : j = i
        · subst z
          have e : B.getD j 0 = b := by rw [List.getD_eq_getElem?_getD, hb]; rfl
          rw [e] at q3
          exact q3 g hg' g' hg2
        · rcases I.ag with y | y
          · omega
          · exact y l0 h0 j b (by omega) hb g (q2.subset hg') g' (q2.subset hg2)
    · rename_i hl
      exact ⟨I.perm, I.ne, .inl (by omega)⟩
theorem flat_ones {α : Type} : ∀ (L : List (List α)), (∀ l ∈ L, l ≠ []) → L.length ≤ L.flatten.length ∧ (L.flatten.length ≤ L.length → ∀ l ∈ L, l.length = 1)
  | [], _ => ⟨Nat.le_refl _, fun _ l hl => nomatch hl⟩
  | l :: L, h => by
    obtain ⟨h1, h2⟩ := flat_ones L fun x hx => h x (List.mem_cons_of_mem _ hx)
    have := List.length_pos_iff.mpr (h l (List.mem_cons_self ..))
    rw [List.flatten_cons, List.length_append, List.length_cons]
    refine ⟨by omega, fun q x hx => ?_⟩
    rcases List.mem_cons.mp hx with z | z
    · rw [z]; omega
    · exact h2 (by omega) x z
/-- at the end each part is one irreducible -/
theorem dS_end (F : Fin9 K p n all) {B gs : List (Pol K)} (w : WG gs) (hg : gs ≠ []) (hB : ∀ b : Pol K, b.len < (prodP gs).len → (∀ g ∈ gs, ∃ c, Dv g (b - C c)) → Sp B b) (hW : ∀ b ∈ B, ∀ g ∈ gs, ∃ c, Dv g (b - C c)) :
    ∃ hs : List (Pol K), hs.Perm gs ∧ dS all B gs B.length = hs.map fun g => [g] := by
  have I := dS_I F (B := B) hg B.length (Nat.le_refl _)
  have ones : ∀ l ∈ dS all B gs B.length, l.length = 1 := by
    rcases I.ag with y | y
    · refine (flat_ones _ fun l hl => (I.ne l hl).1).2 ?_
      have := span_len F w hB
      have := I.perm.length_eq
      omega
    · intro l hl
      obtain ⟨n1, n2⟩ := I.ne l hl
      match l, n1, n2 with
      | [g], _, _ => rfl
      | g :: g' :: l', _, n2 =>
        have nd := w.ne.sublist n2
        have hne : g ≠ g' := fun z => (List.nodup_cons.mp nd).1 (by rw [z]; exact List.mem_cons_self ..)
        have mg : g ∈ gs := n2.subset (List.mem_cons_self ..)
        have mg' : g' ∈ gs := n2.subset (List.mem_cons_of_mem _ (List.mem_cons_self ..))
        obtain ⟨b, lb, hb⟩ := crt w fun x => if x = g then 1 else 0
        have sb := hB b lb fun x hx => ⟨_, hb x hx⟩
        -- all of the span agrees on g and g'
        have s : SubP fun a : Pol K => ∃ c, Dv g (a - C c) ∧ Dv g' (a - C c) := ⟨⟨0, by
            rw [C_zero]
            exact ⟨⟨0, by grind⟩, ⟨0, by grind⟩⟩⟩, fun a a' x ⟨c, h1, h2⟩ ⟨d, h3, h4⟩ => ⟨c - x * d, by
            have e : C (c - x * d) = C c - C x * C d := by rw [show c - x * d = c + -(x * d) from by grind, C_add, C_neg, C_mul]; grind
            obtain ⟨u1, e1⟩ := h1
            obtain ⟨u2, e2⟩ := h2
            obtain ⟨u3, e3⟩ := h3
            obtain ⟨u4, e4⟩ := h4
            rw [e]
            exact ⟨⟨u1 - C x * u3, by rw [show a - C x * a' - (C c - C x * C d) = (a - C c) - C x * (a' - C d) from by grind, e1, e3]; grind⟩, ⟨u2 - C x * u4, by rw [show a - C x * a' - (C c - C x * C d) = (a - C c) - C x * (a' - C d) from by grind, e2, e4]; grind⟩⟩⟩⟩
        obtain ⟨c, h1, h2⟩ := Sp.le s (fun v hv => by
          obtain ⟨j, hj⟩ := List.mem_iff_getElem?.mp hv
          have := y _ hl j v (List.getElem?_eq_some_iff.mp hj).1 hj g (List.mem_cons_self ..) g' (List.mem_cons_of_mem _ (List.mem_cons_self ..))
          obtain ⟨c1, d1⟩ := hW v hv g mg
          obtain ⟨c2, d2⟩ := hW v hv g' mg'
          rw [res_eq (w.irr g mg) d1, res_eq (w.irr g' mg') d2] at this
          rw [← this] at d2
          exact ⟨c1, d1, d2⟩) b sb
        have e1 := res_uniq (w.irr g mg) h1 (hb g mg)
        have e2 := res_uniq (w.irr g' mg') h2 (hb g' mg')
        rw [if_pos rfl] at e1
        rw [if_neg (Ne.symm hne)] at e2
        exact absurd (e1.symm.trans e2) Fd.one_ne
  have shape : ∀ L : List (List (Pol K)), (∀ l ∈ L, l.length = 1) → L = L.flatten.map fun g => [g] := fun L => by
    induction L with
    | nil => intro _; rfl
    | cons l L ih =>
      intro h
      have h1 := h l (List.mem_cons_self ..)
      match l, h1 with
      | [g], _ =>
        rw [List.flatten_cons, List.map_append, ← ih fun x hx => h x (List.mem_cons_of_mem _ hx)]
        rfl
  exact ⟨_, I.perm, shape _ ones⟩
end
end FM
set_option autoImplicit false
namespace FM
open Pol
section
variable {K : Type} [Fd K] {p n s : Nat} {all : List K}
/-! ## the matrix of Berlekamp -/
theorem frobq (H : Chp K p s) (a b : Pol K) : ∀ n : Nat, (a + b) ^ (p ^ n) = a ^ (p ^ n) + b ^ (p ^ n)
  | 0 => by
    rw [Nat.pow_zero]
    grind
  | n + 1 => by
    have e : ∀ x : Pol K, x ^ (p ^ (n + 1)) = (x ^ (p ^ n)) ^ p := fun x => by
      rw [Nat.pow_succ]
      have : ∀ m k : Nat, x ^ (m * k) = (x ^ m) ^ k := fun m k => by
        induction k with
        | zero => rw [Nat.mul_zero]; grind
        | succ k ih => rw [Nat.mul_succ, show x ^ (m * k + m) = x ^ (m * k) * x ^ m from by grind, ih]; grind
      exact this _ _
    rw [e, e, e, frobq H a b n, H.frob]
def comb (v : Pol K) (r : Nat → Pol K) : Nat → Pol K
  | 0 => 0
  | k + 1 => comb v r k + C (v.c k) * r k
theorem c_comb (v : Pol K) (r : Nat → Pol K) (j : Nat) : ∀ w, (comb v r w).c j = dot w (mkP ((List.range w).map fun k => (r k).c j)) v
  | 0 => rfl
  | w + 1 => by
    have ih := c_comb v r j w
    rw [comb, c_add, ih, c_Cmul, dot]
    have e : ∀ (m : Nat), ∀ k, k < m → (mkP ((List.range m).map fun k => (r k).c j)).c k = (r k).c j := fun m k hk => by
      rw [mkP_c]
      unfold co
      rw [List.getD_eq_getElem?_getD, List.getElem?_map, List.getElem?_range hk]
      rfl
    have d : ∀ (u u' : Pol K) (m : Nat), (∀ k, k < m → u.c k = u'.c k) → dot m u v = dot m u' v := fun u u' m => by
      induction m with
      | zero => intro _; rfl
      | succ m ih => intro h; rw [dot, dot, ih fun k hk => h k (by omega), h m (by omega)]
    rw [d _ _ w fun k hk => (e w k hk).trans (e (w + 1) k (by omega)).symm, e (w + 1) w (by omega)]
    grind
theorem comb_sub (v : Pol K) (r r' : Nat → Pol K) : ∀ w, comb v (fun k => r k - r' k) w = comb v r w - comb v r' w
  | 0 => by rw [comb, comb, comb]; grind
  | w + 1 => by rw [comb, comb, comb, comb_sub v r r' w]; grind
theorem comb_mul (v f : Pol K) (r : Nat → Pol K) : ∀ w, comb v (fun k => f * r k) w = f * comb v r w
  | 0 => by rw [comb, comb]; grind
  | w + 1 => by rw [comb, comb, comb_mul v f r w]; grind
theorem comb_len (v : Pol K) (r : Nat → Pol K) {m : Nat} (h : ∀ k, (r k).len ≤ m) : ∀ w, (comb v r w).len ≤ m
  | 0 => by rw [comb, len_zero]; omega
  | w + 1 => by
    rw [comb]
    refine len_add_le _ _ (comb_len v r h w) (len_le fun i hi => ?_)
    rw [c_Cmul, c_out (a := r w) (by have := h w; omega)]
    grind
theorem comb_X (v : Pol K) (w : Nat) (h : v.len ≤ w) : comb v (fun k => X ^ k) w = v := Pol.ext fun i => by
  have e : ∀ w, (comb v (fun k => X ^ k) w).c i = if i < w then v.c i else 0 := fun w => by
    induction w with
    | zero => rw [if_neg (by omega)]; rfl
    | succ w ih =>
      rw [comb, c_add, ih, c_Cmul, show (X : Pol K) ^ w = X ^ w * 1 from by grind, c_Xpow]
      by_cases h1 : i < w
      · rw [if_pos h1, if_neg (by omega), if_pos (by omega)]
        grind
      · by_cases h2 : i = w
        · rw [if_neg h1, if_pos (by omega), if_pos (by omega), h2, Nat.sub_self, c_one0]
          grind
        · rw [if_neg h1, if_neg (c := i < w + 1) (by omega), if_pos (by omega), show i - w = (i - w - 1) + 1 from by omega, c_one1]
          grind
  rw [e]
  by_cases z : i < w
  · rw [if_pos z]
  · rw [if_neg z, c_out (by omega)]
theorem pow_mul' (x : Pol K) (m k : Nat) : (x ^ m) ^ k = x ^ (m * k) := by
  induction k with
  | zero => rw [Nat.mul_zero]; grind
  | succ k ih => rw [Nat.mul_succ, show x ^ (m * k + m) = x ^ (m * k) * x ^ m from by grind, ← ih]; grind
theorem comb_q (H : Chp K p s) (F : Fin9 K p n all) (v : Pol K) : ∀ w, (comb v (fun k => X ^ k) w) ^ all.length = comb v (fun k => X ^ (k * all.length)) w
  | 0 => by
    rw [comb, comb]
    obtain ⟨m, hm⟩ : ∃ m, all.length = m + 1 := ⟨all.length - 1, by have := F.q2; omega⟩
    rw [hm]
    grind
  | w + 1 => by
    have ih := comb_q H F v w
    rw [comb, comb, ← ih]
    have fq : ∀ a b : Pol K, (a + b) ^ all.length = a ^ all.length + b ^ all.length := fun a b => by
      rw [F.qe]
      exact frobq H a b n
    rw [fq, Chp.mul_pow, ← Chp.C_pow, F.pow, pow_mul']
/-- the matrix's polynomials -/
def rowB (F : Pol K) (q k : Nat) : Pol K := rem (X ^ (k * q)) F - X ^ k
def colB (F : Pol K) (q w : Nat) : List (List K) := (List.range w).map fun j => (List.range w).map fun k => (rowB F q k).c j
theorem colB_len (F : Pol K) (q w : Nat) : ∀ r ∈ colB F q w, r.length = w := fun r hr => by
  obtain ⟨j, _, rfl⟩ := List.mem_map.mp hr
  rw [List.length_map, List.length_range]
theorem sol_iff (H : Chp K p s) (Fi : Fin9 K p n all) {F : Pol K} {w : Nat} (hF : F.len = w + 1) (v : Pol K) (hv : v.len ≤ w) :
    (∀ r ∈ colB F all.length w, dot w (mkP r) v = 0) ↔ Dv F (v ^ all.length - v) := by
  have fn : F ≠ 0 := fun z => by
    rw [z, len_zero] at hF
    cases hF
  have hs : ∀ k, ∃ u, rowB F all.length k = X ^ (k * all.length) - X ^ k - F * u := fun k => by
    obtain ⟨e, _⟩ := div_spec (X ^ (k * all.length)) fn
    exact ⟨quo (X ^ (k * all.length)) F, by unfold rowB; grind⟩
  have cv := comb_X v w hv
  have cq := comb_q H Fi v w
  rw [cv] at cq
  have e : comb v (rowB F all.length) w = (v ^ all.length - v) - F * comb v (fun k => quo (X ^ (k * all.length)) F) w := by
    have : rowB F all.length = fun k => (fun k => (fun k => X ^ (k * all.length)) k - (fun k => X ^ k) k) k - (fun k => F * quo (X ^ (k * all.length)) F) k := by
      funext k
      obtain ⟨e, _⟩ := div_spec (X ^ (k * all.length)) fn
      unfold rowB
      dsimp only
      grind
    rw [this, comb_sub, comb_sub, comb_mul, cv, ← cq]
  have ll : (comb v (rowB F all.length) w).len < F.len := by
    have hk : ∀ m, m ≤ w → (comb v (rowB F all.length) m).len ≤ w := fun m => by
      induction m with
      | zero => intro _; rw [comb, len_zero]; omega
      | succ m ih =>
        intro hm
        rw [comb]
        refine len_add_le _ _ (ih (by omega)) (len_le fun i hi => ?_)
        have l1 := (div_spec (X ^ (m * all.length)) fn).2
        have l2 := (X_pow_mo (K := K) m).2
        rw [c_Cmul, rowB, c_sub, c_out (a := rem (X ^ (m * all.length)) F) (by omega), c_out (a := (X : Pol K) ^ m) (by omega)]
        grind
    have := hk w (Nat.le_refl _)
    omega
  have z_iff : (∀ r ∈ colB F all.length w, dot w (mkP r) v = 0) ↔ comb v (rowB F all.length) w = 0 := by
    refine ⟨fun h => Pol.ext fun j => ?_, fun h r hr => ?_⟩
    · by_cases q : j < w
      · rw [c_comb]
        exact h _ (List.mem_map.mpr ⟨j, List.mem_range.mpr q, rfl⟩)
      · exact c_out (by omega)
    · obtain ⟨j, _, rfl⟩ := List.mem_map.mp hr
      rw [← c_comb, h]
      rfl
  rw [z_iff]
  refine ⟨fun h => ?_, fun ⟨u, h⟩ => ?_⟩
  · rw [h] at e
    exact ⟨comb v (fun k => quo (X ^ (k * all.length)) F) w, by grind⟩
  · have d : Dv F (comb v (rowB F all.length) w) := ⟨u - comb v (fun k => quo (X ^ (k * all.length)) F) w, by rw [e, h]; grind⟩
    have r0 := (rem_zero_iff (comb v (rowB F all.length) w) fn).mpr d
    have := (div_uniq fn (a := comb v (rowB F all.length) w) (q := 0) (r := comb v (rowB F all.length) w) (by grind) ll).2
    rw [← this, r0]
/-- the space's basis -/
def basisL (F : Pol K) (q w : Nat) : List (List K) := (redS (kerL (colB F q w) w) w).done
def basisP (F : Pol K) (q w : Nat) : List (Pol K) := (basisL F q w).map mkP
theorem basis_ok (H : Chp K p s) (Fi : Fin9 K p n all) {gs : List (Pol K)} (w : WG gs) {m : Nat} (hF : (prodP gs).len = m + 1) :
    (∀ b : Pol K, b.len < (prodP gs).len → (∀ g ∈ gs, ∃ c, Dv g (b - C c)) → Sp (basisP (prodP gs) all.length m) b) ∧ ∀ b ∈ basisP (prodP gs) all.length m, ∀ g ∈ gs, ∃ c, Dv g (b - C c) := by
  have kl : ∀ r ∈ kerL (colB (prodP gs) all.length m) m, r.length = m := fun r hr => (ker_sol (colB_len _ _ _) r hr).1
  refine ⟨fun b lb hb => ?_, fun b hb => ?_⟩
  · have d := (Fi.fixF w b).mpr hb
    have sol := (sol_iff H Fi hF b (by omega)).mpr d
    refine ker_span (colB_len _ _ _) _ (Sp.sub _) ?_ b (by omega) sol
    exact (red_end kl _ (Sp.sub (basisP (prodP gs) all.length m))).mpr fun r hr => Sp.mem (List.mem_map.mpr ⟨r, hr, rfl⟩)
  · have fq : ∀ a b : Pol K, (a + b) ^ all.length = a ^ all.length + b ^ all.length := fun a b => by
      rw [Fi.qe]
      exact frobq H a b n
    have sW : SubP fun a : Pol K => Dv (prodP gs) (a ^ all.length - a) := by
      refine ⟨?_, fun a b x ⟨u, ha⟩ ⟨v, hb⟩ => ?_⟩
      · obtain ⟨k, hk⟩ : ∃ k, all.length = k + 1 := ⟨all.length - 1, by have := Fi.q2; omega⟩
        rw [hk]
        exact ⟨0, by grind⟩
      · have e : (a - C x * b) ^ all.length = a ^ all.length - C x * b ^ all.length := by
          rw [show a - C x * b = a + C (-x) * b from by rw [C_neg]; grind, fq, Chp.mul_pow, ← Chp.C_pow, Fi.pow, C_neg]
          grind
        exact ⟨u - C x * v, by rw [e]; grind⟩
    obtain ⟨r, hr, rfl⟩ := List.mem_map.mp hb
    have := (red_end kl _ sW).mp (fun r hr => (sol_iff H Fi hF _ (by have := (ker_sol (colB_len _ _ _) r hr).1; have := mk_len r; omega)).mp (ker_sol (colB_len _ _ _) r hr).2) r hr
    exact (Fi.fixF w _).mp this
/-- remainders of products -/
theorem rem_mul {F : Pol K} (h : F ≠ 0) (a b : Pol K) : rem (rem a F * rem b F) F = rem (a * b) F := by
  obtain ⟨e1, _⟩ := div_spec a h
  obtain ⟨e2, _⟩ := div_spec b h
  obtain ⟨e3, l3⟩ := div_spec (rem a F * rem b F) h
  exact ((div_uniq h (a := a * b) (q := quo (rem a F * rem b F) F + quo a F * b + rem a F * quo b F) (r := rem (rem a F * rem b F) F) (by grind) l3).2).symm
theorem rem_self {F : Pol K} (h : F ≠ 0) {a : Pol K} (l : a.len < F.len) : rem a F = a := (div_uniq h (q := 0) (by grind) l).2
end
end FM
set_option autoImplicit false
namespace FM
open PySem PySem.Spec PyProof.Rows L2 LamX Pol
/-! ## more of the 14 fields -/
namespace FT
variable (T : FT)
def nat : Nat → Nat
  | 0 => 0
  | n + 1 => T.ad (nat n) 1
def pw (a : Nat) : Nat → Nat
  | 0 => 1
  | n + 1 => T.ml (pw a n) a
def numI (p : Int) (l : List Int) : Int := l.foldr (fun x t => t * p + x) 0
def chk6 : Bool := decide (T.nat T.p = 0) && T.all1 (fun a => decide (T.pw (T.pw a (T.q / T.p)) T.p = a) && decide (T.pw a T.q = a) && decide (numI T.p (T.e a) = a)
  && (decide (a = 0) || decide (T.pw a (if 2 < T.q then (T.q / T.p) % (T.q - 1) else 0) = T.pw a (T.q / T.p))) && (List.range 30).all fun k => decide ((T.e a).map (fun (x : Int) => (k : Int) * x % (T.p : Int)) = T.e (T.ml (T.nat k) a)))
end FT
theorem tabs6 : tabs.all FT.chk6 = true := by decide +kernel
namespace FC
variable (c : FC)
theorem v_nat : ∀ n : Nat, ((n : Nat) : Kq c).v = c.T.nat n
  | 0 => rfl
  | n + 1 => by
    show c.T.ad ((n : Nat) : Kq c).v 1 = _
    rw [v_nat n]
    rfl
theorem v_pow (a : Kq c) : ∀ n : Nat, (a ^ n).v = c.T.pw a.v n
  | 0 => rfl
  | n + 1 => by
    show c.T.ml (a ^ n).v a.v = _
    rw [v_pow a n]
    rfl
def s : Nat := c.T.q / c.T.p
theorem g7 : c.T.nat c.T.p = 0 ∧ ∀ a : Kq c, (a ^ c.s) ^ c.T.p = a ∧ a ^ c.T.q = a ∧ FT.numI c.T.p (c.e a) = (a.v : Int) ∧ (a ≠ 0 → a ^ (if 2 < c.T.q then c.s % (c.T.q - 1) else 0) = a ^ c.s) ∧ ∀ k : Nat, k < 30 → (c.e a).map (fun (x : Int) => (k : Int) * x % (c.T.p : Int)) = c.e (((k : Nat) : Kq c) * a) := by
  have h := c.get tabs6
  rw [FT.chk6, Bool.and_eq_true] at h
  refine ⟨of_decide_eq_true h.1, fun a => ?_⟩
  have h2 := FT.all1_get h.2 a.lt
  rw [Bool.and_eq_true, Bool.and_eq_true, Bool.and_eq_true, Bool.and_eq_true, Bool.or_eq_true, List.all_eq_true] at h2
  obtain ⟨⟨⟨⟨h3, h4⟩, h5⟩, h6⟩, h7⟩ := h2
  refine ⟨Kq.ext ?_, Kq.ext ?_, of_decide_eq_true h5, fun n => Kq.ext ?_, fun k hk => ?_⟩
  · rw [v_pow, v_pow]
    exact of_decide_eq_true h3
  · rw [v_pow]
    exact of_decide_eq_true h4
  · rcases h6 with z | z
    · exact absurd (Kq.ext (of_decide_eq_true z)) n
    · rw [v_pow, v_pow]
      exact of_decide_eq_true z
  · have q := of_decide_eq_true (h7 k (List.mem_range.mpr hk))
    rw [show c.e (((k : Nat) : Kq c) * a) = c.T.e (c.T.ml (c.T.nat k) a.v) from by rw [← v_nat]; rfl]
    exact q
theorem chp : Chp (Kq c) c.T.p c.s := ⟨c.g0.1, Kq.ext (by rw [v_nat]; exact c.g7.1), fun x => (c.g7.2 x).1⟩
/-- all members, in order -/
def all : List (Kq c) := (List.range c.T.q).pmap (fun v h => ⟨v, h⟩) fun v h => List.mem_range.mp h
theorem all_len : c.all.length = c.T.q := by rw [all, List.length_pmap, List.length_range]
theorem all_get {i : Nat} (h : i < c.T.q) : c.all[i]? = some ⟨i, h⟩ := by
  rw [List.getElem?_eq_getElem (by rw [all_len]; exact h)]
  unfold all
  rw [List.getElem_pmap]
  simp
theorem fin : Fin9 (Kq c) c.T.p c.T.n c.all where
  mem x := List.mem_of_getElem? (c.all_get x.lt)
  nd := by
    refine List.pairwise_iff_getElem.mpr fun i j hi hj hij z => ?_
    rw [all_len] at hi hj
    have e1 := c.all_get hi
    have e2 := c.all_get hj
    rw [List.getElem?_eq_getElem (by rw [all_len]; exact hi)] at e1
    rw [List.getElem?_eq_getElem (by rw [all_len]; exact hj)] at e2
    have e1 := Option.some.inj e1
    have e2 := Option.some.inj e2
    rw [e1, e2] at z
    injection z with z
    omega
  pow x := by rw [all_len]; exact (c.g7.2 x).2.1
  q2 := by rw [all_len]; exact c.q2
  qe := by rw [all_len]; exact c.g0.2.2.2.2.2
theorem eR_eq (l : List (Kq c)) : tII (l.map c.e) = c.eR l := by
  unfold tII eR eK
  rw [List.map_map]
  rfl
end FC
/-! ## powers by halving -/
section
variable {R M : Type} [Lean.Grind.CommRing R]
def bS (mul : M → M → M) (o b : M) (l : Nat) : Nat → M × M × Nat
  | 0 => (o, b, l)
  | i + 1 => (if (bS mul o b l i).2.2 % 2 = 1 then mul (bS mul o b l i).1 (bS mul o b l i).2.1 else (bS mul o b l i).1, mul (bS mul o b l i).2.1 (bS mul o b l i).2.1, (bS mul o b l i).2.2 / 2)
def bN (l : Nat) : Nat := if h : l = 0 then 0 else bN (l / 2) + 1
termination_by l
decreasing_by omega
theorem bS_cons (mul : M → M → M) (o b : M) (l : Nat) : ∀ i, bS mul o b l (i + 1) = bS mul (if l % 2 = 1 then mul o b else o) (mul b b) (l / 2) i
  | 0 => rfl
  | i + 1 => by
    rw [bS, bS_cons mul o b l i]
    rfl
theorem bS_end (mul : M → M → M) (ρ : R → M) (hm : ∀ x y, mul (ρ x) (ρ y) = ρ (x * y)) : ∀ (l : Nat) (x y : R), (bS mul (ρ x) (ρ y) l (bN l)).1 = ρ (x * y ^ l) ∧ (bS mul (ρ x) (ρ y) l (bN l)).2.2 = 0 ∧ ∀ i, i < bN l → 0 < (bS mul (ρ x) (ρ y) l i).2.2
  | l, x, y => by
    by_cases h : l = 0
    · subst h
      rw [bN, dif_pos rfl]
      refine ⟨?_, rfl, fun i hi => absurd hi (by omega)⟩
      show ρ x = _
      rw [show x * y ^ 0 = x from by grind]
    · have hb : bN l = bN (l / 2) + 1 := by
        conv => lhs; rw [bN]
        rw [dif_neg h]
      rw [hb, bS_cons, hm y y]
      have e : l = 2 * (l / 2) + l % 2 := (Nat.div_add_mod l 2).symm
      have py : ∀ k : Nat, (y * y) ^ k = y ^ (2 * k) := fun k => by
        induction k with
        | zero => grind
        | succ k ih => rw [show (y * y) ^ (k + 1) = (y * y) ^ k * (y * y) from by grind, ih, show 2 * (k + 1) = 2 * k + 1 + 1 from by omega]; grind
      have fin : ∀ z : R, (ρ z = if l % 2 = 1 then mul (ρ x) (ρ y) else ρ x) → z * (y * y) ^ (l / 2) = x * y ^ l → (bS mul (if l % 2 = 1 then mul (ρ x) (ρ y) else ρ x) (ρ (y * y)) (l / 2) (bN (l / 2))).1 = ρ (x * y ^ l) ∧ (bS mul (if l % 2 = 1 then mul (ρ x) (ρ y) else ρ x) (ρ (y * y)) (l / 2) (bN (l / 2))).2.2 = 0 ∧ ∀ i, i < bN (l / 2) + 1 → 0 < (bS mul (ρ x) (ρ y) l i).2.2 := fun z hz1 hz2 => by
        have ih := bS_end mul ρ hm (l / 2) z (y * y)
        rw [← hz1, ← hz2]
        refine ⟨ih.1, ih.2.1, fun i hi => ?_⟩
        cases i with
        | zero =>
          show 0 < l
          omega
        | succ i =>
          rw [bS_cons, hm, ← hm, hm y y, ← hz1]
          exact ih.2.2 i (by omega)
      by_cases q : l % 2 = 1
      · refine fin (x * y) (by rw [if_pos q, hm]) ?_
        rw [py]
        have : y ^ l = y ^ (2 * (l / 2)) * y := by
          conv => lhs; rw [e, q]
          grind
        rw [this]
        grind
      · refine fin x (by rw [if_neg q]) ?_
        rw [py, show 2 * (l / 2) = l from by omega]
termination_by l => l
decreasing_by omega
end
end FM
set_option autoImplicit false
namespace FM
open PySem PySem.Spec PyProof.Rows L2 LamX Pol
/-! ## rows of members: the walks -/
inductive R__trimmed : List D → D → Prop
  | mk (c : FC) (l : List (Kq c)) (h : l.length ≤ 1000) : R__trimmed [c.eL l, .fld c.d] (c.eR (trK l))
inductive R__add : List D → D → Prop
  | mk (c : FC) (k j : Bool) (a b : List (Kq c)) (ha : a.length ≤ 1000) (hb : b.length ≤ 1000) : R__add [dseq k (a.map c.eK), dseq j (b.map c.eK), .fld c.d] (c.eL (addL a b))
inductive R__negative : List D → D → Prop
  | mk (c : FC) (a : List (Kq c)) (ha : a.length ≤ 1000) : R__negative [c.eR a, .fld c.d] (c.eL (a.map (- ·)))
inductive R__multiply : List D → D → Prop
  | mk (c : FC) (a b : List (Kq c)) (ha : a.length ≤ 400) (hb : b.length ≤ 400) : R__multiply [c.eR a, c.eR b, .fld c.d] (c.eL (mulL a b))
inductive R__divide : List D → D → Prop
  | mk (c : FC) (a b : List (Kq c)) (ha : a.length ≤ 400) (hb : b.length ≤ 400) (h0 : b ≠ []) (h1 : co b (b.length - 1) ≠ 0) : R__divide [c.eR a, c.eR b, .fld c.d] (.tup [c.eL (divL a b).1, c.eL (divL a b).2])
section
variable {P : Program} {w : World} {K : PySem.W.Frag} {mg : Str → Option Value} {base : Heap} {L : Lc} {f : Addr} {fd : FuncData}
/-! ### _trimmed -/
abbrev N__trimmed : List Str := ["row", "field", "zero", "size"]
theorem sc__trimmed : FnScope N__trimmed ["row", "field"] (defScope s__trimmed) := ⟨rfl, rfl, rfl, by decide +kernel, rfl, by decide +kernel, by decide +kernel⟩
theorem ok__trimmed (T : Txt K mg L) (C1 : FnC P w K mg base L "member_of" 1 ["row", "n"] R_member_of) (F : FunS K "_trimmed" "_trimmed" s__trimmed f fd) : FnOk P w K mg base CX0 2 f fd ["row", "field"] (spD L R__trimmed) := by
  refine fn_ev F sc__trimmed (fun ds r h => by cases h; rfl) fun cdv A outer s H E hr ds r h => ?_
  cases h with
  | mk c l hl =>
    have nd := sc__trimmed.nd
    have ln : (l.map c.eK).length = l.length := List.length_map ..
    have hzc := zc_le isK l
    refine .ret (evb_cons (evs_set 2 (ev_call C1 hr (eva_cons (ev_tup eva_nil) (eva_cons (ev_fld_n T.cls (ev_var 1)) eva_nil)) c.k_zero) nd) (evb_cons (evs_set 3 (ev_len T.len (evq_l (ev_var 0))) nd) (evb_cons (evs_pre (S1 := [.val (c.eL l), .val (.fld c.d), .val (c.eK 0), .val (.int ((l.length - 0 : Nat) : Int))]) ?_ (evs_while (W := fun i => [.val (c.eL l), .val (.fld c.d), .val (c.eK 0), .val (.int ((l.length - i : Nat) : Int))]) (zc isK l) PassesOwn.never (fun i hi => ?_) ?_)) (evb_one (evs_ret ((ev_tupleL T.tuple (evq_n (evn_slice (evq_l (ev_var 0)) evo_none (evo_some (ev_var 3))))).is ?_))))))
    · rw [ln]
      exact .same (.same (.same (.same .nil)))
    · obtain ⟨x, hx, hq⟩ := zc_lt hi
      have hx0 : x = 0 := of_decide_eq_true hq
      subst hx0
      refine ⟨?_, _, evb_one (evs_set 3 (d := .int ((l.length - (i + 1) : Nat) : Int)) ((ev_sub (ev_var 3) ev_int).is (by congr 1; omega)) nd), .inl rfl⟩
      refine EvT.is (EvW.t (evw_and (evt_gt (ev_var 3) ev_int) fun _ => evw_and1 (evt_eqT (xs := c.e 0) (ys := c.e 0) hr.units (ev_ix (evq_l (ev_var 0)) (ev_sub (ev_var 3) ev_int) (d := c.eK 0) (atI_of (j := l.length - 1 - i) (by omega) ?_)) (ev_var 2)))) ?_
      · rw [List.getElem?_map, hx]
        rfl
      · simp
        omega
    · by_cases hl : zc isK l < l.length
      · obtain ⟨x, hx, hq⟩ := zc_at hl
        have hx0 : x ≠ 0 := of_decide_eq_false hq
        refine EvT.is (EvW.t (evw_and (evt_gt (ev_var 3) ev_int) fun _ => evw_and1 (evt_eqT (xs := c.e x) (ys := c.e 0) hr.units (ev_ix (evq_l (ev_var 0)) (ev_sub (ev_var 3) ev_int) (d := c.eK x) (atI_of (j := l.length - 1 - zc isK l) (by omega) ?_)) (ev_var 2)))) ?_
        · rw [List.getElem?_map, hx]
          rfl
        · rw [c.e_eq, decide_eq_false hx0, Bool.and_false]
      · refine EvT.is (EvW.t (evw_and (j := false) (evt_gt (ev_var 3) ev_int) fun z => ?_)) ?_
        · simp at z
          omega
        · rw [Bool.and_false]
    · unfold FC.eR trK dropZ
      rw [List.map_take]
      unfold cutD
      have h1 : HT.sIx (l.map c.eK).length 0 none = 0 := rfl
      have h2 : HT.sIx (l.map c.eK).length (l.map c.eK).length (some ((l.length - zc isK l : Nat) : Int)) = l.length - zc isK l := by
        rw [ln, HT.sIx_nat]
        omega
      rw [h1, h2]
      rfl
/-! ### _add, _negative -/
abbrev N__add : List Str := ["a", "b", "field", "zero", "low", "high", "x", "y"]
theorem sc__add : FnScope N__add ["a", "b", "field"] (defScope s__add) := ⟨rfl, rfl, rfl, by decide +kernel, rfl, by decide +kernel, by decide +kernel⟩
theorem ok__add (T : Txt K mg L) (C1 : FnC P w K mg base L "member_of" 1 ["row", "n"] R_member_of) (C2 : FnC P w K mg base L "member_sum" 1 ["a", "b", "p"] R_member_sum) (F : FunS K "_add" "_add" s__add f fd) : FnOk P w K mg base CX0 2 f fd ["a", "b", "field"] (spD L R__add) := by
  refine fn_ev F sc__add (fun ds r h => by cases h; rfl) fun cdv A outer s H E hr ds r h => ?_
  cases h with
  | mk c k j a b ha hb =>
    have nd := sc__add.nd
    have la : (a.map c.eK).length = a.length := List.length_map ..
    have lb : (b.map c.eK).length = b.length := List.length_map ..
    refine .ret (evb_cons (evs_set 3 (ev_call C1 hr (eva_cons (ev_tup eva_nil) (eva_cons (ev_fld_n T.cls (ev_var 2)) eva_nil)) c.k_zero) nd) ?_)
    refine evb_cons (evs_set 4 (d := c.eL (a ++ List.replicate (b.length - a.length) 0)) ((ev_new (evn_cat (evq_n (evn_list T.list (evq_of (ev_var 0)))) (evq_n (evn_rep (evq_n (evn_lst (eva_cons (ev_var 3) eva_nil))) (ev_sub (ev_len T.len (evq_of (ev_var 1))) (ev_len T.len (evq_of (ev_var 0)))) ?_)) ?_)).is ?_) nd) ?_
    · rw [la, lb]
      omega
    · rw [List.length_replicate, la, lb]
      omega
    · unfold FC.eL
      rw [List.map_append, List.map_replicate, la, lb, show ((b.length : Int) - (a.length : Int)).toNat = b.length - a.length by omega]
    refine evb_cons (evs_set 5 (d := c.eL (b ++ List.replicate (a.length - b.length) 0)) ((ev_new (evn_cat (evq_n (evn_list T.list (evq_of (ev_var 1)))) (evq_n (evn_rep (evq_n (evn_lst (eva_cons (ev_var 3) eva_nil))) (ev_sub (ev_len T.len (evq_of (ev_var 0))) (ev_len T.len (evq_of (ev_var 1)))) ?_)) ?_)).is ?_) nd) ?_
    · rw [la, lb]
      omega
    · rw [List.length_replicate, la, lb]
      omega
    · unfold FC.eL
      rw [List.map_append, List.map_replicate, la, lb, show ((a.length : Int) - (b.length : Int)).toNat = a.length - b.length by omega]
    refine evb_one (evs_ret ((ev_new (evn_lc (own := [("x", 6), ("y", 7)]) (t := .two 6 7) (xs := (a ++ List.replicate (b.length - a.length) 0).zip (b ++ List.replicate (a.length - b.length) 0)) (en := fun q => .tup [c.eK q.1, c.eK q.2]) (f := fun q => c.eK (q.1 + q.2)) ((evi_zipL T.zip (ev_var 4) (ev_var 5)).is (zipD_map _ _ _ _))
      (lcb (fun _ _ _ _ _ => evg_two 6 7 rfl nd) rfl fun i d hd => ⟨_, rfl, fun _ _ _ _ _ => ev_call C2 hr (eva_cons (ev_var 6) (eva_cons (ev_var 7) (eva_cons (ev_fld_p T.cls (ev_var 2)) eva_nil))) (c.k_sum _ _)⟩) ?_ rfl nd (blkOk_by (N := N__add) (sc := defScope s__add) (by decide +kernel)))).is ?_))
    · rw [List.length_zip, List.length_append, List.length_append, List.length_replicate, List.length_replicate]
      omega
    · unfold FC.eL addL
      rw [List.map_map]
      rfl
abbrev N__negative : List Str := ["a", "field", "x"]
theorem sc__negative : FnScope N__negative ["a", "field"] (defScope s__negative) := ⟨rfl, rfl, rfl, by decide +kernel, rfl, by decide +kernel, by decide +kernel⟩
theorem ok__negative (T : Txt K mg L) (C2 : FnC P w K mg base L "member_negative" 1 ["a", "p"] R_member_negative) (F : FunS K "_negative" "_negative" s__negative f fd) : FnOk P w K mg base CX0 2 f fd ["a", "field"] (spD L R__negative) := by
  refine fn_ev F sc__negative (fun ds r h => by cases h; rfl) fun cdv A outer s H E hr ds r h => ?_
  cases h with
  | mk c a ha =>
    have nd := sc__negative.nd
    refine .ret (evb_one (evs_ret ((ev_new (evn_lc (own := [("x", 2)]) (t := .one 2) (xs := a) (en := c.eK) (f := fun q => c.eK (-q)) (evi_tup (ev_var 0))
      (lcb (fun _ _ _ _ _ => evg_one 2 nd) rfl fun i d hd => ⟨_, rfl, fun _ _ _ _ _ => ev_call C2 hr (eva_cons (ev_var 2) (eva_cons (ev_fld_p T.cls (ev_var 1)) eva_nil)) (c.k_neg _)⟩) (by omega) rfl nd (blkOk_by (N := N__negative) (sc := defScope s__negative) (by decide +kernel)))).is ?_)))
    unfold FC.eL
    rw [List.map_map]
    rfl
end
end FM
set_option autoImplicit false
namespace FM
open PySem PySem.Spec PyProof.Rows L2 LamX Pol
section
variable {P : Program} {w : World} {K : PySem.W.Frag} {mg : Str → Option Value} {base : Heap} {L : Lc} {f : Addr} {fd : FuncData}
/-! ### _multiply -/
abbrev N__multiply : List Str := ["a", "b", "field", "out", "i", "x", "k", "y", "_"]
theorem sc__multiply : FnScope N__multiply ["a", "b", "field"] (defScope s__multiply) := ⟨rfl, rfl, rfl, by decide +kernel, rfl, by decide +kernel, by decide +kernel⟩
theorem ok__multiply (T : Txt K mg L) (C1 : FnC P w K mg base L "member_of" 1 ["row", "n"] R_member_of) (C2 : FnC P w K mg base L "member_sum" 1 ["a", "b", "p"] R_member_sum) (C3 : FnC P w K mg base L "member_product" 3 ["a", "b", "modulus", "p"] R_member_product) (F : FunS K "_multiply" "_multiply" s__multiply f fd) : FnOk P w K mg base CX0 4 f fd ["a", "b", "field"] (spD L R__multiply) := by
  refine fn_ev F sc__multiply (fun ds r h => by cases h; rfl) fun cdv A outer s H E hr ds r h => ?_
  cases h with
  | mk c a b ha hb =>
    have nd := sc__multiply.nd
    have hr1 : Room 1 _ := hr.mono (by decide)
    have la : (a.map c.eK).length = a.length := List.length_map ..
    have lb : (b.map c.eK).length = b.length := List.length_map ..
    let O : Nat → List (Kq c) := mulOut 0 (· + ·) (· * ·) a b
    have lO : ∀ i, (O i).length = a.length + b.length := fun i => mulOut_len i
    refine .ret (evb_cons (S' := [.val (c.eR a), .val (c.eR b), .val (.fld c.d), .own ((O 0).map c.eK), .any, .any, .any, .any, .any]) ((evs_lc 3 (own := [("_", 8)]) (t := .one 8) (xs := List.range (a.length + b.length)) (en := fun (i : Nat) => .int (0 + (i : Int) * 1)) (f := fun _ => c.eK 0) ((evi_range1 T.range (ev_add (ev_len T.len (evq_t (ev_var 0))) (ev_len T.len (evq_t (ev_var 1)))) (by rw [la, lb]; omega)).is (by rw [la, lb]; rfl)) (lcb (fun _ _ _ _ _ => evg_one 8 nd) rfl fun i d hd => ⟨_, rfl, fun _ _ _ _ _ => ev_call C1 hr1 (eva_cons (ev_tup eva_nil) (eva_cons (ev_fld_n T.cls (ev_var 2)) eva_nil)) c.k_zero⟩) (by rw [List.length_range]; omega) rfl nd (blkOk_by (N := N__multiply) (sc := defScope s__multiply) (by decide +kernel)) (sw_true rfl rfl rfl (by decide +kernel))).is ?_) ?_)
    · show Out.nx [_, _, _, Sl.own _, _, _, _, _, _] = _
      rw [rep_range]
      show _ = Out.nx [_, _, _, Sl.own ((List.replicate (a.length + b.length) 0).map c.eK), _, _, _, _, _]
      rw [List.map_replicate]
    refine evb_cons (evs_forT (xs := a.zipIdx) (en := fun q => .tup [.int (q.2 : Nat), c.eK q.1]) (t := .two 4 5) (W := fun i => [.val (c.eR a), .val (c.eR b), .val (.fld c.d), .own ((O i).map c.eK), .any, .any, .any, .any, .any]) (evi_enumT T.enumerate (ev_var 0)) (evg_two 4 5 rfl nd) PassesOwn.never rfl fun i q hq => ?_) ?_
    · obtain ⟨hx, hi⟩ := zipIdx_get hq
      obtain ⟨x, i'⟩ := q
      subst hi
      have hil : i' < a.length := (List.getElem?_eq_some_iff.mp hx).1
      let M : Nat → List (Kq c) := mulIn 0 (· + ·) (· * ·) (O i') i' x b
      have lM : ∀ k, (M k).length = a.length + b.length := fun k => by
        show (mulIn _ _ _ _ _ _ _ k).length = _
        rw [mulIn_len, lO]
      refine ⟨_, _, rfl, evb_weak (evb_one (evs_forT (xs := b.zipIdx) (en := fun q => .tup [.int (q.2 : Nat), c.eK q.1]) (t := .two 6 7) (W := fun k => [.val (c.eR a), .val (c.eR b), .val (.fld c.d), .own ((M k).map c.eK), .val (.int (i' : Nat)), .val (c.eK x), .any, .any, .any]) (evi_enumT T.enumerate (ev_var 1)) (evg_two 6 7 rfl nd) PassesOwn.never rfl fun k q hq => ?_)) (S2 := [.val (c.eR a), .val (c.eR b), .val (.fld c.d), .own ((O (i' + 1)).map c.eK), .any, .any, .any, .any, .any]) ?_, .inl rfl⟩
      · obtain ⟨hy, hk⟩ := zipIdx_get hq
        obtain ⟨y, k'⟩ := q
        subst hk
        have hkl : k' < b.length := (List.getElem?_eq_some_iff.mp hy).1
        refine ⟨_, _, rfl, evb_weak (evb_one (evs_item 3 (j := i' + k') (ev_call C2 hr1 (eva_cons (ev_ix (evq_own 3) (ev_add (ev_var 4) (ev_var 6)) (d := c.eK ((M k').getD (i' + k') 0)) (atI_of (j := i' + k') (by simp) ?_)) (eva_cons (ev_call C3 hr (eva_cons (ev_var 5) (eva_cons (ev_var 7) (eva_cons (ev_fld_m T.cls (ev_var 2)) (eva_cons (ev_fld_p T.cls (ev_var 2)) eva_nil)))) (c.k_mul x y)) (eva_cons (ev_fld_p T.cls (ev_var 2)) eva_nil))) (c.k_sum _ _)) (ev_add (ev_var 4) (ev_var 6)) (ixN_of (by simp) ?_))) ?_, .inl rfl⟩
        · rw [List.getElem?_map, get_of 0 (by rw [lM]; omega)]
          rfl
        · rw [List.length_map, lM]
          omega
        · show Weak [_, _, _, Sl.own _, _, _, _, _, _] _
          have e : ((M k').map c.eK).set (i' + k') (c.eK ((M k').getD (i' + k') 0 + x * y)) = (M (k' + 1)).map c.eK := by
            rw [← List.map_set]
            show _ = (mulIn 0 (· + ·) (· * ·) (O i') i' x b (k' + 1)).map c.eK
            rw [mulIn, getD_of hy]
          rw [e]
          exact .same (.same (.same (.same (.same (.same (.any (.any (.any .nil))))))))
      · have e : M b.length = O (i' + 1) := by
          show mulIn _ _ _ _ _ _ _ _ = mulOut _ _ _ _ _ _
          rw [mulOut, getD_of hx]
        rw [List.length_zipIdx, e]
        exact .same (.same (.same (.same (.any (.any (.any (.any (.any .nil))))))))
    · rw [List.length_zipIdx]
      exact evb_frz 3 rfl (evb_one (evs_ret (ev_var 3)))
/-! ### _divide -/
abbrev N__divide : List Str := ["a", "b", "field", "rest", "last", "quotient", "k", "factor", "i", "y", "less", "_"]
theorem sc__divide : FnScope N__divide ["a", "b", "field"] (defScope s__divide) := ⟨rfl, rfl, rfl, by decide +kernel, rfl, by decide +kernel, by decide +kernel⟩
theorem ok__divide (T : Txt K mg L) (C1 : FnC P w K mg base L "member_of" 1 ["row", "n"] R_member_of) (C2 : FnC P w K mg base L "member_sum" 1 ["a", "b", "p"] R_member_sum) (C3 : FnC P w K mg base L "member_product" 3 ["a", "b", "modulus", "p"] R_member_product) (C4 : FnC P w K mg base L "member_negative" 1 ["a", "p"] R_member_negative) (C5 : FnC P w K mg base L "member_inverse" 4 ["a", "modulus", "p"] R_member_inverse)
    (F : FunS K "_divide" "_divide" s__divide f fd) : FnOk P w K mg base CX0 5 f fd ["a", "b", "field"] (spD L R__divide) := by
  refine fn_ev F sc__divide (fun ds r h => by cases h; rfl) fun cdv A outer s H E hr ds r h => ?_
  cases h with
  | mk c a b ha hb hne hlc =>
    have nd := sc__divide.nd
    have hr1 : Room 1 _ := hr.mono (by decide)
    have hr3 : Room 3 _ := hr.mono (by decide)
    have la : (a.map c.eK).length = a.length := List.length_map ..
    have lb : (b.map c.eK).length = b.length := List.length_map ..
    have bpos : 0 < b.length := List.length_pos_iff.mpr hne
    let m : Nat := a.length + 1 - b.length
    let iv : Kq c := Fd.inv (co b (b.length - 1))
    let O : Nat → List (Kq c) × List (Kq c) := divSt 0 (· * ·) (fun r f y => r + -(f * y)) a b iv m
    have lO1 : ∀ i, (O i).1.length = m := fun i => (divSt_len i).1
    have lO2 : ∀ i, (O i).2.length = a.length := fun i => (divSt_len i).2
    let W : Nat → SlS := fun t => [.val (c.eR a), .val (c.eR b), .val (.fld c.d), .own ((O t).2.map c.eK), .val (c.eK iv), .own ((O t).1.map c.eK), .any, .any, .any, .any, .any, .any]
    refine .ret (evb_cons (evs_ifF ((evt_eq (ev_len T.len (evq_t (ev_var 1))) ev_int).is (by rw [lb]; simp; omega)) evb_nil) (evb_cons (evs_setn 3 (evn_list T.list (evq_t (ev_var 0))) nd) (evb_cons (evs_set 4 (ev_call C5 hr (eva_cons (ev_ix (evq_t (ev_var 1)) (ev_sub (ev_len T.len (evq_t (ev_var 1))) ev_int) (d := c.eK (co b (b.length - 1))) (atI_of (j := b.length - 1) (by rw [lb]; omega) ?_)) (eva_cons (ev_fld_m T.cls (ev_var 2)) (eva_cons (ev_fld_p T.cls (ev_var 2)) eva_nil))) (c.k_inv hlc)) nd) (evb_cons (S' := W 0) ?_ ?_))))
    · rw [List.getElem?_map, get_of 0 (show b.length - 1 < b.length by omega)]
      rfl
    · refine (evs_lc 5 (own := [("_", 11)]) (t := .one 11) (xs := List.range m) (en := fun (i : Nat) => .int (0 + (i : Int) * 1)) (f := fun _ => c.eK 0) ((evi_range1 T.range (ev_max2 T.max rfl (ev_add (ev_sub (ev_len T.len (evq_t (ev_var 0))) (ev_len T.len (evq_t (ev_var 1)))) ev_int) ev_int) ?_).is ?_) (lcb (fun _ _ _ _ _ => evg_one 11 nd) rfl fun i d hd => ⟨_, rfl, fun _ _ _ _ _ => ev_call C1 hr1 (eva_cons (ev_tup eva_nil) (eva_cons (ev_fld_n T.cls (ev_var 2)) eva_nil)) c.k_zero⟩) (by rw [List.length_range]; omega) rfl nd (blkOk_by (N := N__divide) (sc := defScope s__divide) (by decide +kernel)) (sw_true rfl rfl rfl (by decide +kernel))).is ?_
      · rw [la, lb]
        split <;> omega
      · rw [la, lb]
        have e : (if 0 > (a.length : Int) - b.length + 1 then (0 : Int) else (a.length : Int) - b.length + 1).toNat = m := by
          split <;> omega
        rw [e]
        rfl
      · show Out.nx [_, _, _, _, _, Sl.own _, _, _, _, _, _, _] = _
        rw [rep_range]
        show _ = Out.nx [_, _, _, _, _, Sl.own ((List.replicate m 0).map c.eK), _, _, _, _, _, _]
        rw [List.map_replicate]
        rfl
    refine evb_cons (evs_forN (lo := (m : Int) - 1) (c := -1) (n := m) (t := .one 6) (W := W) ((evi_down T.range (ev_sub (ev_len T.len (evq_own 5)) ev_int) (ev_neg ev_int) (ev_neg ev_int) ?_).is ?_) (evg_one 6 nd) PassesOwn.never rfl fun t ht => ?_) ?_
    · rw [List.length_map, lO1]
      omega
    · rw [List.length_map, lO1]
      rw [show ((m : Int) - 1 - -1).toNat = m by omega]
    · let k : Nat := m - 1 - t
      have hk : (m : Int) - 1 + (t : Int) * -1 = (k : Nat) := by omega
      have hkm : k < m := by omega
      have hkb : k + (b.length - 1) < a.length := by omega
      let fac : Kq c := (O t).2.getD (k + (b.length - 1)) 0 * iv
      let M : Nat → List (Kq c) := divIn 0 (fun r f y => r + -(f * y)) (O t).2 k fac b
      have lM : ∀ i, (M i).length = a.length := fun i => by
        show (divIn _ _ _ _ _ _ i).length = _
        rw [divIn_len, lO2]
      rw [hk]
      refine ⟨_, _, rfl, evb_cons (evs_set 7 (d := c.eK fac) (ev_call C3 hr3 (eva_cons (ev_ix (evq_own 3) (ev_sub (ev_add (ev_var 6) (ev_len T.len (evq_t (ev_var 1)))) ev_int) (d := c.eK ((O t).2.getD (k + (b.length - 1)) 0)) (atI_of (j := k + (b.length - 1)) (by rw [lb]; omega) ?_)) (eva_cons (ev_var 4) (eva_cons (ev_fld_m T.cls (ev_var 2)) (eva_cons (ev_fld_p T.cls (ev_var 2)) eva_nil)))) (c.k_mul _ _)) nd) (evb_cons (evs_item 5 (j := k) (ev_var 7) (ev_var 6) (ixN_of rfl ?_)) (evb_weak (evb_one (evs_forT (xs := b.zipIdx) (en := fun q => .tup [.int (q.2 : Nat), c.eK q.1]) (t := .two 8 9)
        (W := fun i => [.val (c.eR a), .val (c.eR b), .val (.fld c.d), .own ((M i).map c.eK), .val (c.eK iv), .own (((O t).1.map c.eK).set k (c.eK fac)), .val (.int (k : Nat)), .val (c.eK fac), .any, .any, .any, .any]) (evi_enumT T.enumerate (ev_var 1)) (evg_two 8 9 rfl nd) PassesOwn.never rfl fun i q hq => ?_)) (S2 := W (t + 1)) ?_)), .inl rfl⟩
      · rw [List.getElem?_map, get_of 0 (by rw [lO2]; exact hkb)]
        rfl
      · rw [List.length_map, lO1]
        exact hkm
      · obtain ⟨hy, hi⟩ := zipIdx_get hq
        obtain ⟨y, i'⟩ := q
        subst hi
        have hil : i' < b.length := (List.getElem?_eq_some_iff.mp hy).1
        refine ⟨_, _, rfl, evb_weak (evb_cons (evs_set 10 (ev_call C4 hr1 (eva_cons (ev_call C3 hr3 (eva_cons (ev_var 7) (eva_cons (ev_var 9) (eva_cons (ev_fld_m T.cls (ev_var 2)) (eva_cons (ev_fld_p T.cls (ev_var 2)) eva_nil)))) (c.k_mul fac y)) (eva_cons (ev_fld_p T.cls (ev_var 2)) eva_nil)) (c.k_neg _)) nd) (evb_one (evs_item 3 (j := k + i') (ev_call C2 hr1 (eva_cons (ev_ix (evq_own 3) (ev_add (ev_var 6) (ev_var 8)) (d := c.eK ((M i').getD (k + i') 0)) (atI_of (j := k + i') (by simp) ?_)) (eva_cons (ev_var 10) (eva_cons (ev_fld_p T.cls (ev_var 2)) eva_nil))) (c.k_sum _ _)) (ev_add (ev_var 6) (ev_var 8)) (ixN_of (by simp) ?_)))) ?_, .inl rfl⟩
        · rw [List.getElem?_map, get_of 0 (by rw [lM]; omega)]
          rfl
        · rw [List.length_map, lM]
          omega
        · show Weak [_, _, _, Sl.own _, _, _, _, _, _, _, _, _] _
          have e : ((M i').map c.eK).set (k + i') (c.eK ((M i').getD (k + i') 0 + -(fac * y))) = (M (i' + 1)).map c.eK := by
            rw [← List.map_set]
            show _ = (divIn 0 (fun r f y => r + -(f * y)) (O t).2 k fac b (i' + 1)).map c.eK
            rw [divIn, getD_of hy]
          rw [e]
          exact .same (.same (.same (.same (.same (.same (.same (.same (.any (.any (.any (.any .nil)))))))))))
      · have e1 : M b.length = (O (t + 1)).2 := rfl
        have e2 : ((O t).1.map c.eK).set k (c.eK fac) = (O (t + 1)).1.map c.eK := by
          rw [← List.map_set]
          rfl
        rw [List.length_zipIdx, e1, e2]
        exact .same (.same (.same (.same (.same (.same (.any (.any (.any (.any (.any (.any .nil)))))))))))
    · exact evb_frz 3 rfl (evb_frz 5 rfl (evb_one (evs_ret (ev_tup (eva_cons (ev_var 5) (eva_cons (ev_var 3) eva_nil))))))
end
end FM
set_option autoImplicit false
namespace FM
open PySem PySem.Spec PyProof.Rows L2 LamX Pol
/-- isinstance(x, Field) -/
structure IsF (K : PySem.W.Frag) (mg : Str → Option Value) (L : Lc) : Prop where
  mg : mg "Field" = some (.ref L.CF)
  ha : PySem.W.findIn K (.ref L.CF) "__class__" = some (some (.builtin "object.__class__"))
  hn : PySem.W.specialIn K (.builtin "object.__class__") "__get__" = some (some (.builtin "getset_descriptor.__get__"))
  htk : PySem.W.takesIn K (.builtin "object.__class__") = some true
  hm : PySem.W.mroIn K L.CF (.type "object") = some true
theorem ev_isF {L : Lc} {X : Cx} {S : SlS} {e : Expr} {F : FldD} {p p2 pos : Pos} (T : Txt X.K X.mg L) (I : IsF X.K X.mg L) (h : EvE L X e S (.fld F)) (hg : Gl X "isinstance" := by rfl) (hgT : Gl X "Field" := by rfl)
    (hs : starEach [e, .Name "Field" p2] X.env = (false, eval e X.env) :: starEach [.Name "Field" p2] X.env := by rfl) (hs2 : starEach [.Name "Field" p2] X.env = (false, eval (.Name "Field" p2) X.env) :: starEach [] X.env := by rfl) (hpl : (backTo pos (starEach [.Name "Field" p2] X.env)).any (·.1) = false := by rfl) :
    EvE L X (.Call (.Name "isinstance" p) [e, .Name "Field" p2] [] pos) S (.bl true) :=
  PE.imp (pe_callB call_isi hg T.isinstance boot_isinstance' (pa_cons h (pa_cons (pe_glob (v := .ref L.CF) hgT I.mg rfl) pa_nil hs2) hs) (by decide) (by decide) hs hpl) fun σ H Q ⟨G, R, q⟩ => ⟨G, R, fun G1 H1 v g1 i1 => by
    cases i1 with
    | fld e1 em => exact ⟨_, .ref L.CF, .ref L.CF, .ref L.CF, true, rfl, .own _, .base (.ins (g1.gh _ _ e1) T.cls.cF I.ha I.hn I.htk I.hm), by unfold PySem.W.kitOne; rw [if_pos (by simp)], q G1 H1 _ g1 (.bl _)⟩⟩
inductive R_F_eq : List D → D → Prop
  | mk (A B : FldD) : R_F_eq [.fld A, .fld B] (.bl (decide (A.p = B.p) && decide (A.m = B.m)))
inductive R_F_integer : List D → D → Prop
  | mk0 (c : FC) : R_F_integer [.fld c.d, .int 0] (c.eK 0)
  | mk1 (c : FC) : R_F_integer [.fld c.d, .int 1] (c.eK 1)
inductive R_F_zero : List D → D → Prop
  | mk (c : FC) : R_F_zero [.fld c.d] (c.eK 0)
inductive R_F_one : List D → D → Prop
  | mk (c : FC) : R_F_one [.fld c.d] (c.eK 1)
inductive R_F_add : List D → D → Prop
  | mk (c : FC) (a b : Kq c) : R_F_add [.fld c.d, c.eK a, c.eK b] (c.eK (a + b))
inductive R_F_negative : List D → D → Prop
  | mk (c : FC) (a : Kq c) : R_F_negative [.fld c.d, c.eK a] (c.eK (-a))
inductive R_F_multiply : List D → D → Prop
  | mk (c : FC) (a b : Kq c) : R_F_multiply [.fld c.d, c.eK a, c.eK b] (c.eK (a * b))
inductive R_F_inverse : List D → D → Prop
  | mk (c : FC) (a : Kq c) (h : a ≠ 0) : R_F_inverse [.fld c.d, c.eK a] (c.eK (Fd.inv a))
inductive R_F_power : List D → D → Prop
  | mk (c : FC) (a : Kq c) : R_F_power [.fld c.d, c.eK a, .int (c.s : Nat)] (c.eK (a ^ c.s))
inductive R_F_member : List D → D → Prop
  | mk (c : FC) (i : Nat) (h : i < c.T.q) : R_F_member [.fld c.d, .int (i : Nat)] (c.eK ⟨i, h⟩)
section
variable {P : Program} {w : World} {K : PySem.W.Frag} {mg : Str → Option Value} {base : Heap} {L : Lc} {f : Addr} {fd : FuncData}
theorem sc_F_eq : FnScope ["self", "other"] ["self", "other"] (defScope s_Field_m___eq__) := ⟨rfl, rfl, rfl, by decide +kernel, rfl, by decide +kernel, by decide +kernel⟩
theorem ok_F_eq (T : Txt K mg L) (I : IsF K mg L) (F : FunS K "__eq__" "Field.__eq__" s_Field_m___eq__ f fd) : FnOk P w K mg base CX0 1 f fd ["self", "other"] (spD L R_F_eq) := by
  refine fn_ev F sc_F_eq (fun ds r h => by cases h; rfl) fun cdv A outer s H E hr ds r h => ?_
  cases h with
  | mk A B => exact .ret (evb_one (evs_ret ((ev_and (ev_isF T I (ev_var 1)) fun _ => ev_and (ev_eqI (ev_fld_p T.cls (ev_var 0)) (ev_fld_p T.cls (ev_var 1))) fun _ => ev_one (ev_eqT hr.units (ev_fld_m T.cls (ev_var 0)) (ev_fld_m T.cls (ev_var 1)))).is (by rw [Bool.true_and]))))
theorem sc_F_integer : FnScope ["self", "k"] ["self", "k"] (defScope s_Field_m_integer) := ⟨rfl, rfl, rfl, by decide +kernel, rfl, by decide +kernel, by decide +kernel⟩
theorem ok_F_integer (T : Txt K mg L) (C1 : FnC P w K mg base L "member_of" 1 ["row", "n"] R_member_of) (F : FunS K "integer" "Field.integer" s_Field_m_integer f fd) : FnOk P w K mg base CX0 2 f fd ["self", "k"] (spD L R_F_integer) := by
  refine fn_ev F sc_F_integer (fun ds r h => by cases h <;> rfl) fun cdv A outer s H E hr ds r h => ?_
  cases h with
  | mk0 c =>
    refine .ret (evb_one (evs_ret (ev_call C1 hr (eva_cons (d := .tup [.int 0]) ((ev_tup (eva_cons (ev_mod (ev_var 1) (ev_fld_p T.cls (ev_var 0)) c.pp.pos) eva_nil)).is (by rw [Int.zero_emod])) (eva_cons (ev_fld_n T.cls (ev_var 0)) eva_nil)) ?_)))
    have h := R_member_of.mk false [0] c.d.n (by have := c.nn; omega) (by decide)
    rw [show ([0] : List Int) ++ List.replicate (c.d.n - (([0] : List Int).length : Int)).toNat 0 = c.e 0 from by
      have := c.g0.2.1
      rw [c.e_zero]
      show 0 :: List.replicate ((c.T.n : Int) - 1).toNat 0 = _
      rw [show ((c.T.n : Int) - 1).toNat = c.T.n - 1 by omega, ← List.replicate_succ]
      congr 1
      omega] at h
    exact h
  | mk1 c =>
    refine .ret (evb_one (evs_ret (ev_call C1 hr (eva_cons (d := .tup [.int 1]) ((ev_tup (eva_cons (ev_mod (ev_var 1) (ev_fld_p T.cls (ev_var 0)) c.pp.pos) eva_nil)).is ?_) (eva_cons (ev_fld_n T.cls (ev_var 0)) eva_nil)) c.k_one)))
    have := c.pp
    rw [Int.emod_eq_of_lt (by decide) (by unfold PP at this; omega)]
theorem sc_F_zero : FnScope ["self"] ["self"] (defScope s_Field_m_zero) := ⟨rfl, rfl, rfl, by decide +kernel, rfl, by decide +kernel, by decide +kernel⟩
theorem ok_F_zero (T : Txt K mg L) (C1 : MtC P w K mg base L L.CF "integer" 2 ["self", "k"] R_F_integer) (F : FunS K "zero" "Field.zero" s_Field_m_zero f fd) : FnOk P w K mg base CX0 3 f fd ["self"] (spD L R_F_zero) := by
  refine fn_ev F sc_F_zero (fun ds r h => by cases h <;> rfl) fun cdv A outer s H E hr ds r h => ?_
  cases h with
  | mk c => exact .ret (evb_one (evs_ret (ev_methF T.cls C1 hr (ev_var 0) (eva_cons ev_int eva_nil) (.mk0 c))))
theorem sc_F_one : FnScope ["self"] ["self"] (defScope s_Field_m_one) := ⟨rfl, rfl, rfl, by decide +kernel, rfl, by decide +kernel, by decide +kernel⟩
theorem ok_F_one (T : Txt K mg L) (C1 : MtC P w K mg base L L.CF "integer" 2 ["self", "k"] R_F_integer) (F : FunS K "one" "Field.one" s_Field_m_one f fd) : FnOk P w K mg base CX0 3 f fd ["self"] (spD L R_F_one) := by
  refine fn_ev F sc_F_one (fun ds r h => by cases h <;> rfl) fun cdv A outer s H E hr ds r h => ?_
  cases h with
  | mk c => exact .ret (evb_one (evs_ret (ev_methF T.cls C1 hr (ev_var 0) (eva_cons ev_int eva_nil) (.mk1 c))))
theorem sc_F_add : FnScope ["self", "a", "b"] ["self", "a", "b"] (defScope s_Field_m_add) := ⟨rfl, rfl, rfl, by decide +kernel, rfl, by decide +kernel, by decide +kernel⟩
theorem ok_F_add (T : Txt K mg L) (C1 : FnC P w K mg base L "member_sum" 1 ["a", "b", "p"] R_member_sum) (F : FunS K "add" "Field.add" s_Field_m_add f fd) : FnOk P w K mg base CX0 2 f fd ["self", "a", "b"] (spD L R_F_add) := by
  refine fn_ev F sc_F_add (fun ds r h => by cases h <;> rfl) fun cdv A outer s H E hr ds r h => ?_
  cases h with
  | mk c a b => exact .ret (evb_one (evs_ret (ev_call C1 hr (eva_cons (ev_var 1) (eva_cons (ev_var 2) (eva_cons (ev_fld_p T.cls (ev_var 0)) eva_nil))) (c.k_sum a b))))
theorem sc_F_negative : FnScope ["self", "a"] ["self", "a"] (defScope s_Field_m_negative) := ⟨rfl, rfl, rfl, by decide +kernel, rfl, by decide +kernel, by decide +kernel⟩
theorem ok_F_negative (T : Txt K mg L) (C1 : FnC P w K mg base L "member_negative" 1 ["a", "p"] R_member_negative) (F : FunS K "negative" "Field.negative" s_Field_m_negative f fd) : FnOk P w K mg base CX0 2 f fd ["self", "a"] (spD L R_F_negative) := by
  refine fn_ev F sc_F_negative (fun ds r h => by cases h <;> rfl) fun cdv A outer s H E hr ds r h => ?_
  cases h with
  | mk c a => exact .ret (evb_one (evs_ret (ev_call C1 hr (eva_cons (ev_var 1) (eva_cons (ev_fld_p T.cls (ev_var 0)) eva_nil)) (c.k_neg a))))
theorem sc_F_multiply : FnScope ["self", "a", "b"] ["self", "a", "b"] (defScope s_Field_m_multiply) := ⟨rfl, rfl, rfl, by decide +kernel, rfl, by decide +kernel, by decide +kernel⟩
theorem ok_F_multiply (T : Txt K mg L) (C1 : FnC P w K mg base L "member_product" 3 ["a", "b", "modulus", "p"] R_member_product) (F : FunS K "multiply" "Field.multiply" s_Field_m_multiply f fd) : FnOk P w K mg base CX0 4 f fd ["self", "a", "b"] (spD L R_F_multiply) := by
  refine fn_ev F sc_F_multiply (fun ds r h => by cases h <;> rfl) fun cdv A outer s H E hr ds r h => ?_
  cases h with
  | mk c a b => exact .ret (evb_one (evs_ret (ev_call C1 hr (eva_cons (ev_var 1) (eva_cons (ev_var 2) (eva_cons (ev_fld_m T.cls (ev_var 0)) (eva_cons (ev_fld_p T.cls (ev_var 0)) eva_nil)))) (c.k_mul a b))))
theorem sc_F_inverse : FnScope ["self", "a"] ["self", "a"] (defScope s_Field_m_inverse) := ⟨rfl, rfl, rfl, by decide +kernel, rfl, by decide +kernel, by decide +kernel⟩
theorem ok_F_inverse (T : Txt K mg L) (C1 : FnC P w K mg base L "member_inverse" 4 ["a", "modulus", "p"] R_member_inverse) (F : FunS K "inverse" "Field.inverse" s_Field_m_inverse f fd) : FnOk P w K mg base CX0 5 f fd ["self", "a"] (spD L R_F_inverse) := by
  refine fn_ev F sc_F_inverse (fun ds r h => by cases h <;> rfl) fun cdv A outer s H E hr ds r h => ?_
  cases h with
  | mk c a h => exact .ret (evb_one (evs_ret (ev_call C1 hr (eva_cons (ev_var 1) (eva_cons (ev_fld_m T.cls (ev_var 0)) (eva_cons (ev_fld_p T.cls (ev_var 0)) eva_nil))) (c.k_inv h))))
/-! ### power -/
theorem FC.s_pos (c : FC) : 0 < c.s := by
  obtain ⟨h1, h2, h3, h4, h5, h6⟩ := c.g0
  unfold FC.s
  refine Nat.div_pos ?_ (by omega)
  rw [h6]
  exact Nat.le_self_pow (by omega) _
theorem FC.s_le (c : FC) : c.s ≤ 9 := by
  have h5 := c.g0.2.2.2.2.1
  unfold FC.s
  exact Nat.le_trans (Nat.div_le_self _ _) h5
abbrev N_F_power : List Str := ["self", "a", "k", "out", "base", "left"]
theorem sc_F_power : FnScope N_F_power ["self", "a", "k"] (defScope s_Field_m_power) := ⟨rfl, rfl, rfl, by decide +kernel, rfl, by decide +kernel, by decide +kernel⟩
theorem ok_F_power (T : Txt K mg L) (C1 : MtC P w K mg base L L.CF "zero" 3 ["self"] R_F_zero) (C2 : MtC P w K mg base L L.CF "one" 3 ["self"] R_F_one) (C3 : MtC P w K mg base L L.CF "multiply" 4 ["self", "a", "b"] R_F_multiply) (F : FunS K "power" "Field.power" s_Field_m_power f fd) : FnOk P w K mg base CX0 5 f fd ["self", "a", "k"] (spD L R_F_power) := by
  refine fn_ev F sc_F_power (fun ds r h => by cases h <;> rfl) fun cdv A outer s H E hr ds r h => ?_
  cases h with
  | mk c a =>
    have nd := sc_F_power.nd
    have hr3 : Room 3 _ := hr.mono (by decide)
    have sp := c.s_pos
    refine .ret (evb_cons (evs_ifF ((evt_lt (ev_var 2) ev_int).is (decide_eq_false (by omega))) evb_nil) ?_)
    have tst : ∀ X', (X' = a) → True := fun _ _ => trivial
    by_cases z : a = 0
    · subst z
      refine evb_ret (evs_ifT (EvT.is (EvW.t (evw_and (evt_gt (ev_var 2) ev_int) fun _ => evw_and1 (evt_eqT (xs := c.e 0) (ys := c.e 0) hr.units (ev_var 1) (ev_methF0 T.cls C1 hr3 (ev_var 0) (.mk c))))) (by simp; omega)) (evb_one ((evs_ret (ev_var 1)).is ?_)))
      rw [c.chp.zpow]
    · refine evb_cons (evs_ifF (EvT.is (EvW.t (evw_and (evt_gt (ev_var 2) ev_int) fun _ => evw_and1 (evt_eqT (xs := c.e a) (ys := c.e 0) hr.units (ev_var 1) (ev_methF0 T.cls C1 hr3 (ev_var 0) (.mk c))))) (by rw [c.e_eq, decide_eq_false z, Bool.and_false])) evb_nil) ?_
      let l0 : Nat := if 2 < c.T.q then c.s % (c.T.q - 1) else 0
      have hb := bS_end (fun x y : Kq c => x * y) (fun x => x) (fun _ _ => rfl) l0 1 a
      refine evb_cons (evs_set 3 (ev_methF0 T.cls C2 hr3 (ev_var 0) (.mk c)) nd) (evb_cons (evs_set 4 (ev_var 1) nd) (evb_cons (evs_set 5 (d := .int (l0 : Nat)) (ev_if (evt_gt (ev_fld_q T.cls (ev_var 0)) ev_int) (fun hq => ?_) (fun hq => ?_)) nd) (evb_cons (evs_while (W := fun i => [.val (.fld c.d), .val (c.eK a), .val (.int (c.s : Nat)), .val (c.eK (bS (fun x y : Kq c => x * y) 1 a l0 i).1), .val (c.eK (bS (fun x y : Kq c => x * y) 1 a l0 i).2.1), .val (.int ((bS (fun x y : Kq c => x * y) 1 a l0 i).2.2 : Nat))]) (bN l0) PassesOwn.never (fun i hi => ?_) ?_) (evb_one ((evs_ret (ev_var 3)).is ?_)))))
      · have hq' : (2 : Int) < (c.T.q : Int) := of_decide_eq_true hq
        refine (ev_mod (ev_var 2) (ev_sub (ev_fld_q T.cls (ev_var 0)) ev_int) (by show 0 < (c.T.q : Int) - 1; omega)).is ?_
        show D.int ((c.s : Int) % ((c.T.q : Int) - 1)) = D.int (l0 : Nat)
        have : l0 = c.s % (c.T.q - 1) := if_pos (by omega)
        rw [this, Int.natCast_emod, Int.natCast_sub (by omega)]
        rfl
      · have hq' : ¬ (2 : Int) < (c.T.q : Int) := of_decide_eq_false hq
        refine ev_int.is ?_
        have : l0 = 0 := if_neg (by omega)
        rw [this]
        rfl
      · have k0 := hb.2.2 i hi
        refine ⟨(evt_gt (ev_var 5) ev_int).is (decide_eq_true (by omega)), _, evb_cons (S' := [.val (.fld c.d), .val (c.eK a), .val (.int (c.s : Nat)), .val (c.eK (bS (fun x y : Kq c => x * y) 1 a l0 (i + 1)).1), .val (c.eK (bS (fun x y : Kq c => x * y) 1 a l0 i).2.1), .val (.int ((bS (fun x y : Kq c => x * y) 1 a l0 i).2.2 : Nat))]) (evs_if (evt_eq (ev_mod (ev_var 5) ev_int (by decide)) ev_int) (fun z => ?_) (fun z => ?_)) (evb_cons (evs_set 4 (ev_methF T.cls C3 hr (ev_var 0) (eva_cons (ev_var 4) (eva_cons (ev_var 4) eva_nil)) (.mk c _ _)) nd) (evb_one ((evs_set 5 (ev_fdiv (ev_var 5) ev_int ⟨by decide, by decide⟩) nd).is ?_))), .inl rfl⟩
        · have z' := of_decide_eq_true z
          refine (evb_one (evs_set 3 (ev_methF T.cls C3 hr (ev_var 0) (eva_cons (ev_var 3) (eva_cons (ev_var 4) eva_nil)) (.mk c _ _)) nd)).is ?_
          show Out.nx [_, _, _, _, _, _] = Out.nx [_, _, _, Sl.val (c.eK (if _ then _ else _)), _, _]
          rw [if_pos (by omega)]
        · have z' := of_decide_eq_false z
          refine evb_nil.is ?_
          show Out.nx [_, _, _, _, _, _] = Out.nx [_, _, _, Sl.val (c.eK (if _ then _ else _)), _, _]
          rw [if_neg (by omega)]
        · rfl
      · refine (evt_gt (ev_var 5) ev_int).is ?_
        have := hb.2.1
        rw [this]
        rfl
      · have h1 := hb.1
        have h2 := (c.g7.2 a).2.2.2.1 z
        rw [h1, show (1 : Kq c) * a ^ l0 = a ^ l0 from by grind, h2]
/-! ### member -/
abbrev N_F_member : List Str := ["self", "number", "out", "left", "_"]
theorem sc_F_member : FnScope N_F_member ["self", "number"] (defScope s_Field_m_member) := ⟨rfl, rfl, rfl, by decide +kernel, rfl, by decide +kernel, by decide +kernel⟩
theorem ok_F_member (T : Txt K mg L) (C1 : FnC P w K mg base L "is_integer" 1 ["value"] R_is_integer) (F : FunS K "member" "Field.member" s_Field_m_member f fd) : FnOk P w K mg base CX0 2 f fd ["self", "number"] (spD L R_F_member) := by
  refine fn_ev F sc_F_member (fun ds r h => by cases h <;> rfl) fun cdv A outer s H E hr ds r h => ?_
  cases h with
  | mk c v hv =>
    have nd := sc_F_member.nd
    have pp := c.pp
    have pc := c.g0.1
    let dg : Nat → List Int := fun i => (List.range i).map fun i => ((v / c.T.p ^ i % c.T.p : Nat) : Int)
    refine .ret (evb_cons (evs_ifF (EvT.is (EvW.t (evw_or (evt_not (evt_val (ev_call C1 hr (eva_cons (ev_var 1) eva_nil) (.mk _)))) fun _ => evw_or (evt_lt (ev_var 1) ev_int) fun _ => evw_or1 (evt_ge (ev_var 1) (ev_fld_q T.cls (ev_var 0))))) ?_) evb_nil) (evb_cons (evs_setn 2 (evn_lst eva_nil) nd) (evb_cons (evs_set 3 (ev_var 1) nd) (evb_cons (evs_pre (S1 := [.val (.fld c.d), .val (.int (v : Nat)), .own ((dg 0).map .int), .val (.int ((v / c.T.p ^ 0 : Nat) : Int)), .any]) ?_ (evs_forN (lo := 0) (c := 1) (n := c.T.n) (t := .one 4) (W := fun i => [.val (.fld c.d), .val (.int (v : Nat)), .own ((dg i).map .int), .val (.int ((v / c.T.p ^ i : Nat) : Int)), .any]) ((evi_range1 T.range (ev_fld_n T.cls (ev_var 0)) ?_).is ?_) (evg_one 4 nd) PassesOwn.never rfl fun i hi => ?_)) (evb_one (evs_ret (ev_tupleL T.tuple (evq_own 2))))))))
    · have : (v : Int) < c.d.q := by show (v : Int) < (c.T.q : Int); omega
      simp
      exact this
    · rw [Nat.pow_zero, Nat.div_one]
      exact .same (.same (.same (.same (.any .nil))))
    · have := c.nn
      omega
    · show irng 0 1 (c.T.n : Int).toNat = _
      rw [Int.toNat_natCast]
    · refine ⟨_, _, rfl, evb_weak (evb_cons (evs_append 2 (d := .int ((v / c.T.p ^ i % c.T.p : Nat) : Int)) ((ev_mod (ev_var 3) (ev_fld_p T.cls (ev_var 0)) pp.pos).is ?_) rfl ?_) (evb_one (evs_set 3 (d := .int ((v / c.T.p ^ (i + 1) : Nat) : Int)) ((ev_fdiv (ev_var 3) (ev_fld_p T.cls (ev_var 0)) ⟨?_, ?_⟩).is ?_) nd))) ?_, .inl rfl⟩
      · rw [Int.natCast_emod]
        rfl
      · rw [List.length_map, List.length_map, List.length_range]
        have := c.g0.2.2.1
        omega
      · have := pp.pos
        omega
      · have := pp.le
        omega
      · rw [Nat.pow_succ, ← Nat.div_div_eq_div_mul, Int.natCast_ediv]
        rfl
      · show Weak [_, _, Sl.own _, _, _] [_, _, Sl.own _, _, _]
        have e : ((dg i).map D.int) ++ [D.int ((v / c.T.p ^ i % c.T.p : Nat) : Int)] = (dg (i + 1)).map .int := by
          show _ = ((List.range (i + 1)).map _).map _
          rw [List.range_succ, List.map_append, List.map_append]
          rfl
        rw [e]
        exact .same (.same (.same (.same (.any .nil))))
end
end FM
set_option autoImplicit false
namespace FM
open PySem PySem.Spec PyProof.Rows L2 LamX Pol
/-- a polynomial's data -/
def FC.P (c : FC) (a : Pol (Kq c)) : D := .pol c.d (a.l.map c.e)
structure OpC (P : Program) (w : World) (K : PySem.W.Frag) (mg : Str → Option Value) (base : Heap) (L : Lc) (op : Operator) (k : Nat) (ps : List Str) (R : List D → D → Prop) : Prop where
  ex : ∃ f fd, OpIn K L.CP (PySem.dunder op.info.2) f ∧ L2.Binds K fd ps [] ∧ FnOk P w K mg base CX0 k f fd ps (spD L R)
structure NeC (P : Program) (w : World) (K : PySem.W.Frag) (mg : Str → Option Value) (base : Heap) (L : Lc) : Prop where
  ex : ∃ f fd, NeIn K L.CF f ∧ L2.Binds K fd ["self", "other"] [] ∧ FnOk P w K mg base CX0 1 f fd ["self", "other"] (spD L R_F_eq)
theorem ev_opP {L : Lc} {X : Cx} {S : SlS} {a b : Expr} {pos : Pos} {op : Operator} {k : Nat} {ps : List Str} {R : List D → D → Prop} {A B : FldD} {ra rb : List (List Int)} {r : D} (O : OpC X.prog X.w X.K X.mg X.base L op k ps R) (hr : Room k X.A) (ha : EvE L X a S (.pol A ra)) (hb : EvE L X b S (.pol B rb)) (hR : R [.pol A ra, .pol B rb] r) : EvE L X (.BinOp a op b pos) S r := by
  obtain ⟨f, fd, h1, h2, h3⟩ := O.ex
  exact ev_ownop h1 h3 hr h2 ha hb (.pol _ _) (.pol _ _) hR
theorem evt_neF {L : Lc} {X : Cx} {S : SlS} {a b : Expr} {pos : Pos} {A : FldD} (O : NeC X.prog X.w X.K X.mg X.base L) (hr : Room 2 X.A) (ha : EvE L X a S (.fld A)) (hb : EvE L X b S (.fld A)) : EvT L X (.Compare a [.NotEq] [b] pos) S false := by
  obtain ⟨f, fd, h1, h2, h3⟩ := O.ex
  exact (evt_ownne h1 h3 hr h2 ha hb (.fld _) (.fld _) (.mk A A)).is (by simp)
inductive R_Poly : List D → D → Prop
  | mk (c : FC) (k : Bool) (l : List (Kq c)) (h : l.length ≤ 900) : R_Poly [.fld c.d, dseq k (l.map c.eK)] (c.P (mkP l))
inductive R_P_sub : List D → D → Prop
  | mk (c : FC) (a b : Pol (Kq c)) (ha : a.len ≤ 400) (hb : b.len ≤ 400) : R_P_sub [c.P a, c.P b] (c.P (a - b))
inductive R_P_mul : List D → D → Prop
  | mk (c : FC) (a b : Pol (Kq c)) (ha : a.len ≤ 400) (hb : b.len ≤ 400) : R_P_mul [c.P a, c.P b] (c.P (a * b))
inductive R_P_fdiv : List D → D → Prop
  | mk (c : FC) (a b : Pol (Kq c)) (ha : a.len ≤ 400) (hb : b.len ≤ 400) (h : b ≠ 0) : R_P_fdiv [c.P a, c.P b] (c.P (quo a b))
inductive R_P_mod : List D → D → Prop
  | mk (c : FC) (a b : Pol (Kq c)) (ha : a.len ≤ 400) (hb : b.len ≤ 400) (h : b ≠ 0) : R_P_mod [c.P a, c.P b] (c.P (rem a b))
inductive R_P_degree : List D → D → Prop
  | mk (c : FC) (a : Pol (Kq c)) : R_P_degree [c.P a] (.int ((a.len : Int) - 1))
inductive R_P_is_zero : List D → D → Prop
  | mk (c : FC) (a : Pol (Kq c)) : R_P_is_zero [c.P a] (.bl (decide (a = 0)))
inductive R_P_leading : List D → D → Prop
  | mk (c : FC) (a : Pol (Kq c)) (h : a ≠ 0) : R_P_leading [c.P a] (c.eK a.lc)
inductive R_P_coefficient : List D → D → Prop
  | mk (c : FC) (a : Pol (Kq c)) (k : Nat) : R_P_coefficient [c.P a, .int (k : Nat)] (c.eK (a.c k))
inductive R_P_scaled : List D → D → Prop
  | mk (c : FC) (a : Pol (Kq c)) (x : Kq c) (ha : a.len ≤ 400) : R_P_scaled [c.P a, c.eK x] (c.P (C x * a))
inductive R_P_monic : List D → D → Prop
  | mk (c : FC) (a : Pol (Kq c)) (h : a ≠ 0) (ha : a.len ≤ 400) : R_P_monic [c.P a] (c.P (mon a))
inductive R_P_derivative : List D → D → Prop
  | mk (c : FC) (a : Pol (Kq c)) (ha : a.len ≤ 30) : R_P_derivative [c.P a] (c.P (der a))
section
variable {P : Program} {w : World} {K : PySem.W.Frag} {mg : Str → Option Value} {base : Heap} {L : Lc} {f : Addr} {fd : FuncData}
/-! ### Poly.__init__ -/
abbrev N_P_init : List Str := ["self", "field", "row", "a"]
theorem sc_P_init : FnScope N_P_init ["self", "field", "row"] (defScope s_Poly_m___init__) := ⟨rfl, rfl, rfl, by decide +kernel, rfl, by decide +kernel, by decide +kernel⟩
theorem ok_P_init (T : Txt K mg L) (C1 : FnC P w K mg base L "is_member_row" 2 ["value", "n", "p"] R_is_member_row) (C2 : FnC P w K mg base L "_trimmed" 2 ["row", "field"] R__trimmed) (F : FunS K "__init__" "Poly.__init__" s_Poly_m___init__ f fd) : FnOk P w K mg base CX0 3 f fd ["self", "field", "row"] (spI L L.CP R_Poly) := by
  refine init_ev F sc_P_init (fun ds r h => by cases h <;> rfl) fun cdv A outer s H E hr ds r h z => ?_
  cases h with
  | mk c k l hl =>
    have nd := sc_P_init.nd
    refine ⟨[("field", .fld c.d), ("row", c.eR (trK l))], _, ⟨rfl, rfl, rfl, (trK l).map c.e, (c.eR_eq _).symm, rfl⟩, ?_, evb_cons (evs_forT (xs := l) (en := c.eK) (t := .one 3) (W := fun _ => [.inst (z, L.CP) [], .val (.fld c.d), .val (dseq k (l.map c.eK)), .any]) (evi_seq (ev_var 2)) (evg_one 3 nd) PassesOwn.never rfl fun i q hq => ?_) (evb_cons (evs_selfset 0 (ev_var 1) T.cls.cP T.cls.nf) (evb_one (evs_selfset 0 (ev_call C2 hr (eva_cons (ev_new (evn_list T.list (evq_of (ev_var 2)))) (eva_cons (ev_var 1) eva_nil)) (.mk c l (by omega))) T.cls.cP T.cls.nr (hnew := by show _ ∉ [("field" : Str)]; decide) (hlen := by show (1 : Nat) < 1000; decide))))⟩
    · rfl
    · refine ⟨_, _, rfl, evb_weak (evb_one (evs_ifF ((evt_not (evt_val (ev_call C1 hr (eva_cons (ev_var 3) (eva_cons (ev_fld_n T.cls (ev_var 1)) (eva_cons (ev_fld_p T.cls (ev_var 1)) eva_nil))) (c.k_is q)))).is rfl) evb_nil)) ?_, .inl rfl⟩
      exact .same (.same (.same (.any .nil)))
/-! ### the operators -/
theorem sc_P_sub : FnScope ["self", "other"] ["self", "other"] (defScope s_Poly_m___sub__) := ⟨rfl, rfl, rfl, by decide +kernel, rfl, by decide +kernel, by decide +kernel⟩
theorem ok_P_sub (T : Txt K mg L) (NE : NeC P w K mg base L) (MP : MkC P w K mg base L "Poly" L.CP 3 ["self", "field", "row"] R_Poly) (C1 : FnC P w K mg base L "_add" 2 ["a", "b", "field"] R__add) (C2 : FnC P w K mg base L "_negative" 2 ["a", "field"] R__negative) (F : FunS K "__sub__" "Poly.__sub__" s_Poly_m___sub__ f fd) : FnOk P w K mg base CX0 5 f fd ["self", "other"] (spD L R_P_sub) := by
  refine fn_ev F sc_P_sub (fun ds r h => by cases h <;> rfl) fun cdv A outer s H E hr ds r h => ?_
  cases h with
  | mk c a b ha hb =>
    have hr2 : Room 2 _ := hr.mono (by decide)
    have e1 := c.eR_eq a.l
    have e2 := c.eR_eq b.l
    have ha' : a.l.length ≤ 400 := ha
    have hb' : b.l.length ≤ 400 := hb
    refine .ret (evb_cons (evs_ifF (evt_neF NE hr2 (ev_pol_f T.cls (ev_var 0)) (ev_pol_f T.cls (ev_var 1))) evb_nil) (evb_one (evs_ret (ev_make MP hr (eva_cons (ev_pol_f T.cls (ev_var 0)) (eva_cons (ev_call C1 hr2 (eva_cons ((ev_pol_r T.cls (ev_var 0)).is e1) (eva_cons (ev_call C2 hr2 (eva_cons ((ev_pol_r T.cls (ev_var 1)).is e2) (eva_cons (ev_pol_f T.cls (ev_var 0)) eva_nil)) (.mk c b.l (by omega))) (eva_cons (ev_pol_f T.cls (ev_var 0)) eva_nil))) (.mk c false true a.l (b.l.map (- ·)) (by omega) (by rw [List.length_map]; omega))) eva_nil)) ?_))))
    rw [← subL_P]
    refine .mk c true _ ?_
    unfold addL
    simp only [List.length_map, List.length_zip, List.length_append, List.length_replicate]
    omega
theorem sc_P_mul : FnScope ["self", "other"] ["self", "other"] (defScope s_Poly_m___mul__) := ⟨rfl, rfl, rfl, by decide +kernel, rfl, by decide +kernel, by decide +kernel⟩
theorem ok_P_mul (T : Txt K mg L) (NE : NeC P w K mg base L) (MP : MkC P w K mg base L "Poly" L.CP 3 ["self", "field", "row"] R_Poly) (C1 : FnC P w K mg base L "_multiply" 4 ["a", "b", "field"] R__multiply) (F : FunS K "__mul__" "Poly.__mul__" s_Poly_m___mul__ f fd) : FnOk P w K mg base CX0 5 f fd ["self", "other"] (spD L R_P_mul) := by
  refine fn_ev F sc_P_mul (fun ds r h => by cases h <;> rfl) fun cdv A outer s H E hr ds r h => ?_
  cases h with
  | mk c a b ha hb =>
    have hr2 : Room 2 _ := hr.mono (by decide)
    have e1 := c.eR_eq a.l
    have e2 := c.eR_eq b.l
    have ha' : a.l.length ≤ 400 := ha
    have hb' : b.l.length ≤ 400 := hb
    refine .ret (evb_cons (evs_ifF (evt_neF NE hr2 (ev_pol_f T.cls (ev_var 0)) (ev_pol_f T.cls (ev_var 1))) evb_nil) (evb_one (evs_ret (ev_make MP hr (eva_cons (ev_pol_f T.cls (ev_var 0)) (eva_cons (ev_call C1 hr (eva_cons ((ev_pol_r T.cls (ev_var 0)).is e1) (eva_cons ((ev_pol_r T.cls (ev_var 1)).is e2) (eva_cons (ev_pol_f T.cls (ev_var 0)) eva_nil))) (.mk c a.l b.l (by omega) (by omega))) eva_nil)) ?_))))
    have e : mkP (mulL a.l b.l) = a * b := by rw [mulL_P, mkP_l, mkP_l]
    rw [← e]
    refine .mk c true _ ?_
    unfold mulL
    rw [mulOut_len]
    omega
theorem sc_P_fdiv : FnScope ["self", "other"] ["self", "other"] (defScope s_Poly_m___floordiv__) := ⟨rfl, rfl, rfl, by decide +kernel, rfl, by decide +kernel, by decide +kernel⟩
theorem ok_P_fdiv (T : Txt K mg L) (NE : NeC P w K mg base L) (MP : MkC P w K mg base L "Poly" L.CP 3 ["self", "field", "row"] R_Poly) (C1 : FnC P w K mg base L "_divide" 5 ["a", "b", "field"] R__divide) (F : FunS K "__floordiv__" "Poly.__floordiv__" s_Poly_m___floordiv__ f fd) : FnOk P w K mg base CX0 6 f fd ["self", "other"] (spD L R_P_fdiv) := by
  refine fn_ev F sc_P_fdiv (fun ds r h => by cases h <;> rfl) fun cdv A outer s H E hr ds r h => ?_
  cases h with
  | mk c a b ha hb hne =>
    have hr2 : Room 2 _ := hr.mono (by decide)
    have hr4 : Room 4 _ := hr.mono (by decide)
    have e1 := c.eR_eq a.l
    have e2 := c.eR_eq b.l
    have ha' : a.l.length ≤ 400 := ha
    have hb' : b.l.length ≤ 400 := hb
    refine .ret (evb_cons (evs_ifF (evt_neF NE hr2 (ev_pol_f T.cls (ev_var 0)) (ev_pol_f T.cls (ev_var 1))) evb_nil) (evb_one (evs_ret (ev_make MP hr4 (eva_cons (ev_pol_f T.cls (ev_var 0)) (eva_cons (ev_ix (evq_t (ev_call C1 hr (eva_cons ((ev_pol_r T.cls (ev_var 0)).is e1) (eva_cons ((ev_pol_r T.cls (ev_var 1)).is e2) (eva_cons (ev_pol_f T.cls (ev_var 0)) eva_nil))) (.mk c a.l b.l (by omega) (by omega) (ne_nil hne) (c_top hne)))) ev_int (atN (i := 0) rfl)) eva_nil)) ?_))))
    refine .mk c true (divL a.l b.l).1 ?_
    unfold divL
    rw [(divSt_len _).1]
    omega
theorem sc_P_mod : FnScope ["self", "other"] ["self", "other"] (defScope s_Poly_m___mod__) := ⟨rfl, rfl, rfl, by decide +kernel, rfl, by decide +kernel, by decide +kernel⟩
theorem ok_P_mod (T : Txt K mg L) (NE : NeC P w K mg base L) (MP : MkC P w K mg base L "Poly" L.CP 3 ["self", "field", "row"] R_Poly) (C1 : FnC P w K mg base L "_divide" 5 ["a", "b", "field"] R__divide) (F : FunS K "__mod__" "Poly.__mod__" s_Poly_m___mod__ f fd) : FnOk P w K mg base CX0 6 f fd ["self", "other"] (spD L R_P_mod) := by
  refine fn_ev F sc_P_mod (fun ds r h => by cases h <;> rfl) fun cdv A outer s H E hr ds r h => ?_
  cases h with
  | mk c a b ha hb hne =>
    have hr2 : Room 2 _ := hr.mono (by decide)
    have hr4 : Room 4 _ := hr.mono (by decide)
    have e1 := c.eR_eq a.l
    have e2 := c.eR_eq b.l
    have ha' : a.l.length ≤ 400 := ha
    have hb' : b.l.length ≤ 400 := hb
    refine .ret (evb_cons (evs_ifF (evt_neF NE hr2 (ev_pol_f T.cls (ev_var 0)) (ev_pol_f T.cls (ev_var 1))) evb_nil) (evb_one (evs_ret (ev_make MP hr4 (eva_cons (ev_pol_f T.cls (ev_var 0)) (eva_cons (ev_ix (evq_t (ev_call C1 hr (eva_cons ((ev_pol_r T.cls (ev_var 0)).is e1) (eva_cons ((ev_pol_r T.cls (ev_var 1)).is e2) (eva_cons (ev_pol_f T.cls (ev_var 0)) eva_nil))) (.mk c a.l b.l (by omega) (by omega) (ne_nil hne) (c_top hne)))) ev_int (atN (i := 1) rfl)) eva_nil)) ?_))))
    refine .mk c true (divL a.l b.l).2 ?_
    unfold divL
    rw [(divSt_len _).2]
    omega
/-! ### small methods -/
theorem sc_P_degree : FnScope ["self"] ["self"] (defScope s_Poly_m_degree) := ⟨rfl, rfl, rfl, by decide +kernel, rfl, by decide +kernel, by decide +kernel⟩
theorem ok_P_degree (T : Txt K mg L) (F : FunS K "degree" "Poly.degree" s_Poly_m_degree f fd) : FnOk P w K mg base CX0 1 f fd ["self"] (spD L R_P_degree) := by
  refine fn_ev F sc_P_degree (fun ds r h => by cases h <;> rfl) fun cdv A outer s H E hr ds r h => ?_
  cases h with
  | mk c a => exact .ret (evb_one (evs_ret ((ev_sub (ev_len T.len (evq_t ((ev_pol_r T.cls (ev_var 0)).is (c.eR_eq a.l)))) ev_int).is (by rw [List.length_map]; rfl))))
theorem len_zero_iff {c : FC} (a : Pol (Kq c)) : decide ((a.l.length : Int) = 0) = decide (a = 0) := by
  by_cases h : a = 0
  · rw [decide_eq_true h, h]
    rfl
  · have := len_pos h
    unfold len at this
    rw [decide_eq_false h]
    exact decide_eq_false (by omega)
theorem sc_P_is_zero : FnScope ["self"] ["self"] (defScope s_Poly_m_is_zero) := ⟨rfl, rfl, rfl, by decide +kernel, rfl, by decide +kernel, by decide +kernel⟩
theorem ok_P_is_zero (T : Txt K mg L) (F : FunS K "is_zero" "Poly.is_zero" s_Poly_m_is_zero f fd) : FnOk P w K mg base CX0 1 f fd ["self"] (spD L R_P_is_zero) := by
  refine fn_ev F sc_P_is_zero (fun ds r h => by cases h <;> rfl) fun cdv A outer s H E hr ds r h => ?_
  cases h with
  | mk c a => exact .ret (evb_one (evs_ret ((ev_eqI (ev_len T.len (evq_t ((ev_pol_r T.cls (ev_var 0)).is (c.eR_eq a.l)))) ev_int).is (by rw [List.length_map, len_zero_iff]))))
theorem sc_P_leading : FnScope ["self"] ["self"] (defScope s_Poly_m_leading) := ⟨rfl, rfl, rfl, by decide +kernel, rfl, by decide +kernel, by decide +kernel⟩
theorem ok_P_leading (T : Txt K mg L) (C1 : MtC P w K mg base L L.CP "is_zero" 1 ["self"] R_P_is_zero) (F : FunS K "leading" "Poly.leading" s_Poly_m_leading f fd) : FnOk P w K mg base CX0 2 f fd ["self"] (spD L R_P_leading) := by
  refine fn_ev F sc_P_leading (fun ds r h => by cases h <;> rfl) fun cdv A outer s H E hr ds r h => ?_
  cases h with
  | mk c a hne =>
    have hl := len_pos hne
    unfold len at hl
    refine .ret (evb_cons (evs_ifF ((evt_val (ev_methP0 T.cls C1 hr (ev_var 0) (.mk c a))).is (decide_eq_false hne)) evb_nil) (evb_one (evs_ret (ev_ix (evq_t ((ev_pol_r T.cls (ev_var 0)).is (c.eR_eq a.l))) (ev_sub (ev_len T.len (evq_t ((ev_pol_r T.cls (ev_var 0)).is (c.eR_eq a.l)))) ev_int) (atI_of (j := a.l.length - 1) ?_ ?_)))))
    · rw [List.length_map]
      omega
    · rw [List.getElem?_map, get_of 0 (by omega)]
      rfl
theorem sc_P_coefficient : FnScope ["self", "k"] ["self", "k"] (defScope s_Poly_m_coefficient) := ⟨rfl, rfl, rfl, by decide +kernel, rfl, by decide +kernel, by decide +kernel⟩
theorem ok_P_coefficient (T : Txt K mg L) (C1 : FnC P w K mg base L "member_of" 1 ["row", "n"] R_member_of) (F : FunS K "coefficient" "Poly.coefficient" s_Poly_m_coefficient f fd) : FnOk P w K mg base CX0 2 f fd ["self", "k"] (spD L R_P_coefficient) := by
  refine fn_ev F sc_P_coefficient (fun ds r h => by cases h <;> rfl) fun cdv A outer s H E hr ds r h => ?_
  cases h with
  | mk c a k =>
    have ln : (a.l.map c.eK).length = a.l.length := List.length_map ..
    by_cases hk : k < a.l.length
    · refine .ret (evb_ret (evs_ifT ((evt_chain ev_int (ev_var 1) (ev_len T.len (evq_t ((ev_pol_r T.cls (ev_var 0)).is (c.eR_eq a.l))))).is ?_) (evb_one (evs_ret (ev_ix (evq_t ((ev_pol_r T.cls (ev_var 0)).is (c.eR_eq a.l))) (ev_var 1) (atN ?_))))))
      · rw [ln]
        simp
        omega
      · rw [List.getElem?_map, get_of 0 hk]
        rfl
    · refine .ret (evb_cons (evs_ifF ((evt_chain ev_int (ev_var 1) (ev_len T.len (evq_t ((ev_pol_r T.cls (ev_var 0)).is (c.eR_eq a.l))))).is ?_) evb_nil) (evb_one (evs_ret ((ev_call C1 hr (eva_cons (ev_tup eva_nil) (eva_cons (ev_fld_n T.cls (ev_pol_f T.cls (ev_var 0))) eva_nil)) c.k_zero).is ?_))))
      · rw [ln]
        simp
        omega
      · rw [c_out (by unfold len; omega)]
abbrev N_P_scaled : List Str := ["self", "a", "c"]
theorem sc_P_scaled : FnScope N_P_scaled ["self", "a"] (defScope s_Poly_m_scaled) := ⟨rfl, rfl, rfl, by decide +kernel, rfl, by decide +kernel, by decide +kernel⟩
theorem ok_P_scaled (T : Txt K mg L) (MP : MkC P w K mg base L "Poly" L.CP 3 ["self", "field", "row"] R_Poly) (C1 : FnC P w K mg base L "member_product" 3 ["a", "b", "modulus", "p"] R_member_product) (F : FunS K "scaled" "Poly.scaled" s_Poly_m_scaled f fd) : FnOk P w K mg base CX0 5 f fd ["self", "a"] (spD L R_P_scaled) := by
  refine fn_ev F sc_P_scaled (fun ds r h => by cases h <;> rfl) fun cdv A outer s H E hr ds r h => ?_
  cases h with
  | mk c a x ha =>
    have nd := sc_P_scaled.nd
    have hr3 : Room 3 _ := hr.mono (by decide)
    have ha' : a.l.length ≤ 400 := ha
    refine .ret (evb_one (evs_ret (ev_make MP hr (eva_cons (ev_pol_f T.cls (ev_var 0)) (eva_cons (d := c.eL (psc x a.l)) ((ev_new (evn_lc (own := [("c", 2)]) (t := .one 2) (xs := a.l) (en := c.eK) (f := fun y => c.eK (x * y)) (evi_tup ((ev_pol_r T.cls (ev_var 0)).is (c.eR_eq a.l)))
      (lcb (fun _ _ _ _ _ => evg_one 2 nd) rfl fun i d hd => ⟨_, rfl, fun _ _ _ _ _ => ev_call C1 hr3 (eva_cons (ev_var 1) (eva_cons (ev_var 2) (eva_cons (ev_fld_m T.cls (ev_pol_f T.cls (ev_var 0))) (eva_cons (ev_fld_p T.cls (ev_pol_f T.cls (ev_var 0))) eva_nil)))) (c.k_mul _ _)⟩) (by omega) rfl nd (blkOk_by (N := N_P_scaled) (sc := defScope s_Poly_m_scaled) (by decide +kernel)))).is ?_) eva_nil)) ?_)))
    · unfold FC.eL psc
      rw [List.map_map]
      rfl
    · have e : mkP (psc x a.l) = C x * a := mkP_eq fun i => by rw [co_psc, c_Cmul]; rfl
      rw [← e]
      exact .mk c true _ (by unfold psc; rw [List.length_map]; omega)
theorem sc_P_monic : FnScope ["self"] ["self"] (defScope s_Poly_m_monic) := ⟨rfl, rfl, rfl, by decide +kernel, rfl, by decide +kernel, by decide +kernel⟩
theorem ok_P_monic (T : Txt K mg L) (C1 : MtC P w K mg base L L.CP "is_zero" 1 ["self"] R_P_is_zero) (C2 : MtC P w K mg base L L.CP "scaled" 5 ["self", "a"] R_P_scaled) (C3 : MtC P w K mg base L L.CP "leading" 2 ["self"] R_P_leading) (C4 : FnC P w K mg base L "member_inverse" 4 ["a", "modulus", "p"] R_member_inverse) (F : FunS K "monic" "Poly.monic" s_Poly_m_monic f fd) : FnOk P w K mg base CX0 6 f fd ["self"] (spD L R_P_monic) := by
  refine fn_ev F sc_P_monic (fun ds r h => by cases h <;> rfl) fun cdv A outer s H E hr ds r h => ?_
  cases h with
  | mk c a hne ha =>
    have hr1 : Room 1 _ := hr.mono (by decide)
    have hr2 : Room 2 _ := hr.mono (by decide)
    have hr4 : Room 4 _ := hr.mono (by decide)
    exact .ret (evb_cons (evs_ifF ((evt_val (ev_methP0 T.cls C1 hr1 (ev_var 0) (.mk c a))).is (decide_eq_false hne)) evb_nil) (evb_one (evs_ret (ev_methP T.cls C2 hr (ev_var 0) (eva_cons (ev_call C4 hr4 (eva_cons (ev_methP0 T.cls C3 hr2 (ev_var 0) (.mk c a hne)) (eva_cons (ev_fld_m T.cls (ev_pol_f T.cls (ev_var 0))) (eva_cons (ev_fld_p T.cls (ev_pol_f T.cls (ev_var 0))) eva_nil))) (c.k_inv (c_top hne))) eva_nil) (.mk c a _ ha)))))
end
end FM
set_option autoImplicit false
namespace FM
open PySem PySem.Spec PyProof.Rows L2 LamX Pol
/-- *e in a display -/
theorem eva_star {L : Lc} {X : Cx} {S : SlS} {e : Expr} {p : Pos} {es : List Expr} {xs ds : List D} (h : EvQ L X e S true xs) (hr : EvA L X es S ds) (hs : starEach (.Starred e p :: es) X.env = (true, eval e X.env) :: starEach es X.env := by rfl) : EvA L X (.Starred e p :: es) S (xs ++ ds) :=
  PA.imp (StX.pa_star h hr hs) fun σ H Q ⟨G, R, q⟩ => ⟨G, R, fun G1 H1 a vs g1 e1 i1 => ⟨a, vs, rfl, .inr (SqL.of e1), G1, R.grow g1, fun G2 H2 ws g2 i2 => q G2 H2 _ (g1.trans g2) ((i1.mono g2.gg).append i2)⟩⟩
/-- the key by which polynomials are put in order -/
def pkey {c : FC} (a : Pol (Kq c)) : List Int := ((a.len : Int) - 1) :: a.l.reverse.map fun x => (x.v : Int)
inductive R_P_power_modulo : List D → D → Prop
  | mk (c : FC) (a m : Pol (Kq c)) (k : Nat) (ha : a.len ≤ 190) (hm : m.len ≤ 190) (h : m ≠ 0) : R_P_power_modulo [c.P a, .int (k : Nat), c.P m] (c.P (rem (a ^ k) m))
inductive R_P_key : List D → D → Prop
  | mk (c : FC) (a : Pol (Kq c)) (ha : a.len ≤ 190) : R_P_key [c.P a] (tI (pkey a))
inductive R_constant : List D → D → Prop
  | mk (c : FC) (x : Kq c) : R_constant [.fld c.d, c.eK x] (c.P (C x))
inductive R_monomial : List D → D → Prop
  | mk (c : FC) (x : Kq c) (k : Nat) (h : k ≤ 190) : R_monomial [.fld c.d, c.eK x, .int (k : Nat)] (c.P (C x * X ^ k))
inductive R_variable : List D → D → Prop
  | mk (c : FC) : R_variable [.fld c.d] (c.P X)
inductive R_common_divisor : List D → D → Prop
  | mk (c : FC) (f g d : Pol (Kq c)) (hf : f.len ≤ 190) (hg : g.len ≤ 190) (h : IsG d f g) : R_common_divisor [c.P f, c.P g] (c.P d)
section
variable {P : Program} {w : World} {K : PySem.W.Frag} {mg : Str → Option Value} {base : Heap} {L : Lc} {f : Addr} {fd : FuncData}
/-! ### derivative -/
abbrev N_P_derivative : List Str := ["self", "out", "k", "x"]
theorem sc_P_derivative : FnScope N_P_derivative ["self"] (defScope s_Poly_m_derivative) := ⟨rfl, rfl, rfl, by decide +kernel, rfl, by decide +kernel, by decide +kernel⟩
theorem ok_P_derivative (T : Txt K mg L) (MP : MkC P w K mg base L "Poly" L.CP 3 ["self", "field", "row"] R_Poly) (F : FunS K "derivative" "Poly.derivative" s_Poly_m_derivative f fd) : FnOk P w K mg base CX0 5 f fd ["self"] (spD L R_P_derivative) := by
  refine fn_ev F sc_P_derivative (fun ds r h => by cases h <;> rfl) fun cdv A outer s H E hr ds r h => ?_
  cases h with
  | mk c a ha =>
    have nd := sc_P_derivative.nd
    have ha' : a.l.length ≤ 30 := ha
    have ln : (a.l.map c.eK).length = a.l.length := List.length_map ..
    let O : Nat → List (Kq c) := fun i => (List.range i).map fun i => ((i + 1 : Nat) : Kq c) * co a.l (i + 1)
    refine .ret (evb_cons (evs_setn 1 (evn_lst eva_nil) nd) (evb_cons (evs_forN (lo := 1) (c := 1) (n := a.l.length - 1) (t := .one 2) (W := fun i => [.val (c.P a), .own ((O i).map c.eK), .any, .any]) ((evi_range2 T.range ev_int (ev_len T.len (evq_t ((ev_pol_r T.cls (ev_var 0)).is (c.eR_eq a.l)))) ?_).is ?_) (evg_one 2 nd) PassesOwn.never rfl fun i hi => ?_) (evb_frz 1 rfl (evb_one (evs_ret (ev_make MP hr (eva_cons (ev_pol_f T.cls (ev_var 0)) (eva_cons (ev_var 1) eva_nil)) (.mk c true (O (a.l.length - 1)) ?_)))))))
    · rw [ln]
      omega
    · rw [ln]
      congr 1
      omega
    · have hk : (1 : Int) + (i : Int) * 1 = ((i + 1 : Nat) : Int) := by omega
      rw [hk]
      refine ⟨_, _, rfl, evb_weak (evb_one (evs_append 1 (d := c.eK (((i + 1 : Nat) : Kq c) * co a.l (i + 1))) ((ev_tupleL T.tuple (evq_n (evn_lc (own := [("x", 3)]) (t := .one 3) (xs := c.e (co a.l (i + 1))) (en := .int) (f := fun x => .int (((i + 1 : Nat) : Int) * x % c.d.p)) (evi_tup (xs := (c.e (co a.l (i + 1))).map .int) (ev_ix (evq_t ((ev_pol_r T.cls (ev_var 0)).is (c.eR_eq a.l))) (ev_var 2) (atN (i := i + 1) ?_)))
        (lcb (fun _ _ _ _ _ => evg_one 3 nd) rfl fun j d hd => ⟨_, rfl, fun _ _ _ _ _ => ev_mod (ev_mul (ev_var 2) (ev_var 3) (.inl ⟨by omega, by omega⟩)) (ev_fld_p T.cls (ev_pol_f T.cls (ev_var 0))) c.pp.pos⟩) ?_ rfl nd (blkOk_by (N := N_P_derivative) (sc := defScope s_Poly_m_derivative) (by decide +kernel))))).is ?_) rfl ?_)) ?_, .inl rfl⟩
      · rw [List.getElem?_map, get_of 0 (show i + 1 < a.l.length by omega)]
        rfl
      · have := c.e_le (co a.l (i + 1))
        omega
      · have h7 := (c.g7.2 (co a.l (i + 1))).2.2.2.2 (i + 1) (by omega)
        unfold FC.eK tI
        rw [← h7, List.map_map]
        rfl
      · rw [List.length_map, List.length_map, List.length_range]
        omega
      · show Weak [_, Sl.own _, _, _] [_, Sl.own _, _, _]
        have e : ((O i).map c.eK) ++ [c.eK (((i + 1 : Nat) : Kq c) * co a.l (i + 1))] = (O (i + 1)).map c.eK := by
          show _ = ((List.range (i + 1)).map _).map _
          rw [List.range_succ, List.map_append, List.map_append]
          rfl
        rw [e]
        exact .same (.same (.any (.any .nil)))
    · rw [List.length_map, List.length_range]
      omega
/-! ### power_modulo -/
theorem bS_len {c : FC} {m : Pol (Kq c)} (h : m ≠ 0) (o b : Pol (Kq c)) (l : Nat) (ho : o.len < m.len) (hb : b.len < m.len) : ∀ i, (bS (fun x y => rem (x * y) m) o b l i).1.len < m.len ∧ (bS (fun x y => rem (x * y) m) o b l i).2.1.len < m.len
  | 0 => ⟨ho, hb⟩
  | i + 1 => by
    have ih := bS_len h o b l ho hb i
    refine ⟨?_, (div_spec _ h).2⟩
    show (if _ then _ else _ : Pol (Kq c)).len < m.len
    split
    · exact (div_spec _ h).2
    · exact ih.1
theorem mul_len_le {c : FC} (a b : Pol (Kq c)) {n : Nat} (ha : a.len ≤ n) (hb : b.len ≤ n) : (a * b).len ≤ 2 * n := by
  rw [mul_l]
  refine len_le fun i hi => ?_
  rw [mkP_c]
  have h1 : a.l.length = a.len := rfl
  have h2 : b.l.length = b.len := rfl
  exact c_mul_out b.l a.l i (by omega)
abbrev N_P_power_modulo : List Str := ["self", "k", "m", "out", "base", "left"]
theorem sc_P_power_modulo : FnScope N_P_power_modulo ["self", "k", "m"] (defScope s_Poly_m_power_modulo) := ⟨rfl, rfl, rfl, by decide +kernel, rfl, by decide +kernel, by decide +kernel⟩
theorem ok_P_power_modulo (T : Txt K mg L) (MP : MkC P w K mg base L "Poly" L.CP 3 ["self", "field", "row"] R_Poly) (C1 : FnC P w K mg base L "member_of" 1 ["row", "n"] R_member_of) (O1 : OpC P w K mg base L .Mult 5 ["self", "other"] R_P_mul) (O2 : OpC P w K mg base L .Mod 6 ["self", "other"] R_P_mod) (F : FunS K "power_modulo" "Poly.power_modulo" s_Poly_m_power_modulo f fd) : FnOk P w K mg base CX0 7 f fd ["self", "k", "m"] (spD L R_P_power_modulo) := by
  refine fn_ev F sc_P_power_modulo (fun ds r h => by cases h <;> rfl) fun cdv A outer s H E hr ds r h => ?_
  cases h with
  | mk c a m k ha hm h =>
    have nd := sc_P_power_modulo.nd
    have hr1 : Room 1 _ := hr.mono (by decide)
    have hr4 : Room 4 _ := hr.mono (by decide)
    have hr5 : Room 5 _ := hr.mono (by decide)
    have l1 := (div_spec 1 h).2
    have la := (div_spec a h).2
    let B : Nat → Pol (Kq c) × Pol (Kq c) × Nat := bS (fun x y => rem (x * y) m) (rem 1 m) (rem a m) k
    have lB : ∀ i, (B i).1.len < m.len ∧ (B i).2.1.len < m.len := bS_len h _ _ _ l1 la
    have hb := bS_end (fun x y : Pol (Kq c) => rem (x * y) m) (fun x => rem x m) (fun x y => rem_mul h x y) k 1 a
    refine .ret (evb_cons (evs_set 3 (d := c.P (rem 1 m)) (ev_opP O2 hr (ev_make MP hr4 (eva_cons (ev_pol_f T.cls (ev_var 0)) (eva_cons (ev_new (evn_lst (eva_cons (ev_call C1 hr1 (eva_cons (ev_tup (eva_cons ev_int eva_nil)) (eva_cons (ev_fld_n T.cls (ev_pol_f T.cls (ev_var 0))) eva_nil)) c.k_one) eva_nil))) eva_nil)) (.mk c true [1] (by simp))) (ev_var 2) ?_) nd) (evb_cons (evs_set 4 (ev_opP O2 hr (ev_var 0) (ev_var 2) (.mk c a m (by omega) (by omega) h)) nd) (evb_cons (evs_set 5 (ev_var 1) nd) (evb_cons (evs_while (W := fun i => [.val (c.P a), .val (.int (k : Nat)), .val (c.P m), .val (c.P (B i).1), .val (c.P (B i).2.1), .val (.int ((B i).2.2 : Nat))]) (bN k) PassesOwn.never (fun i hi => ?_) ?_) (evb_one ((evs_ret (ev_var 3)).is ?_))))))
    · have e : mkP [1] = (1 : Pol (Kq c)) := one_eq.symm
      have e2 := R_P_mod.mk c (mkP [1]) m (by rw [e, len_one]; omega) (by omega) h
      rw [show rem 1 m = rem (mkP [1]) m from by rw [e]]
      exact e2
    · have k0 : 0 < (B i).2.2 := hb.2.2 i hi
      have lb := lB i
      have l4 : ((B i).2.1 * (B i).2.1).len ≤ 400 := by
        have := mul_len_le (B i).2.1 (B i).2.1 (n := 190) (by omega) (by omega)
        omega
      refine ⟨(evt_gt (ev_var 5) ev_int).is (decide_eq_true (by omega)), _, evb_cons (S' := [.val (c.P a), .val (.int (k : Nat)), .val (c.P m), .val (c.P (B (i + 1)).1), .val (c.P (B i).2.1), .val (.int ((B i).2.2 : Nat))]) (evs_if (evt_eq (ev_mod (ev_var 5) ev_int (by decide)) ev_int) (fun z => ?_) (fun z => ?_)) (evb_cons (evs_set 4 (ev_opP O2 hr (ev_opP O1 hr5 (ev_var 4) (ev_var 4) (.mk c _ _ (by omega) (by omega))) (ev_var 2) (.mk c _ m l4 (by omega) h)) nd) (evb_one ((evs_set 5 (ev_fdiv (ev_var 5) ev_int ⟨by decide, by decide⟩) nd).is ?_))), .inl rfl⟩
      · have z' := of_decide_eq_true z
        have l3 := mul_len_le (B i).1 (B i).2.1 (n := 190) (by omega) (by omega)
        refine (evb_one (evs_set 3 (ev_opP O2 hr (ev_opP O1 hr5 (ev_var 3) (ev_var 4) (.mk c _ _ (by omega) (by omega))) (ev_var 2) (.mk c _ m (by omega) (by omega) h)) nd)).is ?_
        · show Out.nx [_, _, _, _, _, _] = Out.nx [_, _, _, Sl.val (c.P (if _ then _ else _)), _, _]
          rw [if_pos (show (B i).2.2 % 2 = 1 by omega)]
      · have z' := of_decide_eq_false z
        refine evb_nil.is ?_
        show Out.nx [_, _, _, _, _, _] = Out.nx [_, _, _, Sl.val (c.P (if _ then _ else _)), _, _]
        rw [if_neg (show ¬ (B i).2.2 % 2 = 1 by omega)]
      · rfl
    · refine (evt_gt (ev_var 5) ev_int).is ?_
      have : (B (bN k)).2.2 = 0 := hb.2.1
      rw [this]
      rfl
    · have h1 : (B (bN k)).1 = rem (1 * a ^ k) m := hb.1
      rw [h1, show (1 : Pol (Kq c)) * a ^ k = a ^ k from by grind]
/-! ### constant, monomial, variable -/
theorem sc_constant : FnScope ["field", "a"] ["field", "a"] (defScope s_constant) := ⟨rfl, rfl, rfl, by decide +kernel, rfl, by decide +kernel, by decide +kernel⟩
theorem ok_constant (T : Txt K mg L) (MP : MkC P w K mg base L "Poly" L.CP 3 ["self", "field", "row"] R_Poly) (F : FunS K "constant" "constant" s_constant f fd) : FnOk P w K mg base CX0 5 f fd ["field", "a"] (spD L R_constant) := by
  refine fn_ev F sc_constant (fun ds r h => by cases h <;> rfl) fun cdv A outer s H E hr ds r h => ?_
  cases h with
  | mk c x => exact .ret (evb_one (evs_ret (ev_make MP hr (eva_cons (ev_var 0) (eva_cons (ev_new (evn_lst (eva_cons (ev_var 1) eva_nil))) eva_nil)) (.mk c true [x] (by simp)))))
theorem sc_monomial : FnScope ["field", "a", "k"] ["field", "a", "k"] (defScope s_monomial) := ⟨rfl, rfl, rfl, by decide +kernel, rfl, by decide +kernel, by decide +kernel⟩
theorem ok_monomial (T : Txt K mg L) (MP : MkC P w K mg base L "Poly" L.CP 3 ["self", "field", "row"] R_Poly) (C1 : FnC P w K mg base L "member_of" 1 ["row", "n"] R_member_of) (F : FunS K "monomial" "monomial" s_monomial f fd) : FnOk P w K mg base CX0 5 f fd ["field", "a", "k"] (spD L R_monomial) := by
  refine fn_ev F sc_monomial (fun ds r h => by cases h <;> rfl) fun cdv A outer s H E hr ds r h => ?_
  cases h with
  | mk c x k hk =>
    have hr1 : Room 1 _ := hr.mono (by decide)
    refine .ret (evb_one (evs_ret (ev_make MP hr (eva_cons (ev_var 0) (eva_cons (d := c.eL (List.replicate k 0 ++ [x])) ((ev_new (evn_cat (evq_n (evn_rep (evq_n (evn_lst (eva_cons (ev_call C1 hr1 (eva_cons (ev_tup eva_nil) (eva_cons (ev_fld_n T.cls (ev_var 0)) eva_nil)) c.k_zero) eva_nil))) (ev_var 2) ?_)) (evq_n (evn_lst (eva_cons (ev_var 1) eva_nil))) ?_)).is ?_) eva_nil)) ?_)))
    · omega
    · rw [List.length_replicate]
      simp
      omega
    · unfold FC.eL
      rw [List.map_append, List.map_replicate]
      rfl
    · have e : mkP (List.replicate k 0 ++ [x]) = C x * X ^ k := mkP_eq fun i => by
        rw [co_append, List.length_replicate, show (X : Pol (Kq c)) ^ k = X ^ k * 1 from by grind, c_Cmul, c_Xpow]
        by_cases h1 : i < k
        · rw [if_pos h1, if_neg (by omega), co_rep]
          grind
        · rw [if_neg h1, if_pos (by omega)]
          cases e : i - k with
          | zero =>
            rw [c_one0]
            show x = _
            grind
          | succ j =>
            rw [c_one1]
            show (0 : Kq c) = _
            grind
      rw [← e]
      exact .mk c true _ (by simp; omega)
theorem sc_variable : FnScope ["field"] ["field"] (defScope s_variable) := ⟨rfl, rfl, rfl, by decide +kernel, rfl, by decide +kernel, by decide +kernel⟩
theorem ok_variable (T : Txt K mg L) (C1 : FnC P w K mg base L "member_of" 1 ["row", "n"] R_member_of) (C2 : FnC P w K mg base L "monomial" 5 ["field", "a", "k"] R_monomial) (F : FunS K "variable" "variable" s_variable f fd) : FnOk P w K mg base CX0 6 f fd ["field"] (spD L R_variable) := by
  refine fn_ev F sc_variable (fun ds r h => by cases h <;> rfl) fun cdv A outer s H E hr ds r h => ?_
  cases h with
  | mk c =>
    have hr1 : Room 1 _ := hr.mono (by decide)
    refine .ret (evb_one (evs_ret (ev_call C2 hr (eva_cons (ev_var 0) (eva_cons (ev_call C1 hr1 (eva_cons (ev_tup (eva_cons ev_int eva_nil)) (eva_cons (ev_fld_n T.cls (ev_var 0)) eva_nil)) c.k_one) (eva_cons ev_int eva_nil))) ?_)))
    have h := R_monomial.mk c 1 1 (by decide)
    rw [show (C (1 : Kq c) * X ^ 1 : Pol (Kq c)) = X from by rw [C_one]; grind] at h
    exact h
/-! ### common_divisor -/
theorem gS_len {c : FC} {f g : Pol (Kq c)} {n : Nat} (hf : f.len ≤ n) (hg : g.len ≤ n) : ∀ i, (∀ j, j < i → (gS f g j).2 ≠ 0) → (gS f g i).1.len ≤ n ∧ (gS f g i).2.len ≤ n
  | 0, _ => ⟨hf, hg⟩
  | i + 1, h => by
    have ih := gS_len hf hg i fun j hj => h j (by omega)
    have := (div_spec (gS f g i).1 (h i (by omega))).2
    exact ⟨ih.2, by show (rem _ _).len ≤ n; omega⟩
theorem sc_common_divisor : FnScope ["f", "g"] ["f", "g"] (defScope s_common_divisor) := ⟨rfl, rfl, rfl, by decide +kernel, rfl, by decide +kernel, by decide +kernel⟩
theorem ok_common_divisor (T : Txt K mg L) (C1 : MtC P w K mg base L L.CP "is_zero" 1 ["self"] R_P_is_zero) (C2 : MtC P w K mg base L L.CP "monic" 6 ["self"] R_P_monic) (O2 : OpC P w K mg base L .Mod 6 ["self", "other"] R_P_mod) (F : FunS K "common_divisor" "common_divisor" s_common_divisor f fd) : FnOk P w K mg base CX0 7 f fd ["f", "g"] (spD L R_common_divisor) := by
  refine fn_ev F sc_common_divisor (fun ds r h => by cases h <;> rfl) fun cdv A outer s H E hr ds r h => ?_
  cases h with
  | mk c f g d hf hg h =>
    have nd := sc_common_divisor.nd
    have hr1 : Room 1 _ := hr.mono (by decide)
    have ne : f ≠ 0 ∨ g ≠ 0 := by
      by_cases q : f = 0
      · refine .inr fun q2 => ?_
        obtain ⟨md, x, y, e1, e2, u, v, e3⟩ := h
        have hx : x = 0 := cancel md.ne (by grind)
        have hy : y = 0 := cancel md.ne (by grind)
        rw [hx, hy] at e3
        exact one_ne0 (K := Kq c) (e3.symm.trans (by grind))
      · exact .inl q
    obtain ⟨N, h1, h2, h3, h4⟩ := exists_gcd f g ne
    have lN := fun i (hi : i ≤ N) => gS_len (n := 190) hf hg i fun j hj => h2 j (by omega)
    refine .ret (evb_cons (evs_while (W := fun i => [.val (c.P (gS f g i).1), .val (c.P (gS f g i).2)]) N PassesOwn.never (fun i hi => ?_) ?_) (evb_one (evs_ret ((ev_methP0 T.cls C2 hr (ev_var 0) (.mk c _ h3 (by have := (lN N (Nat.le_refl _)).1; omega))).is ?_))))
    · have l := lN i (by omega)
      exact ⟨(evt_not (evt_val (ev_methP0 T.cls C1 hr1 (ev_var 1) (.mk c _)))).is (by rw [decide_eq_false (h2 i hi)]; rfl), _, evb_one (evs_par 0 1 (eva_cons (ev_var 1) (eva_cons (ev_opP O2 hr (ev_var 0) (ev_var 1) (.mk c _ _ (by omega) (by omega) (h2 i hi))) eva_nil)) rfl nd (by decide)), .inl rfl⟩
    · exact (evt_not (evt_val (ev_methP0 T.cls C1 hr1 (ev_var 1) (.mk c _)))).is (by rw [decide_eq_true h1]; rfl)
    · rw [h4.uniq h]
/-! ### key -/
abbrev N_P_key : List Str := ["self", "numbers", "c", "total", "x"]
theorem sc_P_key : FnScope N_P_key ["self"] (defScope s_Poly_m_key) := ⟨rfl, rfl, rfl, by decide +kernel, rfl, by decide +kernel, by decide +kernel⟩
theorem ok_P_key (T : Txt K mg L) (F : FunS K "key" "Poly.key" s_Poly_m_key f fd) : FnOk P w K mg base CX0 1 f fd ["self"] (spD L R_P_key) := by
  refine fn_ev F sc_P_key (fun ds r h => by cases h <;> rfl) fun cdv A outer s H E hr ds r h => ?_
  cases h with
  | mk c a ha =>
    have nd := sc_P_key.nd
    have ha' : a.l.length ≤ 190 := ha
    have ln : (a.l.map c.eK).length = a.l.length := List.length_map ..
    let O : Nat → List Int := fun i => (a.l.reverse.take i).map fun x => (x.v : Int)
    refine .ret (evb_cons (evs_setn 1 (evn_lst eva_nil) nd) (evb_cons (evs_forT (xs := a.l.reverse) (en := c.eK) (t := .one 2) (W := fun i => [.val (c.P a), .own ((O i).map .int), .any, .any, .any]) ((evi_rev T.reversed (ev_new (evn_list T.list (evq_t ((ev_pol_r T.cls (ev_var 0)).is (c.eR_eq a.l)))))).is (by rw [← List.map_reverse])) (evg_one 2 nd) PassesOwn.never rfl fun i q hq => ?_) (evb_one (evs_ret ((ev_tup (eva_cons (ev_sub (ev_len T.len (evq_t ((ev_pol_r T.cls (ev_var 0)).is (c.eR_eq a.l)))) ev_int) (eva_star (evq_own 1) eva_nil)) ?_).is ?_)))))
    · let tot : Nat → Int := fun j => ((c.e q).reverse.take j).foldl (fun t x => t * c.d.p + x) 0
      have i_lt : i < a.l.reverse.length := (List.getElem?_eq_some_iff.mp hq).1
      rw [List.length_reverse] at i_lt
      refine ⟨_, _, rfl, evb_weak (evb_cons (evs_set 3 ev_int nd) (evb_cons (evs_forT (xs := (c.e q).reverse) (en := .int) (t := .one 4) (W := fun j => [.val (c.P a), .own ((O i).map .int), .val (c.eK q), .val (.int (tot j)), .any]) ((evi_rev T.reversed (ev_new (evn_list T.list (evq_t (xs := (c.e q).map .int) (ev_var 2))))).is (by rw [← List.map_reverse])) (evg_one 4 nd) PassesOwn.never rfl fun j x hx => ?_) (evb_one (evs_append 1 (ev_var 3) rfl ?_)))) ?_, .inl rfl⟩
      · have jl : j < (c.e q).reverse.length := (List.getElem?_eq_some_iff.mp hx).1
        refine ⟨_, _, rfl, evb_weak (evb_one (evs_set 3 (d := .int (tot (j + 1))) ((ev_add (ev_mul (ev_var 3) (ev_fld_p T.cls (ev_pol_f T.cls (ev_var 0))) ?_) (ev_var 4)).is ?_) nd)) ?_, .inl rfl⟩
        · have := c.pp.pos
          have := c.pp.le
          exact .inr ⟨by omega, by omega⟩
        · show D.int (tot j * c.d.p + x) = _
          congr 1
          show _ = ((c.e q).reverse.take (j + 1)).foldl _ 0
          rw [take_succ_of hx, List.foldl_append]
          rfl
        · exact .same (.same (.same (.same (.any .nil))))
      · rw [List.length_map, List.length_map, List.length_take, List.length_reverse]
        omega
      · have e0 : tot (c.e q).reverse.length = (q.v : Int) := by
          show ((c.e q).reverse.take (c.e q).reverse.length).foldl _ 0 = _
          rw [List.take_length, List.foldl_reverse]
          exact (c.g7.2 q).2.2.1
        show Weak [_, Sl.own _, _, _, _] [_, Sl.own _, _, _, _]
        have e : ((O i).map D.int) ++ [D.int (tot (c.e q).reverse.length)] = (O (i + 1)).map .int := by
          show _ = ((a.l.reverse.take (i + 1)).map _).map _
          rw [e0, take_succ_of hq, List.map_append, List.map_append]
          rfl
        rw [e]
        exact .same (.same (.any (.any (.any .nil))))
    · rw [List.length_cons, List.length_append, List.length_map, List.length_map, List.length_take, List.length_reverse]
      simp
      omega
    · show D.tup (D.int _ :: (((a.l.reverse.take a.l.reverse.length).map _).map D.int ++ [])) = _
      rw [List.take_length, List.append_nil, ln]
      rfl
end
end FM
set_option autoImplicit false
namespace FM
open PySem PySem.Spec PyProof.Rows L2 LamX Pol
/-! ### x not in s, ints -/
theorem inV_ints (i : Int) : ∀ xs : List Int, L2.inV (.int i) (xs.map V.int) = decide (i ∈ xs)
  | [] => by simp [L2.inV]
  | x :: xs => by
    have ih := inV_ints i xs
    unfold L2.inV at ih ⊢
    rw [List.map_cons, List.any_cons, ih]
    show (x == i || decide (i ∈ xs)) = _
    by_cases h : x = i
    · subst h
      simp
    · have h2 : ¬ i = x := fun z => h z.symm
      have h3 : (x == i) = false := by simp [h]
      rw [h3, Bool.false_or]
      simp [h2]
theorem flat_ints : ∀ xs : List Int, (xs.map V.int).all L2.flatV = true
  | [] => rfl
  | x :: xs => by
    rw [List.map_cons, List.all_cons, flat_ints xs]
    rfl
theorem evt_notin {L : Lc} {X : Cx} {S : SlS} {a b : Expr} {pos : Pos} {i : Int} {k : Bool} {xs : List Int} (ha : EvE L X a S (.int i)) (hb : EvQ L X b S k (xs.map .int)) (hm : behindInMarks .NotIn b = false := by rfl) : EvT L X (.Compare a [.NotIn] [b] pos) S (!decide (i ∈ xs)) :=
  PT.imp (pt_cmpR L2.op_notIn_seq ha hb hm) fun σ H Q ⟨G, R, q⟩ => ⟨G, R, fun G1 H1 v g1 i1 => ⟨G1, R.grow g1, fun G2 H2 p vs g2 e2 i2 => by
    have e3 := is_int i1
    subst e3
    rw [i2.ints] at e2
    refine ⟨p, _, rfl, seqLT e2, rfl, flat_ints xs, _, rfl, ?_⟩
    rw [if_pos rfl, inV_ints]
    exact q G2 H2 (g1.trans g2)⟩⟩
def FC.eLL (c : FC) (l : List (List (Kq c))) : D := .lst (l.map c.eL)
def FC.eRR (c : FC) (l : List (List (Kq c))) : D := .tup (l.map c.eR)
inductive R_subtract : List D → D → Prop
  | mk (c : FC) (a b : Kq c) : R_subtract [.fld c.d, c.eK a, c.eK b] (c.eK (a + -b))
inductive R_cleared : List D → D → Prop
  | mk (c : FC) (row lead : List (Kq c)) (n : Nat) (hr : row.length ≤ 1000) (hn : n < row.length) : R_cleared [.fld c.d, c.eL row, c.eL lead, .int (n : Nat)] (c.eL (clr lead n row))
inductive R_reduced : List D → D → Prop
  | mk (c : FC) (rows : List (List (Kq c))) (wd : Nat) (h : ∀ r ∈ rows, r.length = wd) (h1 : rows.length ≤ 100) (h2 : wd ≤ 100) : R_reduced [.fld c.d, c.eRR rows, .int (wd : Nat)] (.tup [c.eRR (redS rows wd).done, tI ((redS rows wd).piv.map fun (i : Nat) => (i : Int))])
inductive R_kernel : List D → D → Prop
  | mk (c : FC) (rows : List (List (Kq c))) (wd : Nat) (h : ∀ r ∈ rows, r.length = wd) (h1 : rows.length ≤ 100) (h2 : wd ≤ 100) : R_kernel [.fld c.d, c.eRR rows, .int (wd : Nat)] (c.eRR (kerL rows wd))
section
variable {P : Program} {w : World} {K : PySem.W.Frag} {mg : Str → Option Value} {base : Heap} {L : Lc} {f : Addr} {fd : FuncData}
theorem sc_subtract : FnScope ["field", "a", "b"] ["field", "a", "b"] (defScope s_subtract) := ⟨rfl, rfl, rfl, by decide +kernel, rfl, by decide +kernel, by decide +kernel⟩
theorem ok_subtract (T : Txt K mg L) (C1 : MtC P w K mg base L L.CF "add" 2 ["self", "a", "b"] R_F_add) (C2 : MtC P w K mg base L L.CF "negative" 2 ["self", "a"] R_F_negative) (F : FunS K "subtract" "subtract" s_subtract f fd) : FnOk P w K mg base CX0 3 f fd ["field", "a", "b"] (spD L R_subtract) := by
  refine fn_ev F sc_subtract (fun ds r h => by cases h <;> rfl) fun cdv A outer s H E hr ds r h => ?_
  cases h with
  | mk c a b => exact .ret (evb_one (evs_ret (ev_methF T.cls C1 hr (ev_var 0) (eva_cons (ev_var 1) (eva_cons (ev_methF T.cls C2 hr (ev_var 0) (eva_cons (ev_var 2) eva_nil) (.mk c b)) eva_nil)) (.mk c a _))))
abbrev N_cleared : List Str := ["field", "row", "lead", "at", "factor", "x", "y"]
theorem sc_cleared : FnScope N_cleared ["field", "row", "lead", "at"] (defScope s_cleared) := ⟨rfl, rfl, rfl, by decide +kernel, rfl, by decide +kernel, by decide +kernel⟩
theorem ok_cleared (T : Txt K mg L) (C1 : FnC P w K mg base L "subtract" 3 ["field", "a", "b"] R_subtract) (C2 : MtC P w K mg base L L.CF "multiply" 4 ["self", "a", "b"] R_F_multiply) (F : FunS K "cleared" "cleared" s_cleared f fd) : FnOk P w K mg base CX0 5 f fd ["field", "row", "lead", "at"] (spD L R_cleared) := by
  refine fn_ev F sc_cleared (fun ds r h => by cases h <;> rfl) fun cdv A outer s H E hr ds r h => ?_
  cases h with
  | mk c row lead n hrow hn =>
    have nd := sc_cleared.nd
    have hr3 : Room 3 _ := hr.mono (by decide)
    refine .ret (evb_cons (evs_set 4 (ev_ix (evq_l (ev_var 1)) (ev_var 3) (d := c.eK (co row n)) (atN ?_)) nd) (evb_one (evs_ret ((ev_new (evn_lc (own := [("x", 5), ("y", 6)]) (t := .two 5 6) (xs := row.zip lead) (en := fun q => .tup [c.eK q.1, c.eK q.2]) (f := fun q => c.eK (q.1 + -(co row n * q.2))) ((evi_zipL T.zip (ev_var 1) (ev_var 2)).is (zipD_map _ _ _ _))
      (lcb (fun _ _ _ _ _ => evg_two 5 6 rfl nd) rfl fun i d hd => ⟨_, rfl, fun _ _ _ _ _ => ev_call C1 hr3 (eva_cons (ev_var 0) (eva_cons (ev_var 5) (eva_cons (ev_methF T.cls C2 hr (ev_var 0) (eva_cons (ev_var 4) (eva_cons (ev_var 6) eva_nil)) (.mk c _ _)) eva_nil))) (.mk c _ _)⟩) ?_ rfl nd (blkOk_by (N := N_cleared) (sc := defScope s_cleared) (by decide +kernel)))).is ?_))))
    · rw [List.getElem?_map, get_of 0 hn]
      rfl
    · rw [List.length_zip]
      omega
    · unfold FC.eL clr
      rw [List.map_map]
      rfl
/-! ### reduced -/
abbrev N_reduced : List Str := ["field", "rows", "width", "rest", "done", "pivots", "at", "chosen", "scale", "lead", "others", "row", "k", "x"]
theorem sc_reduced : FnScope N_reduced ["field", "rows", "width"] (defScope s_reduced) := ⟨rfl, rfl, rfl, by decide +kernel, rfl, by decide +kernel, by decide +kernel⟩
theorem cut_lo {α : Type} (xs : List α) (i : Nat) : cutD xs none (some (i : Int)) = xs.take i := by
  unfold cutD
  rw [HT.sIx_none, HT.sIx_nat, List.drop_zero, Nat.sub_zero]
  by_cases h : i ≤ xs.length
  · rw [Nat.min_eq_left h]
  · rw [Nat.min_eq_right (by omega), List.take_length, List.take_of_length_le (by omega)]
theorem cut_hi {α : Type} (xs : List α) (i : Nat) : cutD xs (some (i : Int)) none = xs.drop i := by
  unfold cutD
  rw [HT.sIx_none, HT.sIx_nat]
  by_cases h : i ≤ xs.length
  · rw [Nat.min_eq_left h, List.take_of_length_le (by rw [List.length_drop]; omega)]
  · rw [Nat.min_eq_right (by omega), List.drop_length, List.drop_eq_nil_of_le (by omega), List.take_nil]
theorem ok_reduced (T : Txt K mg L) (C1 : FnC P w K mg base L "cleared" 5 ["field", "row", "lead", "at"] R_cleared) (C2 : MtC P w K mg base L L.CF "multiply" 4 ["self", "a", "b"] R_F_multiply) (C3 : MtC P w K mg base L L.CF "zero" 3 ["self"] R_F_zero) (C4 : MtC P w K mg base L L.CF "inverse" 5 ["self", "a"] R_F_inverse) (F : FunS K "reduced" "reduced" s_reduced f fd) : FnOk P w K mg base CX0 6 f fd ["field", "rows", "width"] (spD L R_reduced) := by
  refine fn_ev F sc_reduced (fun ds r h => by cases h <;> rfl) fun cdv A outer s H E hr ds r h => ?_
  cases h with
  | mk c rows wd hw h1 h2 =>
    have nd := sc_reduced.nd
    have hr3 : Room 3 _ := hr.mono (by decide)
    have hr4 : Room 4 _ := hr.mono (by decide)
    let pv : List Nat → List D := fun l => l.map fun (i : Nat) => D.int (i : Int)
    let W : Nat → SlS := fun t => [.val (.fld c.d), .val (c.eRR rows), .val (.int (wd : Nat)), .val (c.eLL (redS rows t).rest), .val (c.eLL (redS rows t).done), .own (pv (redS rows t).piv), .any, .any, .any, .any, .any, .any, .any, .any]
    refine .ret (evb_cons (evs_set 3 (d := c.eLL rows) (ev_new (evn_lc (own := [("row", 11)]) (t := .one 11) (xs := rows) (en := c.eR) (f := c.eL) (evi_tup (ev_var 1)) (lcb (fun _ _ _ _ _ => evg_one 11 nd) rfl fun i d hd => ⟨_, rfl, fun _ _ _ _ _ => ev_new (evn_list T.list (evq_t (xs := d.map c.eK) (ev_var 11)))⟩) (by omega) rfl nd (blkOk_by (N := N_reduced) (sc := defScope s_reduced) (by decide +kernel)))) nd) (evb_cons (evs_set 4 (ev_new (evn_lst eva_nil)) nd) (evb_cons (evs_setn 5 (evn_lst eva_nil) nd) (evb_cons (evs_forN (lo := 0) (c := 1) (n := wd) (t := .one 6) (W := W) ((evi_range1 T.range (ev_var 2) (by omega)).is (by rw [Int.toNat_natCast])) (evg_one 6 nd) PassesOwn.never rfl fun t ht => ?_) ?_))))
    · have I := redS_I hw t (by omega)
      have hcnt := I.cnt
      have lrest : (redS rows t).rest.length ≤ 100 := by omega
      have ldone : (redS rows t).done.length ≤ 100 := by omega
      have lpiv := I.lp
      have lnr : ((redS rows t).rest.map c.eL).length = (redS rows t).rest.length := List.length_map ..
      have rowAt : ∀ i, i < (redS rows t).rest.length → ((redS rows t).rest.map c.eL)[i]? = some (c.eL ((redS rows t).rest.getD i [])) := fun i hi => by
        rw [List.getElem?_map, get_of [] hi]
        rfl
      have lenAt : ∀ i, i < (redS rows t).rest.length → ((redS rows t).rest.getD i []).length = wd := fun i hi => I.lr _ (List.mem_of_getElem? (get_of [] hi))
      have itAt : ∀ i, i < (redS rows t).rest.length → (((redS rows t).rest.getD i []).map c.eK)[t]? = some (c.eK (co ((redS rows t).rest.getD i []) t)) := fun i hi => by
        rw [List.getElem?_map, get_of 0 (by rw [lenAt i hi]; exact ht)]
        rfl
      rw [show (0 : Int) + (t : Int) * 1 = (t : Int) by omega]
      refine ⟨_, _, rfl, evb_cons (evs_lcIf 7 (own := [("k", 12)]) (t := .one 12) (xs := List.range (redS rows t).rest.length) (en := fun (i : Nat) => .int (0 + (i : Int) * 1)) (f := fun (i : Nat) => .int (i : Int)) (p := fun k => !decide (co ((redS rows t).rest.getD k []) t = 0)) ((evi_range1 T.range (ev_len T.len (evq_l (ev_var 3))) (by rw [lnr]; omega)).is (by rw [lnr, Int.toNat_natCast, irng_map]))
        ⟨fun _ _ _ _ _ => evg_one 12 nd, rfl, fun i d hd => ⟨_, rfl, fun _ _ _ _ _ => ⟨?_, fun _ => (ev_var 12).is (by congr 1; omega)⟩⟩⟩ (by rw [List.length_range]; omega) rfl nd (blkOk_by (N := N_reduced) (sc := defScope s_reduced) (by decide +kernel)) (sw_true rfl rfl rfl (by decide +kernel))) ?_, .inl rfl⟩
      · have hd' : d < (redS rows t).rest.length := List.mem_range.mp (List.mem_of_getElem? hd)
        refine evts_one ((evt_neT (xs := c.e (co ((redS rows t).rest.getD d []) t)) (ys := c.e 0) hr.units (ev_ix (evq_l (ev_ix (evq_l (ev_var 3)) (ev_var 12) (d := c.eL ((redS rows t).rest.getD d [])) (atI_of (j := d) (by omega) (rowAt d hd')))) (ev_var 6) (d := c.eK (co ((redS rows t).rest.getD d []) t)) (atN (itAt d hd'))) (ev_methF0 T.cls C3 hr3 (ev_var 0) (.mk c))).is ?_)
        rw [c.e_eq]
      · show EvB L _ _ [_, _, _, _, _, _, _, Sl.own ((chosen (redS rows t).rest t).map fun (i : Nat) => .int (i : Int)), _, _, _, _, _, _] _
        have wS : redS rows (t + 1) = redStep (redS rows t) t := rfl
        have W1 : W (t + 1) = [.val (.fld c.d), .val (c.eRR rows), .val (.int (wd : Nat)), .val (c.eLL (redS rows (t + 1)).rest), .val (c.eLL (redS rows (t + 1)).done), .own (pv (redS rows (t + 1)).piv), .any, .any, .any, .any, .any, .any, .any, .any] := rfl
        rw [W1, wS]
        unfold redStep
        cases e : chosen (redS rows t).rest t with
        | nil =>
          refine evb_weak (evb_one (evs_ifF ((evt_gt (ev_len T.len (evq_own 7)) ev_int).is rfl) evb_nil)) ?_
          exact .same (.same (.same (.same (.same (.same (.any (.any (.any (.any (.any (.any (.any (.any .nil)))))))))))))
        | cons i l =>
          obtain ⟨r0, q0, q1, q2⟩ := chosen_mem e
          have hi : i < (redS rows t).rest.length := (List.getElem?_eq_some_iff.mp q0).1
          have lr0 : r0.length = wd := I.lr r0 (List.mem_of_getElem? q0)
          dsimp only
          have rowI : ((redS rows t).rest.map c.eL)[i]? = some (c.eL r0) := by rw [rowAt i hi, q1]
          have itI : (r0.map c.eK)[t]? = some (c.eK (co r0 t)) := by
            have := itAt i hi
            rwa [q1] at this
          have el : leadOf (redS rows t).rest t i = r0.map fun x => Fd.inv (co r0 t) * x := by unfold leadOf; rw [q1]
          rw [el]
          generalize hlead : (r0.map fun x => Fd.inv (co r0 t) * x) = lead
          have llead : lead.length = wd := by rw [← hlead, List.length_map, lr0]
          have mrow : ∀ (j : Nat) (d : List (Kq c)), ((redS rows t).rest.take i ++ (redS rows t).rest.drop (i + 1))[j]? = some d → d.length ≤ 1000 ∧ t < d.length := fun j d hd => by
            have m : d ∈ (redS rows t).rest := by
              rcases List.mem_append.mp (List.mem_of_getElem? hd) with q | q
              · exact List.mem_of_mem_take q
              · exact List.mem_of_mem_drop q
            rw [I.lr d m]
            exact ⟨by omega, ht⟩
          have drow : ∀ (j : Nat) (d : List (Kq c)), (redS rows t).done[j]? = some d → d.length ≤ 1000 ∧ t < d.length := fun j d hd => by
            rw [I.ld d (List.mem_of_getElem? hd)]
            exact ⟨by omega, ht⟩
          have q4 : r0.map (fun x => c.eK (Fd.inv (co r0 t) * x)) = lead.map c.eK := by
            rw [← hlead, List.map_map]
            rfl
          have q5 : (cutD ((redS rows t).rest.map c.eL) none (some (i : Int))).length + (cutD ((redS rows t).rest.map c.eL) (some ((i + 1 : Nat) : Int)) none).length ≤ 100000 := by
            rw [cut_lo, cut_hi]
            simp only [List.length_take, List.length_drop, lnr]
            omega
          have q6 : cutD ((redS rows t).rest.map c.eL) none (some (i : Int)) ++ cutD ((redS rows t).rest.map c.eL) (some ((i + 1 : Nat) : Int)) none = ((redS rows t).rest.take i ++ (redS rows t).rest.drop (i + 1)).map c.eL := by
            rw [cut_lo, cut_hi, List.map_append, List.map_take, List.map_drop]
          have q7 : ((redS rows t).rest.take i ++ (redS rows t).rest.drop (i + 1)).length ≤ 100000 := by
            rw [List.length_append, List.length_take, List.length_drop]
            omega
          have q8 : ((redS rows t).rest.take i ++ (redS rows t).rest.drop (i + 1)).map (fun r => c.eL (clr lead t r)) = (((redS rows t).rest.take i ++ (redS rows t).rest.drop (i + 1)).map (clr lead t)).map c.eL := by
            rw [List.map_map]
            rfl
          have q9 : (redS rows t).done.map (fun r => c.eL (clr lead t r)) ++ [c.eL lead] = ((redS rows t).done.map (clr lead t) ++ [lead]).map c.eL := by
            rw [List.map_append, List.map_map]
            rfl
          have q10 : ((redS rows t).done.map (fun r => c.eL (clr lead t r))).length + [c.eL lead].length ≤ 100000 := by
            rw [List.length_map, List.length_singleton]
            omega
          have q11 : (pv (redS rows t).piv).length ≤ 100000 := by
            show (List.map _ _).length ≤ _
            rw [List.length_map]
            omega
          refine evb_weak (evb_one (evs_ifT ((evt_gt (ev_len T.len (evq_own 7)) ev_int).is (by simp)) (evb_cons (evs_set 8 (ev_methF T.cls C4 hr (ev_var 0) (eva_cons (ev_ix (evq_l (ev_ix (evq_l (ev_var 3)) (ev_ix (evq_own 7) ev_int (d := .int (i : Nat)) (atN (i := 0) rfl)) (d := c.eL r0) (atN rowI))) (ev_var 6) (d := c.eK (co r0 t)) (atN itI)) eva_nil) (.mk c _ q2)) nd)
            (evb_cons (evs_set 9 (d := c.eL lead) ((ev_new (evn_lc (own := [("x", 13)]) (t := .one 13) (xs := r0) (en := c.eK) (f := fun x => c.eK (Fd.inv (co r0 t) * x)) (evi_list (ev_ix (evq_l (ev_var 3)) (ev_ix (evq_own 7) ev_int (d := .int (i : Nat)) (atN (i := 0) rfl)) (d := c.eL r0) (atN rowI))) (lcb (fun _ _ _ _ _ => evg_one 13 nd) rfl fun j d hd => ⟨_, rfl, fun _ _ _ _ _ => ev_methF T.cls C2 hr4 (ev_var 0) (eva_cons (ev_var 8) (eva_cons (ev_var 13) eva_nil)) (.mk c _ _)⟩) (by omega) rfl nd (blkOk_by (N := N_reduced) (sc := defScope s_reduced) (by decide +kernel)))).is (congrArg D.lst q4)) nd)
            (evb_cons (evs_set 10 (d := c.eLL ((redS rows t).rest.take i ++ (redS rows t).rest.drop (i + 1))) ((ev_new (evn_cat (evq_n (evn_slice (evq_l (ev_var 3)) evo_none (evo_some (ev_ix (evq_own 7) ev_int (d := .int (i : Nat)) (atN (i := 0) rfl))))) (evq_n (evn_slice (evq_l (ev_var 3)) (evo_some (i := ((i + 1 : Nat) : Int)) ((ev_add (ev_ix (evq_own 7) ev_int (d := .int (i : Nat)) (atN (i := 0) rfl)) ev_int).is (by congr 1))) evo_none)) q5)).is (congrArg D.lst q6)) nd)
            (evb_cons (evs_set 3 (d := c.eLL (((redS rows t).rest.take i ++ (redS rows t).rest.drop (i + 1)).map (clr lead t))) ((ev_new (evn_lc (own := [("row", 11)]) (t := .one 11) (xs := (redS rows t).rest.take i ++ (redS rows t).rest.drop (i + 1)) (en := c.eL) (f := fun r => c.eL (clr lead t r)) (evi_list (ev_var 10)) (lcb (fun _ _ _ _ _ => evg_one 11 nd) rfl fun j d hd => ⟨_, rfl, fun _ _ _ _ _ => ev_call C1 hr (eva_cons (ev_var 0) (eva_cons (ev_var 11) (eva_cons (ev_var 9) (eva_cons (ev_var 6) eva_nil)))) (.mk c d lead t (mrow _ d hd).1 (mrow _ d hd).2)⟩) q7 rfl nd (blkOk_by (N := N_reduced) (sc := defScope s_reduced) (by decide +kernel)))).is (congrArg D.lst q8)) nd)
            (evb_cons (evs_set 4 (d := c.eLL ((redS rows t).done.map (clr lead t) ++ [lead])) ((ev_new (evn_cat (evq_n (evn_lc (own := [("row", 11)]) (t := .one 11) (xs := (redS rows t).done) (en := c.eL) (f := fun r => c.eL (clr lead t r)) (evi_list (ev_var 4)) (lcb (fun _ _ _ _ _ => evg_one 11 nd) rfl fun j d hd => ⟨_, rfl, fun _ _ _ _ _ => ev_call C1 hr (eva_cons (ev_var 0) (eva_cons (ev_var 11) (eva_cons (ev_var 9) (eva_cons (ev_var 6) eva_nil)))) (.mk c d lead t (drow _ d hd).1 (drow _ d hd).2)⟩) (by omega) rfl nd (blkOk_by (N := N_reduced) (sc := defScope s_reduced) (by decide +kernel)))) (evq_n (evn_lst (eva_cons (ev_var 9) eva_nil))) q10)).is (congrArg D.lst q9)) nd)
            (evb_one (evs_append 5 (ev_var 6) rfl q11))))))))) ?_
          · show Weak [_, _, _, _, _, Sl.own _, _, _, _, _, _, _, _, _] [_, _, _, _, _, Sl.own (pv ((redS rows t).piv ++ [t])), _, _, _, _, _, _, _, _]
            have e2 : pv ((redS rows t).piv ++ [t]) = pv (redS rows t).piv ++ [.int (t : Nat)] := by
              show List.map _ _ = _
              rw [List.map_append]
              rfl
            rw [e2]
            exact .same (.same (.same (.same (.same (.same (.any (.any (.any (.any (.any (.any (.any (.any .nil)))))))))))))
    · have I := redS_I hw wd (Nat.le_refl _)
      have hcnt := I.cnt
      have lpiv := I.lp
      refine evb_one (evs_ret ((ev_tup (eva_cons (ev_tupleL T.tuple (evq_n (evn_lc (own := [("row", 11)]) (t := .one 11) (xs := (redS rows wd).done) (en := c.eL) (f := c.eR) (evi_list (ev_var 4)) (lcb (fun _ _ _ _ _ => evg_one 11 nd) rfl fun j d hd => ⟨_, rfl, fun _ _ _ _ _ => ev_tupleL T.tuple (evq_l (xs := d.map c.eK) (ev_var 11))⟩) (by omega) rfl nd (blkOk_by (N := N_reduced) (sc := defScope s_reduced) (by decide +kernel))))) (eva_cons (ev_tupleL T.tuple (evq_own 5)) eva_nil))).is ?_))
      show D.tup [c.eRR _, D.tup (List.map _ _)] = D.tup [_, D.tup (List.map _ (List.map _ _))]
      rw [List.map_map]
      rfl
end
end FM
set_option autoImplicit false
namespace FM
open PySem PySem.Spec PyProof.Rows L2 LamX Pol
section
variable {P : Program} {w : World} {K : PySem.W.Frag} {mg : Str → Option Value} {base : Heap} {L : Lc} {f : Addr} {fd : FuncData}
/-! ### kernel -/
abbrev N_kernel : List Str := ["field", "rows", "width", "lines", "pivots", "found", "at", "vector", "line", "pivot", "_"]
theorem sc_kernel : FnScope N_kernel ["field", "rows", "width"] (defScope s_kernel) := ⟨rfl, rfl, rfl, by decide +kernel, rfl, by decide +kernel, by decide +kernel⟩
theorem zip_get {α β : Type} {xs : List α} {ys : List β} {i : Nat} {q : α × β} (h : (xs.zip ys)[i]? = some q) : xs[i]? = some q.1 ∧ ys[i]? = some q.2 := List.getElem?_zip_eq_some.mp h
theorem ok_kernel (T : Txt K mg L) (C1 : FnC P w K mg base L "reduced" 6 ["field", "rows", "width"] R_reduced) (C2 : MtC P w K mg base L L.CF "zero" 3 ["self"] R_F_zero) (C3 : MtC P w K mg base L L.CF "one" 3 ["self"] R_F_one) (C4 : MtC P w K mg base L L.CF "negative" 2 ["self", "a"] R_F_negative) (F : FunS K "kernel" "kernel" s_kernel f fd) : FnOk P w K mg base CX0 7 f fd ["field", "rows", "width"] (spD L R_kernel) := by
  refine fn_ev F sc_kernel (fun ds r h => by cases h <;> rfl) fun cdv A outer s H E hr ds r h => ?_
  cases h with
  | mk c rows wd hw h1 h2 =>
    have nd := sc_kernel.nd
    have hr2 : Room 2 _ := hr.mono (by decide)
    have hr3 : Room 3 _ := hr.mono (by decide)
    have I := redS_I hw wd (Nat.le_refl _)
    have hcnt := I.cnt
    have lpiv := I.lp
    generalize hR : redS rows wd = R at I hcnt lpiv
    let pvI : List Int := R.piv.map fun (i : Nat) => (i : Int)
    have memI : ∀ t : Nat, decide ((t : Int) ∈ pvI) = decide (t ∈ R.piv) := fun t => by
      by_cases h : t ∈ R.piv
      · rw [decide_eq_true h]
        exact decide_eq_true (List.mem_map.mpr ⟨t, h, rfl⟩)
      · rw [decide_eq_false h]
        refine decide_eq_false fun z => h ?_
        obtain ⟨u, h1, h2⟩ := List.mem_map.mp z
        have : u = t := by omega
        exact this ▸ h1
    let fr : Nat → List Nat := fun t => (List.range t).filter fun c => !decide (c ∈ R.piv)
    let W : Nat → SlS := fun t => [.val (.fld c.d), .val (c.eRR rows), .val (.int (wd : Nat)), .val (c.eRR R.done), .val (tI pvI), .own ((fr t).map fun c' => c.eR (kv wd R c')), .any, .any, .any, .any, .any]
    refine .ret (evb_cons (evs_unpack (t := .two 3 4) (ev_call C1 hr (eva_cons (ev_var 0) (eva_cons (ev_var 1) (eva_cons (ev_var 2) eva_nil))) (.mk c rows wd hw h1 h2)) (evg_two 3 4 rfl nd)) ?_)
    rw [hR]
    refine evb_cons (evs_setn 5 (evn_lst eva_nil) nd) (evb_cons (evs_forN (lo := 0) (c := 1) (n := wd) (t := .one 6) (W := W) ((evi_range1 T.range (ev_var 2) (by omega)).is (by rw [Int.toNat_natCast])) (evg_one 6 nd) PassesOwn.never rfl fun t ht => ?_) (evb_one (evs_ret ((ev_tupleL T.tuple (evq_own 5)).is ?_))))
    · rw [show (0 : Int) + (t : Int) * 1 = (t : Int) by omega]
      have lfr : (fr t).length ≤ t := by
        have := List.length_filter_le (fun c => !decide (c ∈ R.piv)) (List.range t)
        rwa [List.length_range] at this
      by_cases m : t ∈ R.piv
      · refine ⟨_, _, rfl, evb_weak (evb_one (evs_ifF ((evt_notin (ev_var 6) (evq_t (ev_var 4))).is ?_) evb_nil)) ?_, .inl rfl⟩
        · rw [memI, decide_eq_true m]
          rfl
        · have e : fr (t + 1) = fr t := by
            show (List.range (t + 1)).filter _ = _
            rw [List.range_succ, List.filter_append, List.filter_cons, if_neg (by simp [m])]
            simp
            rfl
          show Weak [_, _, _, _, _, Sl.own _, _, _, _, _, _] [_, _, _, _, _, Sl.own _, _, _, _, _, _]
          rw [e]
          exact .same (.same (.same (.same (.same (.same (.any (.any (.any (.any (.any .nil))))))))))
      · let V : Nat → List (Kq c) := kvS wd R.done R.piv t
        have lV : ∀ i, (V i).length = wd := fun i => kvS_len ..
        have lz : (R.done.zip R.piv).length = R.piv.length := by rw [List.length_zip]; omega
        have h8 : ixN ((List.range wd).map fun _ => c.eK 0).length ((t : Nat) : Int) = some t := ixN_of rfl (by rw [List.length_map, List.length_range]; exact ht)
        refine ⟨_, _, rfl, evb_weak (evb_one (evs_ifT ((evt_notin (ev_var 6) (evq_t (ev_var 4))).is ?_) (evb_cons (evs_lc 7 (own := [("_", 10)]) (t := .one 10) (xs := List.range wd) (en := fun (i : Nat) => .int (0 + (i : Int) * 1)) (f := fun _ => c.eK 0) ((evi_range1 T.range (ev_var 2) (by omega)).is (by rw [Int.toNat_natCast, irng_map])) (lcb (fun _ _ _ _ _ => evg_one 10 nd) rfl fun i d hd => ⟨_, rfl, fun _ _ _ _ _ => ev_methF0 T.cls C2 hr3 (ev_var 0) (.mk c)⟩) (by rw [List.length_range]; omega) rfl nd (blkOk_by (N := N_kernel) (sc := defScope s_kernel) (by decide +kernel)) (sw_true rfl rfl rfl (by decide +kernel)))
          (evb_cons (evs_item 7 (j := t) (ev_methF0 T.cls C3 hr3 (ev_var 0) (.mk c)) (ev_var 6) h8)
          (evb_cons (evs_pre (S1 := [.val (.fld c.d), .val (c.eRR rows), .val (.int (wd : Nat)), .val (c.eRR R.done), .val (tI pvI), .own ((fr t).map fun c' => c.eR (kv wd R c')), .val (.int (t : Nat)), .own ((V 0).map c.eK), .any, .any, .any]) ?_ (evs_forT (xs := R.done.zip R.piv) (en := fun q => .tup [c.eR q.1, .int ((q.2 : Nat) : Int)]) (t := .two 8 9) (W := fun i => [.val (.fld c.d), .val (c.eRR rows), .val (.int (wd : Nat)), .val (c.eRR R.done), .val (tI pvI), .own ((fr t).map fun c' => c.eR (kv wd R c')), .val (.int (t : Nat)), .own ((V i).map c.eK), .any, .any, .any]) ((evi_zipT T.zip (ev_var 3) (ev_var 4)).is ?_) (evg_two 8 9 rfl nd) PassesOwn.never rfl fun i q hq => ?_))
          (evb_one (evs_append 5 (ev_tupleL T.tuple (evq_own 7)) rfl ?_))))))) ?_, .inl rfl⟩
        · rw [memI, decide_eq_false m]
          rfl
        · show Weak [_, _, _, _, _, _, _, Sl.own _, _, _, _] [_, _, _, _, _, _, _, Sl.own _, _, _, _]
          have e : ((List.range wd).map fun _ => c.eK 0).set t (c.eK 1) = (V 0).map c.eK := by
            rw [rep_range]
            show _ = ((List.replicate wd 0).set t 1).map c.eK
            rw [List.map_set, List.map_replicate]
          rw [e]
          exact .same (.same (.same (.same (.same (.same (.same (.same (.any (.any (.any .nil))))))))))
        · show zipD (R.done.map c.eR) ((R.piv.map _).map D.int) = _
          rw [List.map_map]
          exact zipD_map c.eR (fun (i : Nat) => D.int (i : Int)) R.done R.piv
        · obtain ⟨e1, e2⟩ := zip_get hq
          obtain ⟨r', p'⟩ := q
          have mr := List.mem_of_getElem? e1
          have mp := List.mem_of_getElem? e2
          have lr := I.ld r' mr
          have lp := I.pl p' mp
          have h9 : ixN ((V i).map c.eK).length ((p' : Nat) : Int) = some p' := ixN_of rfl (by rw [List.length_map, lV]; exact lp)
          refine ⟨_, _, rfl, evb_weak (evb_one (evs_item 7 (j := p') (ev_methF T.cls C4 hr2 (ev_var 0) (eva_cons (ev_ix (evq_t (xs := r'.map c.eK) (ev_var 8)) (ev_var 6) (d := c.eK (co r' t)) (atN ?_)) eva_nil) (.mk c _)) (ev_var 9) h9)) ?_, .inl rfl⟩
          · rw [List.getElem?_map, get_of 0 (by omega)]
            rfl
          · show Weak [_, _, _, _, _, _, _, Sl.own _, _, _, _] [_, _, _, _, _, _, _, Sl.own _, _, _, _]
            have e : ((V i).map c.eK).set p' (c.eK (-(co r' t))) = (V (i + 1)).map c.eK := by
              rw [← List.map_set]
              show _ = ((V i).set (R.piv.getD i 0) (-(co (R.done.getD i []) t))).map c.eK
              rw [getD_of e1, getD_of e2]
            rw [e]
            exact .same (.same (.same (.same (.same (.same (.same (.same (.any (.any (.any .nil))))))))))
        · rw [List.length_map]
          omega
        · rw [lz]
          have e : fr (t + 1) = fr t ++ [t] := by
            show (List.range (t + 1)).filter _ = _
            rw [List.range_succ, List.filter_append, List.filter_cons, if_pos (by simp [m])]
            rfl
          show Weak [_, _, _, _, _, Sl.own _, _, _, _, _, _] [_, _, _, _, _, Sl.own _, _, _, _, _, _]
          rw [e, List.map_append]
          exact .same (.same (.same (.same (.same (.same (.any (.any (.any (.any (.any .nil))))))))))
    · unfold kerL free
      rw [hR]
      show D.tup _ = D.tup _
      rw [List.map_map]
      rfl
end
end FM
set_option autoImplicit false
namespace FM
open PySem PySem.Spec PyProof.Rows L2 LamX Pol
theorem rgc_up {j p : Nat} (hp : 0 < p) (hj : j ≤ 1000) (hp2 : p ≤ 1000) : RgC 0 (j : Nat) (p : Nat) ((j + p - 1) / p) := by
  have e : Builtin.Range.rangeSize 0 (j : Nat) (p : Nat) = (((j + p - 1) / p : Nat) : Int) := by
    unfold Builtin.Range.rangeSize
    rw [if_pos (by omega)]
    by_cases h : j = 0
    · subst h
      rw [if_neg (by omega), Nat.zero_add, Nat.div_eq_of_lt (by omega)]
      rfl
    · rw [if_pos (by omega), show ((j : Int) - 0 - 1) = ((j - 1 : Nat) : Int) by omega, show j + p - 1 = (j - 1) + p by omega, Nat.add_div_right _ hp]
      rw [← Int.natCast_ediv]
      omega
  have l : (j + p - 1) / p ≤ 2000 := by
    have : (j + p - 1) / p ≤ j + p - 1 := Nat.div_le_self _ _
    omega
  refine ⟨by omega, by omega, ?_, e⟩
  unfold Builtin.Range.small
  rw [e]
  unfold Builtin.Range.rangeFitsLong
  rw [if_pos (by omega)]
  generalize (j + p - 1) / p = m at l
  simp
  omega
inductive R_is_squarefree : List D → D → Prop
  | mk (c : FC) (f : Pol (Kq c)) (h : f ≠ 0) (hl : f.len ≤ 30) (hg : IsG 1 f (der f)) : R_is_squarefree [c.P f] (.bl true)
inductive R_prime_root : List D → D → Prop
  | mk (c : FC) (f : Pol (Kq c)) (hl : f.len ≤ 190) : R_prime_root [c.P f] (c.P (Chp.root c.T.p c.s f))
section
variable {P : Program} {w : World} {K : PySem.W.Frag} {mg : Str → Option Value} {base : Heap} {L : Lc} {f : Addr} {fd : FuncData}
theorem der_len_le {c : FC} (a : Pol (Kq c)) {n : Nat} (h : a.len ≤ n) : (der a).len ≤ n := len_le fun i hi => by
  rw [c_der, c_out (by omega)]
  grind
theorem sc_is_squarefree : FnScope ["f"] ["f"] (defScope s_is_squarefree) := ⟨rfl, rfl, rfl, by decide +kernel, rfl, by decide +kernel, by decide +kernel⟩
theorem ok_is_squarefree (T : Txt K mg L) (C1 : MtC P w K mg base L L.CP "is_zero" 1 ["self"] R_P_is_zero) (C2 : FnC P w K mg base L "common_divisor" 7 ["f", "g"] R_common_divisor) (C3 : MtC P w K mg base L L.CP "derivative" 5 ["self"] R_P_derivative) (C4 : MtC P w K mg base L L.CP "degree" 1 ["self"] R_P_degree) (F : FunS K "is_squarefree" "is_squarefree" s_is_squarefree f fd) : FnOk P w K mg base CX0 8 f fd ["f"] (spD L R_is_squarefree) := by
  refine fn_ev F sc_is_squarefree (fun ds r h => by cases h <;> rfl) fun cdv A outer s H E hr ds r h => ?_
  cases h with
  | mk c f h hl hg =>
    have hr1 : Room 1 _ := hr.mono (by decide)
    have hr5 : Room 5 _ := hr.mono (by decide)
    have hd := der_len_le f hl
    refine .ret (evb_cons (evs_ifF ((evt_val (ev_methP0 T.cls C1 hr1 (ev_var 0) (.mk c f))).is (decide_eq_false h)) evb_nil) (evb_one (evs_ret ((ev_eqI (ev_methP0 T.cls C4 hr1 (ev_call C2 hr (eva_cons (ev_var 0) (eva_cons (ev_methP0 T.cls C3 hr5 (ev_var 0) (.mk c f hl)) eva_nil)) (.mk c f (der f) 1 (by omega) (by omega) hg)) (.mk c 1)) ev_int).is ?_))))
    rw [len_one]
    rfl
abbrev N_prime_root : List Str := ["f", "field", "row", "k"]
theorem sc_prime_root : FnScope N_prime_root ["f"] (defScope s_prime_root) := ⟨rfl, rfl, rfl, by decide +kernel, rfl, by decide +kernel, by decide +kernel⟩
theorem ok_prime_root (T : Txt K mg L) (MP : MkC P w K mg base L "Poly" L.CP 3 ["self", "field", "row"] R_Poly) (C1 : MtC P w K mg base L L.CF "power" 5 ["self", "a", "k"] R_F_power) (C2 : MtC P w K mg base L L.CP "coefficient" 2 ["self", "k"] R_P_coefficient) (C4 : MtC P w K mg base L L.CP "degree" 1 ["self"] R_P_degree) (F : FunS K "prime_root" "prime_root" s_prime_root f fd) : FnOk P w K mg base CX0 6 f fd ["f"] (spD L R_prime_root) := by
  refine fn_ev F sc_prime_root (fun ds r h => by cases h <;> rfl) fun cdv A outer s H E hr ds r h => ?_
  cases h with
  | mk c f hl =>
    have nd := sc_prime_root.nd
    have hr1 : Room 1 _ := hr.mono (by decide)
    have hr2 : Room 2 _ := hr.mono (by decide)
    have hr4 : Room 4 _ := hr.mono (by decide)
    have pc := c.g0.1
    have hl' : f.l.length ≤ 190 := hl
    have rg1 : 0 < c.T.p := by omega
    have rg2 : f.l.length ≤ 1000 := by omega
    have rg3 : c.T.p ≤ 1000 := by omega
    let n : Nat := (f.l.length + c.T.p - 1) / c.T.p
    have hn2 : n ≤ 200 := by
      have : n ≤ f.l.length + c.T.p - 1 := Nat.div_le_self _ _
      omega
    have hn : n ≤ 1000 := Nat.le_trans hn2 (by decide)
    have eq1 : (c.T.q : Int) / (c.T.p : Int) = ((c.s : Nat) : Int) := by rw [← Int.natCast_ediv]; rfl
    refine .ret (evb_cons (evs_set 1 (ev_pol_f T.cls (ev_var 0)) nd) (evb_cons (evs_lc 2 (own := [("k", 3)]) (t := .one 3) (xs := List.range n) (en := fun (i : Nat) => .int (0 + (i : Int) * (c.T.p : Nat))) (f := fun i => c.eK (co f.l (i * c.T.p) ^ c.s)) ((evi_step (n := n) T.range ev_int ((ev_add (ev_methP0 T.cls C4 hr1 (ev_var 0) (.mk c f)) ev_int).is (c := .int (f.l.length : Nat)) ?_) (ev_fld_p T.cls (ev_var 1)) (rgc_up rg1 rg2 rg3)).is rfl)
      (lcb (fun _ _ _ _ _ => evg_one 3 nd) rfl fun i d hd => ⟨_, rfl, fun _ _ _ _ _ => ev_methF T.cls C1 hr (ev_var 1) (eva_cons (ev_methP T.cls C2 hr2 (ev_var 0) (eva_cons ((ev_var 3).is (c := .int ((d * c.T.p : Nat) : Int)) ?_) eva_nil) (.mk c f _)) (eva_cons ((ev_fdiv (ev_fld_q T.cls (ev_var 1)) (ev_fld_p T.cls (ev_var 1)) ⟨?_, ?_⟩).is (congrArg D.int eq1)) eva_nil)) (.mk c _)⟩) (by rw [List.length_range]; exact Nat.le_trans hn (by decide)) rfl nd (blkOk_by (N := N_prime_root) (sc := defScope s_prime_root) (by decide +kernel)) (sw_true rfl rfl rfl (by decide +kernel))) (evb_frz 2 rfl (evb_one (evs_ret (ev_make MP hr4 (eva_cons (ev_var 1) (eva_cons (ev_var 2) eva_nil)) ?_))))))
    · show D.int ((f.len : Int) - 1 + 1) = _
      congr 1
      show (f.l.length : Int) - 1 + 1 = _
      omega
    · congr 1
      rw [Int.natCast_mul]
      omega
    · show (0 : Int) < (c.T.p : Int)
      omega
    · show (c.T.p : Int) < _
      omega
    · have e : (List.range n).map (fun i => c.eK (co f.l (i * c.T.p) ^ c.s)) = ((List.range n).map fun i => co f.l (i * c.T.p) ^ c.s).map c.eK := by rw [List.map_map]; rfl
      rw [e]
      exact .mk c true _ (by rw [List.length_map, List.length_range]; exact Nat.le_trans hn2 (by decide))
end
end FM
set_option autoImplicit false
namespace FM
open PySem PySem.Spec PyProof.Rows L2 LamX Pol
/-! ## the squarefree parts: what the program makes -/
section
variable {K : Type} [Fd K]
def mxA (p : Nat) (α : Nat → Nat) (ps : Fac K) : Nat := ps.foldr (fun x m => max (if α x.2 % p = 0 then 0 else α x.2) m) 0
theorem mxA_le {p : Nat} {α : Nat → Nat} : ∀ {ps : Fac K}, ∀ x ∈ ps, α x.2 % p ≠ 0 → α x.2 ≤ mxA p α ps
  | y :: ps, x, hx, h => by
    show _ ≤ max _ (mxA p α ps)
    rcases List.mem_cons.mp hx with q | q
    · subst q
      rw [if_neg h]
      exact Nat.le_max_left ..
    · exact Nat.le_trans (mxA_le x q h) (Nat.le_max_right ..)
theorem mxA_ex {p : Nat} {α : Nat → Nat} : ∀ {ps : Fac K} {k : Nat}, 1 ≤ k → k ≤ mxA p α ps → ∃ x ∈ ps, α x.2 % p ≠ 0 ∧ k ≤ α x.2
  | [], k, h, h2 => by
    have h2 : k ≤ 0 := h2
    omega
  | y :: ps, k, h, h2 => by
    have h2 : k ≤ max (if α y.2 % p = 0 then 0 else α y.2) (mxA p α ps) := h2
    by_cases q : k ≤ mxA p α ps
    · obtain ⟨x, hx, hh⟩ := mxA_ex h q
      exact ⟨x, List.mem_cons_of_mem _ hx, hh⟩
    · by_cases q2 : α y.2 % p = 0
      · rw [if_pos q2] at h2
        omega
      · rw [if_neg q2] at h2
        exact ⟨y, List.mem_cons_self .., q2, by omega⟩
def stg (p : Nat) (α : Nat → Nat) (ps : Fac K) : Nat → List (Pol K × Nat)
  | 0 => []
  | i + 1 => stg p α ps i ++ if (ps.any fun x => !decide (partA p α (i + 1) x.2 = 0)) = true then [(Mf (partA p α (i + 1)) ps, i + 1)] else []
def pF (p : Nat) : Nat → (Nat → Nat) → Fac K → List (Pol K × Nat)
  | 0, _, _ => []
  | n + 1, α, ps => if (ps.all fun x => decide (α x.2 = 0)) = true then [] else if (ps.all fun x => decide (α x.2 % p = 0)) = true then (pF p n (fun e => α e / p) ps).map fun q => (q.1, q.2 * p)
    else stg p α ps (mxA p α ps) ++ (pF p n (fun e => if α e % p = 0 then α e / p else 0) ps).map fun q => (q.1, q.2 * p)
theorem Mf_len_le {α β : Nat → Nat} {ps : Fac K} (w : WF ps) (h : ∀ x ∈ ps, β x.2 ≤ α x.2) : (Mf β ps).len ≤ (Mf α ps).len := by
  have e : Mf α ps = Mf β ps * Mf (fun e => α e - β e) ps := by
    rw [Mf_mul]
    exact Mf_congr fun x hx => by have := h x hx; omega
  have n1 := (Mf_mo β w.mo).ne
  have n2 := (Mf_mo (fun e => α e - β e) w.mo).ne
  have := len_mul n1 n2
  rw [← e] at this
  have := len_pos n2
  omega
theorem stg_len (p : Nat) (α : Nat → Nat) (ps : Fac K) : ∀ i, (stg p α ps i).length ≤ i
  | 0 => Nat.le_refl _
  | i + 1 => by
    have := stg_len p α ps i
    rw [stg, List.length_append]
    split
    · rw [List.length_singleton]; omega
    · rw [List.length_nil]; omega
end
def FC.pr (c : FC) (q : Pol (Kq c) × Nat) : D := .tup [c.P q.1, .int (q.2 : Nat)]
inductive R_parts (n : Nat) : List D → D → Prop
  | mk (c : FC) (α : Nat → Nat) (ps : Fac (Kq c)) (w : WF ps) (h : ∀ x ∈ ps, α x.2 < 2 ^ n) (hn : n ≤ 4) (hl : (Mf α ps).len ≤ 30) : R_parts n [c.P (Mf α ps)] (.lst ((pF c.T.p n α ps).map c.pr))
theorem div_small {a p m : Nat} (hp : 2 ≤ p) (h : a < m * 2) : a / p < m := by
  refine (Nat.div_lt_iff_lt_mul (by omega)).mpr ?_
  exact Nat.lt_of_lt_of_le h (Nat.mul_le_mul_left _ hp)
theorem pF_len {K : Type} [Fd K] {p : Nat} (hp : 2 ≤ p) : ∀ (n : Nat) (α : Nat → Nat) (ps : Fac K), (∀ x ∈ ps, α x.2 < 2 ^ n) → (pF p n α ps).length ≤ 2 ^ n * n
  | 0, _, _, _ => Nat.le_refl _
  | n + 1, α, ps, h => by
    have e : 2 ^ (n + 1) * (n + 1) = 2 ^ n * n + 2 ^ n * n + (2 ^ n + 2 ^ n) := by
      rw [Nat.pow_succ, Nat.mul_comm (2 ^ n) 2]
      grind
    have hd : ∀ x ∈ ps, α x.2 / p < 2 ^ n := fun x hx => div_small hp (by have := h x hx; rwa [Nat.pow_succ] at this)
    have hm : mxA p α ps ≤ 2 ^ n + 2 ^ n := by
      rcases Nat.eq_zero_or_pos (mxA p α ps) with z | z
      · rw [z]
        exact Nat.zero_le _
      · obtain ⟨x, hx, _, h2⟩ := mxA_ex z (Nat.le_refl _)
        have h3 := h x hx
        rw [Nat.pow_succ] at h3
        generalize 2 ^ n = m at h3 ⊢
        omega
    rw [pF, e]
    split
    · exact Nat.zero_le _
    · split
      · rw [List.length_map]
        have := pF_len hp n (fun e => α e / p) ps hd
        generalize 2 ^ n = m at *
        omega
      · rw [List.length_append, List.length_map]
        have := pF_len hp n (fun e => if α e % p = 0 then α e / p else 0) ps fun x hx => by
          by_cases q : α x.2 % p = 0
          · rw [if_pos q]
            exact hd x hx
          · rw [if_neg q]
            exact Nat.two_pow_pos n
        have := stg_len p α ps (mxA p α ps)
        generalize 2 ^ n = m at *
        omega
section
variable {P : Program} {w : World} {K : PySem.W.Frag} {mg : Str → Option Value} {base : Heap} {L : Lc} {f : Addr} {fd : FuncData}
abbrev N_parts_of : List Str := ["f", "slope", "found", "rest", "base", "k", "shared", "part", "g", "j"]
theorem sc_parts_of : FnScope N_parts_of ["f"] (defScope s_parts_of) := ⟨rfl, rfl, rfl, by decide +kernel, rfl, by decide +kernel, by decide +kernel⟩
theorem ok_parts0 (T : Txt K mg L) (C1 : MtC P w K mg base L L.CP "degree" 1 ["self"] R_P_degree) (F : FunS K "parts_of" "parts_of" s_parts_of f fd) : FnOk P w K mg base CX0 8 f fd ["f"] (spD L (R_parts 0)) := by
  refine fn_ev F sc_parts_of (fun ds r h => by cases h <;> rfl) fun cdv A outer s H E hr ds r h => ?_
  cases h with
  | mk c α ps w h hn hl =>
    have hr1 : Room 1 _ := hr.mono (by decide)
    have e1 : Mf α ps = 1 := Mf_one fun x hx => by have := h x hx; simp at this; exact this
    rw [e1]
    refine .ret (evb_ret (evs_ifT ((evt_lt (ev_methP0 T.cls C1 hr1 (ev_var 0) (.mk c 1)) ev_int).is ?_) (evb_one (evs_ret ((ev_new (evn_lst eva_nil)).is rfl)))))
    rw [len_one]
    rfl
theorem ok_parts {n k : Nat} (hk : 7 ≤ k) (T : Txt K mg L) (C0 : FnC P w K mg base L "parts_of" k ["f"] (R_parts n)) (C1 : MtC P w K mg base L L.CP "degree" 1 ["self"] R_P_degree) (C2 : FnC P w K mg base L "common_divisor" 7 ["f", "g"] R_common_divisor) (C3 : MtC P w K mg base L L.CP "derivative" 5 ["self"] R_P_derivative) (C4 : MtC P w K mg base L L.CP "is_zero" 1 ["self"] R_P_is_zero) (C5 : FnC P w K mg base L "prime_root" 6 ["f"] R_prime_root) (O1 : OpC P w K mg base L .FloorDiv 6 ["self", "other"] R_P_fdiv)
    (F : FunS K "parts_of" "parts_of" s_parts_of f fd) : FnOk P w K mg base CX0 (k + 1) f fd ["f"] (spD L (R_parts (n + 1))) := by
  refine fn_ev F sc_parts_of (fun ds r h => by cases h <;> rfl) fun cdv A outer s H E hr ds r h => ?_
  cases h with
  | mk c α ps w h hn hl =>
    have nd := sc_parts_of.nd
    have hr1 : Room 1 _ := hr.mono (by omega)
    have hr5 : Room 5 _ := hr.mono (by omega)
    have hr6 : Room 6 _ := hr.mono (by omega)
    have hr7 : Room 7 _ := hr.mono (by omega)
    have hp2 : 2 ≤ c.T.p := by have := c.g0.1; omega
    have HC := c.chp
    have mM := fun β => Mf_mo (α := β) w.mo
    have pc := c.g0.1
    have cm : ∀ {i : Int}, CMul i c.d.p := fun {i} => .inr ⟨by show -2 ^ 64 < (c.T.p : Int); omega, by show (c.T.p : Int) < 2 ^ 64; omega⟩
    have pe : ∀ {xs : List (Pol (Kq c) × Nat)} (i : Nat) (d : Pol (Kq c) × Nat), xs[i]? = some d → D.tup [c.P d.1, .int (((d.2 : Nat) : Int) * c.d.p)] = c.pr (d.1, d.2 * c.T.p) := fun i d _ => by
      show D.tup [_, D.int (((d.2 : Nat) : Int) * (c.T.p : Int))] = D.tup [_, D.int ((d.2 * c.T.p : Nat) : Int)]
      rw [Int.natCast_mul]
    have lb : ∀ β : Nat → Nat, (∀ x ∈ ps, β x.2 < 2 ^ n) → (pF c.T.p n β ps).length ≤ 100 := fun β hb => by
      refine Nat.le_trans (pF_len hp2 n β ps hb) ?_
      have : n = 0 ∨ n = 1 ∨ n = 2 ∨ n = 3 := by omega
      rcases this with q | q | q | q <;> subst q <;> decide
    have mm : ∀ xs : List (Pol (Kq c) × Nat), xs.map (fun q => c.pr (q.1, q.2 * c.T.p)) = (xs.map fun q => (q.1, q.2 * c.T.p)).map c.pr := fun xs => by
      rw [List.map_map]
      rfl
    by_cases z0 : ∀ x ∈ ps, α x.2 = 0
    · have e0 : pF c.T.p (n + 1) α ps = [] := by
        rw [pF, if_pos (List.all_eq_true.mpr fun x hx => decide_eq_true (z0 x hx))]
      rw [e0]
      refine .ret (evb_ret (evs_ifT ((evt_lt (ev_methP0 T.cls C1 hr1 (ev_var 0) (.mk c _)) ev_int).is ?_) (evb_one (evs_ret ((ev_new (evn_lst eva_nil)).is rfl)))))
      rw [(Mf_len1 α w).mpr z0]
      rfl
    have n0 : (ps.all fun x => decide (α x.2 = 0)) = false := by
      cases e : (ps.all fun x => decide (α x.2 = 0)) with
      | false => rfl
      | true => exact absurd (fun x hx => of_decide_eq_true (List.all_eq_true.mp e x hx)) z0
    have l2 : 2 ≤ (Mf α ps).len := by
      have := len_pos (mM α).ne
      have : (Mf α ps).len ≠ 1 := fun z => z0 ((Mf_len1 α w).mp z)
      omega
    refine .ret (evb_cons (evs_ifF ((evt_lt (ev_methP0 T.cls C1 hr1 (ev_var 0) (.mk c _)) ev_int).is (decide_eq_false (by omega))) evb_nil) (evb_cons (evs_set 1 (ev_methP0 T.cls C3 hr5 (ev_var 0) (.mk c _ hl)) nd) ?_))
    by_cases zp : ∀ x ∈ ps, α x.2 % c.T.p = 0
    · have ap : (ps.all fun x => decide (α x.2 % c.T.p = 0)) = true := List.all_eq_true.mpr fun x hx => decide_eq_true (zp x hx)
      have e0 : pF c.T.p (n + 1) α ps = (pF c.T.p n (fun e => α e / c.T.p) ps).map fun q => (q.1, q.2 * c.T.p) := by
        rw [pF, if_neg (by rw [n0]; decide), if_pos ap]
      have hd := (Mf_der0 HC α w).mpr zp
      have hroot := Mf_root HC α zp
      have hsm : ∀ x ∈ ps, α x.2 / c.T.p < 2 ^ n := fun x hx => div_small hp2 (by have := h x hx; rwa [Nat.pow_succ] at this)
      have hle : (Mf (fun e => α e / c.T.p) ps).len ≤ 30 := Nat.le_trans (Mf_len_le w fun x _ => Nat.div_le_self _ _) hl
      have hq := R_prime_root.mk c (Mf α ps) (by omega)
      rw [hroot] at hq
      rw [e0]
      refine evb_ret (evs_ifT ((evt_val (ev_methP0 T.cls C4 hr1 (ev_var 1) (.mk c _))).is (decide_eq_true hd)) (evb_one (evs_ret ((ev_new (evn_lc (own := [("g", 8), ("k", 5)]) (t := .two 8 5) (xs := pF c.T.p n (fun e => α e / c.T.p) ps) (en := c.pr) (f := fun q => c.pr (q.1, q.2 * c.T.p)) (evi_list (ev_call C0 hr (eva_cons (ev_call C5 hr6 (eva_cons (ev_var 0) eva_nil) hq) eva_nil) (.mk c (fun e => α e / c.T.p) ps w hsm (by omega) hle)))
        (lcb (fun _ _ _ _ _ => evg_two 8 5 rfl nd) rfl fun i d hd => ⟨_, rfl, fun _ _ _ _ _ => (ev_tup (eva_cons (ev_var 8) (eva_cons (ev_mul (ev_var 5) (ev_fld_p T.cls (ev_pol_f T.cls (ev_var 0))) ?_) eva_nil))).is ?_⟩) ?_ rfl nd (blkOk_by (N := N_parts_of) (sc := defScope s_parts_of) (by decide +kernel)))).is ?_))))
      · exact cm
      · exact pe i d hd
      · exact Nat.le_trans (lb _ hsm) (by decide)
      · exact congrArg D.lst (mm _)
    · have ap : (ps.all fun x => decide (α x.2 % c.T.p = 0)) = false := by
        cases e : (ps.all fun x => decide (α x.2 % c.T.p = 0)) with
        | false => rfl
        | true => exact absurd (fun x hx => of_decide_eq_true (List.all_eq_true.mp e x hx)) zp
      have e0 : pF c.T.p (n + 1) α ps = stg c.T.p α ps (mxA c.T.p α ps) ++ (pF c.T.p n (fun e => if α e % c.T.p = 0 then α e / c.T.p else 0) ps).map fun q => (q.1, q.2 * c.T.p) := by
        rw [pF, if_neg (by rw [n0]; decide), if_neg (by rw [ap]; decide)]
      have hd : der (Mf α ps) ≠ 0 := fun z => zp ((Mf_der0 HC α w).mp z)
      have hdl := der_len_le (Mf α ps) hl
      have hg := Mf_gder HC α w
      obtain ⟨ls1, ls2⟩ := loop_start HC α w
      rw [ls1] at hg
      have lrest : ∀ k, (Mf (restA c.T.p α k) ps).len ≤ 30 := fun k => Nat.le_trans (Mf_len_le w fun x _ => by unfold restA; split <;> omega) hl
      have lbase : ∀ k, 1 ≤ k → (Mf (baseA c.T.p α k) ps).len ≤ 30 := fun k hk => Nat.le_trans (Mf_len_le w fun x _ => by unfold baseA; split <;> omega) hl
      have lN : mxA c.T.p α ps ≤ 32 := by
        rcases Nat.eq_zero_or_pos (mxA c.T.p α ps) with z | z
        · omega
        · obtain ⟨x, hx, _, q2⟩ := mxA_ex z (Nat.le_refl _)
          have q3 := h x hx
          have : 2 ^ (n + 1) ≤ 2 ^ 5 := Nat.pow_le_pow_right (by decide) (by omega)
          omega
      have ne := fun β => (mM β).ne
      have hq := R_common_divisor.mk c (Mf α ps) (der (Mf α ps)) _ (by omega) (by omega) hg
      have hq2 := R_P_fdiv.mk c (Mf α ps) (Mf (restA c.T.p α 1) ps) (by omega) (by have := lrest 1; omega) (ne _)
      rw [ls2] at hq2
      let W : Nat → SlS := fun i => [.val (c.P (Mf α ps)), .val (c.P (der (Mf α ps))), .own ((stg c.T.p α ps i).map c.pr), .val (c.P (Mf (restA c.T.p α (i + 1)) ps)), .val (c.P (Mf (baseA c.T.p α (i + 1)) ps)), .val (.int ((i + 1 : Nat) : Int)), .any, .any, .any, .any]
      have hsm : ∀ x ∈ ps, (if α x.2 % c.T.p = 0 then α x.2 / c.T.p else 0) < 2 ^ n := fun x hx => by
        split
        · exact div_small hp2 (by have := h x hx; rwa [Nat.pow_succ] at this)
        · exact Nat.two_pow_pos n
      rw [e0]
      refine evb_cons (evs_ifF ((evt_val (ev_methP0 T.cls C4 hr1 (ev_var 1) (.mk c _))).is (decide_eq_false hd)) evb_nil) (evb_cons (evs_setn 2 (evn_lst eva_nil) nd) (evb_cons (evs_set 3 (ev_call C2 hr7 (eva_cons (ev_var 0) (eva_cons (ev_var 1) eva_nil)) hq) nd) (evb_cons (evs_set 4 (ev_opP O1 hr6 (ev_var 0) (ev_var 3) hq2) nd) (evb_cons (evs_set 5 ev_int nd) (evb_cons (evs_while (W := W) (mxA c.T.p α ps) PassesOwn.never (fun i hi => ?_) ?_) ?_)))))
      · have b2 : 2 ≤ (Mf (baseA c.T.p α (i + 1)) ps).len := by
          have := len_pos (ne (baseA c.T.p α (i + 1)))
          have : (Mf (baseA c.T.p α (i + 1)) ps).len ≠ 1 := fun z => by
            obtain ⟨x, hx, q1, q2⟩ := mxA_ex (k := i + 1) (by omega) (by omega : i + 1 ≤ mxA c.T.p α ps)
            have := (Mf_len1 _ w).mp z x hx
            unfold baseA at this
            rw [if_pos ⟨q1, q2⟩] at this
            cases this
          omega
        obtain ⟨s1, s2, s3⟩ := loop_step (p := c.T.p) α w (i + 1) (by omega)
        have r1 := R_common_divisor.mk c _ _ _ (by have := lbase (i + 1) (by omega); omega) (by have := lrest (i + 1); omega) s1
        have r2 := R_P_fdiv.mk c (Mf (baseA c.T.p α (i + 1)) ps) (Mf (baseA c.T.p α (i + 1 + 1)) ps) (by have := lbase (i + 1) (by omega); omega) (by have := lbase (i + 1 + 1) (by omega); omega) (ne _)
        have r3 := R_P_fdiv.mk c (Mf (restA c.T.p α (i + 1)) ps) (Mf (baseA c.T.p α (i + 1 + 1)) ps) (by have := lrest (i + 1); omega) (by have := lbase (i + 1 + 1) (by omega); omega) (ne _)
        rw [s2] at r2
        rw [s3] at r3
        have ls := stg_len c.T.p α ps i
        refine ⟨(evt_gt (ev_methP0 T.cls C1 hr1 (ev_var 4) (.mk c _)) ev_int).is (decide_eq_true (by omega)), _, evb_weak (evb_cons (evs_set 6 (ev_call C2 hr7 (eva_cons (ev_var 4) (eva_cons (ev_var 3) eva_nil)) r1) nd) (evb_cons (evs_set 7 (ev_opP O1 hr6 (ev_var 4) (ev_var 6) r2) nd) (evb_cons (S' := [.val (c.P (Mf α ps)), .val (c.P (der (Mf α ps))), .own ((stg c.T.p α ps (i + 1)).map c.pr), .val (c.P (Mf (restA c.T.p α (i + 1)) ps)), .val (c.P (Mf (baseA c.T.p α (i + 1)) ps)), .val (.int ((i + 1 : Nat) : Int)), .val (c.P (Mf (baseA c.T.p α (i + 1 + 1)) ps)), .val (c.P (Mf (partA c.T.p α (i + 1)) ps)), .any, .any])
          (evs_if (evt_gt (ev_methP0 T.cls C1 hr1 (ev_var 7) (.mk c _)) ev_int) (fun z => ?_) (fun z => ?_)) (evb_cons (evs_set 4 (ev_var 6) nd) (evb_cons (evs_set 3 (ev_opP O1 hr6 (ev_var 3) (ev_var 6) r3) nd) (evb_one (evs_aug 5 ev_int rfl nd))))))) ?_, .inl rfl⟩
        · have z' := of_decide_eq_true z
          have any : (ps.any fun x => !decide (partA c.T.p α (i + 1) x.2 = 0)) = true := by
            cases e : (ps.any fun x => !decide (partA c.T.p α (i + 1) x.2 = 0)) with
            | true => rfl
            | false =>
              have : (Mf (partA c.T.p α (i + 1)) ps).len = 1 := (Mf_len1 _ w).mpr fun x hx => by
                have q := List.any_eq_false.mp e x hx
                simpa using q
              omega
          refine (evb_one (evs_append 2 (ev_tup (eva_cons (ev_var 7) (eva_cons (ev_var 5) eva_nil))) rfl (by rw [List.length_map]; omega))).is ?_
          show Out.nx [_, _, Sl.own _, _, _, _, _, _, _, _] = Out.nx [_, _, Sl.own _, _, _, _, _, _, _, _]
          rw [stg, if_pos any, List.map_append]
          rfl
        · have z' := of_decide_eq_false z
          have any : ¬ (ps.any fun x => !decide (partA c.T.p α (i + 1) x.2 = 0)) = true := fun e => by
            obtain ⟨x, hx, q⟩ := List.any_eq_true.mp e
            have l1 : (Mf (partA c.T.p α (i + 1)) ps).len = 1 := by
              have := len_pos (ne (partA c.T.p α (i + 1)))
              omega
            have := (Mf_len1 _ w).mp l1 x hx
            rw [this] at q
            simp at q
          refine evb_nil.is ?_
          show Out.nx [_, _, Sl.own _, _, _, _, _, _, _, _] = Out.nx [_, _, Sl.own _, _, _, _, _, _, _, _]
          rw [stg, if_neg any, List.append_nil]
        · have e5 : ((i + 1 : Nat) : Int) + 1 = ((i + 1 + 1 : Nat) : Int) := by omega
          rw [e5]
          exact .same (.same (.same (.same (.same (.same (.any (.any (.any (.any .nil)))))))))
      · have b1 : (Mf (baseA c.T.p α (mxA c.T.p α ps + 1)) ps).len = 1 := (Mf_len1 _ w).mpr fun x hx => by
          unfold baseA
          rw [if_neg]
          intro z
          have := mxA_le x hx z.1
          omega
        refine (evt_gt (ev_methP0 T.cls C1 hr1 (ev_var 4) (.mk c _)) ev_int).is ?_
        rw [b1]
        rfl
      · have er : Mf (restA c.T.p α (mxA c.T.p α ps + 1)) ps = Mf (fun e => if α e % c.T.p = 0 then α e else 0) ps := Mf_congr fun x hx => by
          unfold restA
          by_cases q : α x.2 % c.T.p = 0
          · rw [if_pos q, if_pos q]
          · rw [if_neg q, if_neg q]
            have := mxA_le x hx q
            omega
        have hroot : Chp.root c.T.p c.s (Mf (restA c.T.p α (mxA c.T.p α ps + 1)) ps) = Mf (fun e => if α e % c.T.p = 0 then α e / c.T.p else 0) ps := by
          rw [er, Mf_root HC _ fun x hx => ?_]
          · exact Mf_congr fun x hx => by
              by_cases q : α x.2 % c.T.p = 0
              · rw [if_pos q, if_pos q]
              · rw [if_neg q, if_neg q, Nat.zero_div]
          · by_cases q : α x.2 % c.T.p = 0
            · rw [if_pos q]; exact q
            · rw [if_neg q, Nat.zero_mod]
        have hq3 := R_prime_root.mk c (Mf (restA c.T.p α (mxA c.T.p α ps + 1)) ps) (by have := lrest (mxA c.T.p α ps + 1); omega)
        rw [hroot] at hq3
        have hle : (Mf (fun e => if α e % c.T.p = 0 then α e / c.T.p else 0) ps).len ≤ 30 := Nat.le_trans (Mf_len_le w fun x _ => by
          split
          · exact Nat.div_le_self _ _
          · exact Nat.zero_le _) hl
        have ls := stg_len c.T.p α ps (mxA c.T.p α ps)
        have lb2 := lb (fun e => if α e % c.T.p = 0 then α e / c.T.p else 0) hsm
        have lb3 : ((stg c.T.p α ps (mxA c.T.p α ps)).map c.pr).length + ((pF c.T.p n (fun e => if α e % c.T.p = 0 then α e / c.T.p else 0) ps).map fun q => c.pr (q.1, q.2 * c.T.p)).length ≤ 100000 := by
          rw [List.length_map, List.length_map]
          omega
        refine evb_one (evs_ret ((ev_new (evn_cat (evq_own 2) (evq_n (evn_lc (own := [("g", 8), ("j", 9)]) (t := .two 8 9) (xs := pF c.T.p n (fun e => if α e % c.T.p = 0 then α e / c.T.p else 0) ps) (en := c.pr) (f := fun q => c.pr (q.1, q.2 * c.T.p)) (evi_list (ev_call C0 hr (eva_cons (ev_call C5 hr6 (eva_cons (ev_var 3) eva_nil) hq3) eva_nil) (.mk c (fun e => if α e % c.T.p = 0 then α e / c.T.p else 0) ps w hsm (by omega) hle)))
          (lcb (fun _ _ _ _ _ => evg_two 8 9 rfl nd) rfl fun i d hd => ⟨_, rfl, fun _ _ _ _ _ => (ev_tup (eva_cons (ev_var 8) (eva_cons (ev_mul (ev_var 9) (ev_fld_p T.cls (ev_pol_f T.cls (ev_var 0))) cm) eva_nil))).is (pe i d hd)⟩) (by omega) rfl nd (blkOk_by (N := N_parts_of) (sc := defScope s_parts_of) (by decide +kernel)))) lb3)).is ?_))
        rw [List.map_append, ← mm]
end
end FM
set_option autoImplicit false
namespace FM
open PySem PySem.Spec PyProof.Rows L2 LamX
/-! ## comprehensions with two clauses -/
theorem any_i {X : Cx} (tg e : Expr) : PI X tg e (fun σ H R => ∃ t, PI X tg e t ∧ t σ H R) := ⟨fun pins s σ H D I ⟨t, h, q⟩ => h.run pins s σ H D I q⟩
theorem RepV.chg0 {L : Lc} {S : SlS} {σ : L2.St} {H G : Hp} {l : Addr} {vs ws : List V} (R : RepV L S σ H G) (no : ∀ i, ¬ Owns S i) (hl : H l = some (.lst vs)) (gl : G l = none) : RepV L S σ (upd H l (.lst ws)) G where
  len := R.len
  sub := fun a u e => by rw [upd_ne (ne_of_none e gl)]; exact R.sub a u e
  tabs := ⟨tabs_keep R.tabs.t fun a u e n1 _ => by
    rw [upd_ne]
    · exact e
    · rintro rfl
      rw [hl] at e
      cases e
      exact n1 _ rfl, R.tabs.n⟩
  val := R.val
  own := fun i xs e => absurd ⟨_, e, .inl ⟨xs, rfl⟩⟩ (no i)
  inst := fun i C fs e => absurd ⟨_, e, .inr ⟨C, fs, rfl⟩⟩ (no i)
  dist := fun i j l h1 => absurd h1 (no i)
structure LcB2 (L : Lc) (X : Cx) (S : SlS) (tg elt tg1 iter1 : Expr) (ifs1 : List Expr) (scope : Scope) (t t1 : Tg) (vs vs1 : List Nat) {α β : Type} (xs : List α) (ys : List β) (en : α → D) (en1 : β → D) (p : α → β → Bool) (f : α → β → D) : Prop where
  hg : ∀ (s : Shared) (H : Hp) (C : Addr) (cl : List (Str × Addr)) (fp : List Addr), EvG (X.blk s H scope (compEnvC scope cl C X.env) fp) tg t
  hg1 : ∀ (s : Shared) (H : Hp) (C : Addr) (cl : List (Str × Addr)) (fp : List Addr), EvG (X.blk s H scope (compEnvC scope cl C X.env) fp) tg1 t1
  hin : tgIn t vs = true
  hin1 : tgIn t1 vs1 = true
  hv : ∀ i ∈ vs1, i ∈ vs
  tu : ∀ (i : Nat) (x : α), xs[i]? = some x → ∃ S1, setT t (en x) (wipeS S vs) = some S1 ∧ (∀ i, ¬ Owns S1 i) ∧ (∀ (s : Shared) (H : Hp) (C : Addr) (cl : List (Str × Addr)) (fp : List Addr), EvI L (X.blk s H scope (compEnvC scope cl C X.env) fp) tg1 iter1 S1 (ys.map en1)) ∧
    ∀ (j : Nat) (y : β), ys[j]? = some y → ∃ S2, setT t1 (en1 y) (wipeS S1 vs1) = some S2 ∧ ∀ (s : Shared) (H : Hp) (C : Addr) (cl : List (Str × Addr)) (fp : List Addr),
      EvTs L (X.blk s H scope (compEnvC scope cl C X.env) fp) ifs1 S2 (p x y) ∧ (p x y = true → EvE L (X.blk s H scope (compEnvC scope cl C X.env) fp) elt S2 (f x y))
section
variable {L : Lc} {X : Cx} {S : SlS} {tg elt iter tg1 iter1 : Expr} {ifs1 : List Expr} {scope : Scope} {t t1 : Tg} {vs vs1 : List Nat} {α β : Type} {xs : List α} {ys : List β} {en : α → D} {en1 : β → D} {p : α → β → Bool} {f : α → β → D}
def tIt2 (L : Lc) (S : SlS) (vs : List Nat) (t : Tg) {α β : Type} (xs : List α) (ys : List β) (en : α → D) (en1 : β → D) : TI := fun σ H R => ∃ (i : Nat) (x : α) (S1 : SlS), xs[i]? = some x ∧ setT t (en x) (wipeS S vs) = some S1 ∧ TIt L S1 (ys.map en1) σ H R
def tTst2 (L : Lc) (S : SlS) (vs vs1 : List Nat) (t t1 : Tg) {α β : Type} (xs : List α) (ys : List β) (en : α → D) (en1 : β → D) (p : α → β → Bool) : TT := fun σ H Q => ∃ (i : Nat) (x : α) (S1 : SlS) (j : Nat) (y : β) (S2 : SlS), xs[i]? = some x ∧ setT t (en x) (wipeS S vs) = some S1 ∧ ys[j]? = some y ∧ setT t1 (en1 y) (wipeS S1 vs1) = some S2 ∧ TB L S2 (p x y) σ H Q
def tElt2 (L : Lc) (S : SlS) (vs vs1 : List Nat) (t t1 : Tg) {α β : Type} (xs : List α) (ys : List β) (en : α → D) (en1 : β → D) (p : α → β → Bool) (f : α → β → D) : TE := fun σ H Q => ∃ (i : Nat) (x : α) (S1 : SlS) (j : Nat) (y : β) (S2 : SlS), xs[i]? = some x ∧ setT t (en x) (wipeS S vs) = some S1 ∧ ys[j]? = some y ∧ setT t1 (en1 y) (wipeS S1 vs1) = some S2 ∧ p x y = true ∧ TD L S2 (f x y) σ H Q
theorem LcB2.pi (b : LcB2 L X S tg elt tg1 iter1 ifs1 scope t t1 vs vs1 xs ys en en1 p f) (s : Shared) (H : Hp) (C : Addr) (cl : List (Str × Addr)) (fp : List Addr) : PI (X.blk s H scope (compEnvC scope cl C X.env) fp) tg1 iter1 (tIt2 L S vs t xs ys en en1) :=
  PI.imp (any_i tg1 iter1) fun σ H' Q ⟨i, d, S1, e1, e2, q⟩ => by
    obtain ⟨S2, e3, _, k, _⟩ := b.tu i d e1
    rw [e2] at e3
    cases e3
    exact ⟨_, k s H C cl fp, q⟩
theorem LcB2.pts (b : LcB2 L X S tg elt tg1 iter1 ifs1 scope t t1 vs vs1 xs ys en en1 p f) (s : Shared) (H : Hp) (C : Addr) (cl : List (Str × Addr)) (fp : List Addr) : PTs (X.blk s H scope (compEnvC scope cl C X.env) fp) ifs1 (tTst2 L S vs vs1 t t1 xs ys en en1 p) :=
  PTs.imp (any_ts ifs1) fun σ H' Q ⟨i, d, S1, j, y, S2, e1, e2, e4, e5, q⟩ => by
    obtain ⟨S2', e3, _, _, k⟩ := b.tu i d e1
    rw [e2] at e3
    cases e3
    obtain ⟨S3', e6, k2⟩ := k j y e4
    rw [e5] at e6
    cases e6
    exact ⟨_, (k2 s H C cl fp).1, q⟩
theorem LcB2.pe (b : LcB2 L X S tg elt tg1 iter1 ifs1 scope t t1 vs vs1 xs ys en en1 p f) (s : Shared) (H : Hp) (C : Addr) (cl : List (Str × Addr)) (fp : List Addr) : PE (X.blk s H scope (compEnvC scope cl C X.env) fp) elt (tElt2 L S vs vs1 t t1 xs ys en en1 p f) :=
  PE.imp (any_e elt) fun σ H' Q ⟨i, d, S1, j, y, S2, e1, e2, e4, e5, hp, q⟩ => by
    obtain ⟨S2', e3, _, _, k⟩ := b.tu i d e1
    rw [e2] at e3
    cases e3
    obtain ⟨S3', e6, k2⟩ := k j y e4
    rw [e5] at e6
    cases e6
    exact ⟨_, (k2 s H C cl fp).2 hp, q⟩
def lc2F {α β : Type} (ys : List β) (p : α → β → Bool) (f : α → β → D) (x : α) : List D := (ys.filter (p x)).map (f x)
theorem lc2_len (ys : List β) (p : α → β → Bool) (f : α → β → D) : ∀ xs : List α, (xs.flatMap (lc2F ys p f)).length ≤ xs.length * ys.length
  | [] => Nat.zero_le _
  | x :: xs => by
    rw [List.flatMap_cons, List.length_append, List.length_cons, Nat.succ_mul]
    have := lc2_len ys p f xs
    have : (lc2F ys p f x).length ≤ ys.length := by
      unfold lc2F
      rw [List.length_map]
      exact List.length_filter_le _ _
    omega
theorem lc2_run (b : LcB2 L X S tg elt tg1 iter1 ifs1 scope t t1 vs vs1 xs ys en en1 p f) (hz : xs.length ≤ 200) (hz2 : ys.length ≤ 200) {σ : L2.St} {H : Hp} {Q : VK} (q : TN L S (xs.flatMap (lc2F ys p f)) σ H Q) :
    tLc2 (TIt L S (xs.map en)) (tgG X.K t) (fun _ H Q => Q true H) (tIt2 L S vs t xs ys en en1) (tgG X.K t1) (tTst2 L S vs vs1 t t1 xs ys en en1 p) (tElt2 L S vs vs1 t t1 xs ys en en1 p f) vs vs1 σ H Q := by
  obtain ⟨G, R, q⟩ := q
  refine ⟨G, R, fun G1 H1 J g1 ok Dd hD => ?_⟩
  refine ⟨fun i m H' => m = xs.length - i ∧ i ≤ xs.length ∧ ∃ G' acc, Grow L G1 H1 G' H' ∧ H' Dd = some (.lst acc) ∧ G' Dd = none ∧ IsL L G' ((xs.take i).flatMap (lc2F ys p f)) acc,
    ⟨xs.length, by simp, Nat.zero_le _, G1, [], Grow.more g1.gh hD, upd_same, sub_none g1.gh hD, .nil⟩, ?_⟩
  rintro i m H' ⟨rfl, hle, G', acc, g', hacc, hGD, r⟩
  obtain ⟨o1, o2⟩ := ok i G' H' g'.gg g'.gh
  by_cases hlt : i < xs.length
  · refine .inr ?_
    have hd : xs[i]? = some xs[i] := List.getElem?_eq_getElem hlt
    obtain ⟨go, y⟩ := o1 (en xs[i]) (by rw [List.getElem?_map, hd]; rfl)
    refine ⟨go, fun H2 => ∃ G2 acc2, Grow L G1 H1 G2 H2 ∧ H2 Dd = some (.lst acc2) ∧ G2 Dd = none ∧ IsL L G2 ((xs.take (i + 1)).flatMap (lc2F ys p f)) acc2, fun H2 ⟨G2, a2, h1, h2, h3, h4⟩ => ⟨xs.length - (i + 1), by omega, rfl, hlt, G2, a2, h1, h2, h3, h4⟩, fun x H'' hx => ?_⟩
    obtain ⟨G'', g2, ix⟩ := y x H'' hx
    obtain ⟨S1, e1, no, ki, k⟩ := b.tu i xs[i] hd
    have R2 := (((R.grow g1).grow g').grow g2).wipe vs
    refine tgG_wipe R2 ix e1 b.hin fun σ2 R3 hw => ⟨hw.trans (wipe_wipe σ vs vs fun _ h => h), iteT ⟨i, xs[i], S1, hd, e1, G'', R3, fun G3 H3 J1 g3 ok1 => ?_⟩⟩
    have hf1 : G'' Dd = none := g2.fr Dd hGD (by rw [hacc]; exact fun z => by cases z)
    have hf2 : H'' Dd = some (.lst acc) := g2.hh _ _ hacc (fun _ z => by cases z)
    have hf3 : G3 Dd = none := g3.fr Dd hf1 (by rw [hf2]; exact fun z => by cases z)
    have hf4 : H3 Dd = some (.lst acc) := g3.hh _ _ hf2 (fun _ z => by cases z)
    have ga := (g'.trans g2).trans g3
    have r3 := (r.mono g2.gg).mono g3.gg
    have R4 := R3.grow g3
    refine ⟨fun j k H4 => k = ys.length - j ∧ j ≤ ys.length ∧ ∃ G4 acc4, Sub G3 G4 ∧ Grow L G1 H1 G4 H4 ∧ H4 Dd = some (.lst acc4) ∧ G4 Dd = none ∧ IsL L G4 ((xs.take i).flatMap (lc2F ys p f) ++ ((ys.take j).filter (p xs[i])).map (f xs[i])) acc4 ∧ RepV L S1 σ2 H4 G4,
      ⟨ys.length, by simp, Nat.zero_le _, G3, acc, fun _ _ e => e, ga, hf4, hf3, by simpa using r3, R4⟩, ?_⟩
    rintro j k4 H4 ⟨rfl, hle4, G4, acc4, g4, g4', hacc4, hGD4, r4, R5⟩
    obtain ⟨p1, p2⟩ := ok1 j G4 H4 g4 g4'.gh
    by_cases hlt4 : j < ys.length
    · refine .inr ?_
      have hd4 : ys[j]? = some ys[j] := List.getElem?_eq_getElem hlt4
      obtain ⟨go4, y4⟩ := p1 (en1 ys[j]) (by rw [List.getElem?_map, hd4]; rfl)
      refine ⟨go4, fun H5 => ∃ G5 acc5, Sub G3 G5 ∧ Grow L G1 H1 G5 H5 ∧ H5 Dd = some (.lst acc5) ∧ G5 Dd = none ∧ IsL L G5 ((xs.take i).flatMap (lc2F ys p f) ++ ((ys.take (j + 1)).filter (p xs[i])).map (f xs[i])) acc5 ∧ RepV L S1 σ2 H5 G5,
        fun H5 ⟨G5, a5, h0, h1, h2, h3, h4, h5⟩ => ⟨ys.length - (j + 1), by omega, rfl, hlt4, G5, a5, h0, h1, h2, h3, h4, h5⟩, fun x4 H5 hx4 => ?_⟩
      obtain ⟨G5, g5, ix5⟩ := y4 x4 H5 hx4
      obtain ⟨S2, e2, k2⟩ := k j ys[j] hd4
      refine tgG_wipe ((R5.grow g5).wipe vs1) ix5 e2 b.hin1 fun σ3 R6 hw3 => ⟨hw3.trans (wipe_wipe σ2 vs1 vs1 fun _ h => h), i, xs[i], S1, j, ys[j], S2, hd, e1, hd4, e2, G5, R6, fun G6 H6 g6 => ?_⟩
      have hh1 : G5 Dd = none := g5.fr Dd hGD4 (by rw [hacc4]; exact fun z => by cases z)
      have hh2 : H5 Dd = some (.lst acc4) := g5.hh _ _ hacc4 (fun _ z => by cases z)
      have hh3 : G6 Dd = none := g6.fr Dd hh1 (by rw [hh2]; exact fun z => by cases z)
      have hh4 : H6 Dd = some (.lst acc4) := g6.hh _ _ hh2 (fun _ z => by cases z)
      have gb := (g4'.trans g5).trans g6
      have gc : Sub G3 G6 := fun a u e => g6.gg a u (g5.gg a u (g4 a u e))
      rw [take_succ_of hd4, List.filter_append, List.map_append, ← List.append_assoc]
      cases hp : p xs[i] ys[j] with
      | true =>
        refine iteT ⟨i, xs[i], S1, j, ys[j], S2, hd, e1, hd4, e2, hp, G6, R6.grow g6, fun G7 H7 v g7 i7 => ?_⟩
        have hh5 : G7 Dd = none := g7.fr Dd hh3 (by rw [hh4]; exact fun z => by cases z)
        have hh6 : H7 Dd = some (.lst acc4) := g7.hh _ _ hh4 (fun _ z => by cases z)
        have R7 := ((R5.grow g5).grow g6).grow g7
        have D0 : H3 Dd ≠ none := by rw [hf4]; exact fun z => by cases z
        refine ⟨acc4, hh6, ?_, G7, acc4 ++ [v], ?_, (gb.trans g7).chg hD hh6 hh5, upd_same, hh5, ?_, ?_⟩
        · have e2 := r4.length
          have e3 := lc2_len ys p f (xs.take i)
          have e4 : (((ys.take j).filter (p xs[i])).map (f xs[i])).length ≤ ys.length := by
            rw [List.length_map]
            exact Nat.le_trans (List.length_filter_le _ _) (by rw [List.length_take]; omega)
          rw [List.length_append] at e2
          have e5 : (xs.take i).length * ys.length ≤ 200 * 200 := Nat.mul_le_mul (by rw [List.length_take]; omega) hz2
          exact small_lt (by omega)
        · exact fun a u e => g7.gg a u (gc a u e)
        · rw [List.filter_cons, hp]
          exact (((r4.mono g5.gg).mono g6.gg).mono g7.gg).append (.cons i7 .nil)
        · exact R7.chg0 no hh6 hh5
      | false =>
        refine iteF ⟨G6, acc4, gc, gb, hh4, hh3, ?_, (R5.grow g5).grow g6⟩
        rw [List.filter_cons, hp]
        have e4 : List.map (f xs[i]) (if false = true then ys[j] :: List.filter (p xs[i]) [] else List.filter (p xs[i]) []) = [] := by simp
        rw [e4, List.append_nil]
        exact (r4.mono g5.gg).mono g6.gg
    · have e : j = ys.length := by omega
      subst e
      rw [List.take_length] at r4
      refine .inl ⟨p2 (by rw [List.length_map]; exact Nat.le_refl _), G4, acc4, g4', hacc4, hGD4, ?_⟩
      rw [take_succ_of hd, List.flatMap_append, List.flatMap_singleton]
      exact r4
  · have e : i = xs.length := by omega
    subst e
    rw [List.take_length] at r
    exact .inl ⟨o2 (by rw [List.length_map]; exact Nat.le_refl _), q G' H' Dd acc (g1.trans g') (g1.back hD) hacc hGD r⟩
/-- [elt for tg in iter for tg1 in iter1 if ..] as a value -/
theorem evn_lc2 {own : List (Str × Nat)} {pos : Pos} (hi : EvI L X tg iter S (xs.map en)) (b : LcB2 L X S tg elt tg1 iter1 ifs1 scope t t1 (own.map (·.2)) vs1 xs ys en en1 p f) (hz : xs.length ≤ 200) (hz2 : ys.length ≤ 200) (hc : X.calm = true) (hN : X.N.Nodup) (ok : BlkOk X.N X.env.scope scope own)
    (hs : ∀ x, foldedSetIterable iter X.env x = pure x := by intro _; rfl) (hs1 : ∀ env x, foldedSetIterable iter1 env x = pure x := by intro _ _; rfl) : EvN L X (.ListComp elt [⟨tg, iter, [], 0⟩, ⟨tg1, iter1, ifs1, 0⟩] scope pos) S (xs.flatMap (lc2F ys p f)) :=
  PE.imp (pe_lc2 (g := tgG X.K t) (g1 := tgG X.K t1) hc hN hi ok b.hv (fun s H C cl fp => b.hg s H C cl fp) (fun s H C cl fp => pts_nil) (fun s H C cl fp => b.pi s H C cl fp) (fun s H C cl fp => b.hg1 s H C cl fp) b.pts b.pe hs hs1) fun σ H Q q => lc2_run b hz hz2 q
end
/-! ### sorted(xs), ints -/
theorem boot_sorted : bootBuiltins "sorted" = some (.builtin "sorted") := by decide +kernel
theorem evn_sorted {L : Lc} {X : Cx} {S : SlS} {e : Expr} {p pos : Pos} {xs ys : List Int} (hm : X.mg "sorted" = none) (h : EvQ L X e S true (xs.map .int)) (hz : xs.length < 64) (hp : ys.Perm xs) (ho : ys.Pairwise (· ≤ ·)) (hg : Gl X "sorted" := by rfl) (he : starEach (e :: []) X.env = (false, eval e X.env) :: starEach [] X.env := by rfl) : EvN L X (.Call (.Name "sorted" p) [e] [] pos) S (ys.map .int) :=
  PE.imp (pe_callB cr_sorted hg hm boot_sorted (pa_cons h pa_nil he) (by decide) (by decide) he (by rfl)) fun σ H Q ⟨G, R, q⟩ => ⟨G, R, fun G' H' a vs g ha i => by
    rw [i.ints] at ha
    refine ⟨a, xs, rfl, SqL.of ha, hz, fun ns' l h1 h2 hl => ?_⟩
    have : ns' = ys := List.Perm.eq_of_pairwise (le := (· ≤ ·)) (fun a b _ _ => Int.le_antisymm) h2 ho (h1.trans hp.symm)
    subst this
    exact q G' _ l _ (g.trans (Grow.more g.gh hl)) (g.back hl) upd_same (sub_none g.gh hl) (isL_ints _)⟩
end FM
set_option autoImplicit false
namespace FM
open PySem PySem.Spec PyProof.Rows L2 LamX Pol
section
variable {K : Type} [Fd K]
/-! ## what the squarefree parts are -/
def dA (α : Nat → Nat) (k e : Nat) : Nat := if α e = k then 1 else 0
structure KsOk (α : Nat → Nat) (ps : Fac K) (Ks : List Nat) : Prop where
  nd : Ks.Nodup
  iff : ∀ k, k ∈ Ks ↔ 1 ≤ k ∧ ∃ x ∈ ps, α x.2 = k
theorem stg_spec (p : Nat) (α : Nat → Nat) (ps : Fac K) : ∀ i, ∃ Ls : List Nat, stg p α ps i = Ls.map (fun k => (Mf (dA α k) ps, k)) ∧ Ls.Nodup ∧ (∀ k, k ∈ Ls ↔ 1 ≤ k ∧ k ≤ i ∧ k % p ≠ 0 ∧ ∃ x ∈ ps, α x.2 = k)
  | 0 => ⟨[], rfl, List.nodup_nil, fun k => ⟨fun h => (nomatch h), fun h => by omega⟩⟩
  | i + 1 => by
    obtain ⟨Ls, h1, h2, h3⟩ := stg_spec p α ps i
    rw [stg]
    by_cases q : (ps.any fun x => !decide (partA p α (i + 1) x.2 = 0)) = true
    · obtain ⟨x, hx, hq⟩ := List.any_eq_true.mp q
      have hq2 : α x.2 % p ≠ 0 ∧ α x.2 = i + 1 := by
        by_cases z : α x.2 % p ≠ 0 ∧ α x.2 = i + 1
        · exact z
        · unfold partA at hq
          rw [if_neg z] at hq
          simp at hq
      have hm : (i + 1) % p ≠ 0 := by rw [← hq2.2]; exact hq2.1
      refine ⟨Ls ++ [i + 1], ?_, ?_, fun k => ?_⟩
      · rw [if_pos q, List.map_append, h1]
        show _ = _ ++ [(Mf (dA α (i + 1)) ps, i + 1)]
        rw [Mf_congr (α := partA p α (i + 1)) (β := dA α (i + 1)) fun y _ => by
          unfold partA dA
          by_cases z : α y.2 = i + 1
          · rw [if_pos z, if_pos ⟨by rw [z]; exact hm, z⟩]
          · rw [if_neg z, if_neg fun w => z w.2]]
      · refine List.nodup_append.mpr ⟨h2, by simp, fun a ha b hb z => ?_⟩
        rw [List.mem_singleton.mp hb] at z
        have := ((h3 a).mp ha).2.1
        omega
      · rw [List.mem_append, h3, List.mem_singleton]
        refine ⟨fun h => ?_, fun ⟨a1, a2, a3, a4⟩ => ?_⟩
        · rcases h with ⟨a1, a2, a3, a4⟩ | h
          · exact ⟨a1, by omega, a3, a4⟩
          · rw [h]
            exact ⟨by omega, Nat.le_refl _, hm, x, hx, hq2.2⟩
        · by_cases z : k = i + 1
          · exact .inr z
          · exact .inl ⟨a1, by omega, a3, a4⟩
    · refine ⟨Ls, by rw [if_neg q, List.append_nil, h1], h2, fun k => ?_⟩
      rw [h3]
      refine ⟨fun ⟨a1, a2, a3, a4⟩ => ⟨a1, by omega, a3, a4⟩, fun ⟨a1, a2, a3, x, hx, a4⟩ => ⟨a1, ?_, a3, x, hx, a4⟩⟩
      by_cases z : k = i + 1
      · refine absurd (List.any_eq_true.mpr ⟨x, hx, ?_⟩) q
        unfold partA
        rw [if_pos ⟨by rw [a4]; exact a3, by rw [a4, z]⟩]
        rfl
      · omega
theorem pF_spec {p : Nat} (hp : 2 ≤ p) : ∀ (n : Nat) (α : Nat → Nat) (ps : Fac K), (∀ x ∈ ps, α x.2 < 2 ^ n) → ∃ Ks : List Nat, pF p n α ps = Ks.map (fun k => (Mf (dA α k) ps, k)) ∧ KsOk α ps Ks
  | 0, α, ps, h => ⟨[], rfl, List.nodup_nil, fun k => ⟨fun h => (nomatch h), fun ⟨h1, x, hx, h2⟩ => by
      have := h x hx
      simp at this
      omega⟩⟩
  | n + 1, α, ps, h => by
    have hd : ∀ x ∈ ps, α x.2 / p < 2 ^ n := fun x hx => div_small hp (by have := h x hx; rwa [Nat.pow_succ] at this)
    have dv : ∀ a k : Nat, a % p = 0 → (a / p = k ↔ a = k * p) := fun a k hz => by
      have e := Nat.div_add_mod a p
      rw [hz, Nat.mul_comm] at e
      refine ⟨fun q => by rw [← q]; omega, fun q => ?_⟩
      rw [q, Nat.mul_div_cancel _ (by omega)]
    -- the multiples of p
    have mult : ∀ β : Nat → Nat, (∀ x ∈ ps, ∀ k, 1 ≤ k → (β x.2 = k ↔ α x.2 = k * p)) → (∀ x ∈ ps, β x.2 < 2 ^ n) → ∃ Ks : List Nat, (pF p n β ps).map (fun q => (q.1, q.2 * p)) = Ks.map (fun k => (Mf (dA α k) ps, k)) ∧ Ks.Nodup ∧ ∀ k, k ∈ Ks ↔ 1 ≤ k ∧ k % p = 0 ∧ ∃ x ∈ ps, α x.2 = k := fun β hb hb2 => by
      obtain ⟨Ks, h1, h2, h3⟩ := pF_spec hp n β ps hb2
      refine ⟨Ks.map (· * p), ?_, ?_, fun k => ?_⟩
      · rw [h1, List.map_map, List.map_map]
        refine List.map_congr_left fun k hk => ?_
        show (Mf (dA β k) ps, k * p) = (Mf (dA α (k * p)) ps, k * p)
        rw [Mf_congr (α := dA β k) (β := dA α (k * p)) fun x hx => by
          unfold dA
          have := hb x hx k ((h3 k).mp hk).1
          by_cases z : β x.2 = k
          · rw [if_pos z, if_pos (this.mp z)]
          · rw [if_neg z, if_neg fun w => z (this.mpr w)]]
      · refine List.pairwise_map.mpr (h2.imp fun {a b} hne z => hne ?_)
        exact Nat.eq_of_mul_eq_mul_right (by omega) z
      · rw [List.mem_map]
        refine ⟨fun ⟨j, hj, e⟩ => ?_, fun ⟨a1, a2, x, hx, a3⟩ => ?_⟩
        · obtain ⟨b1, x, hx, b2⟩ := (h3 j).mp hj
          subst e
          exact ⟨Nat.le_trans b1 (Nat.le_mul_of_pos_right _ (by omega)), Nat.mul_mod_left .., x, hx, (hb x hx j b1).mp b2⟩
        · have e : k / p * p = k := by
            have := Nat.div_add_mod k p
            rw [a2, Nat.mul_comm] at this
            omega
          have k1 : 1 ≤ k / p := by
            rcases Nat.eq_zero_or_pos (k / p) with z | z
            · rw [z] at e; omega
            · exact z
          exact ⟨k / p, (h3 _).mpr ⟨k1, x, hx, (hb x hx _ k1).mpr (by rw [e]; exact a3)⟩, e⟩
    rw [pF]
    by_cases z0 : (ps.all fun x => decide (α x.2 = 0)) = true
    · rw [if_pos z0]
      refine ⟨[], rfl, List.nodup_nil, fun k => ⟨fun h => (nomatch h), fun ⟨h1, x, hx, h2⟩ => ?_⟩⟩
      have := of_decide_eq_true (List.all_eq_true.mp z0 x hx)
      omega
    · rw [if_neg z0]
      by_cases zp : (ps.all fun x => decide (α x.2 % p = 0)) = true
      · rw [if_pos zp]
        have zp' : ∀ x ∈ ps, α x.2 % p = 0 := fun x hx => of_decide_eq_true (List.all_eq_true.mp zp x hx)
        obtain ⟨Ks, h1, h2, h3⟩ := mult (fun e => α e / p) (fun x hx k _ => dv _ k (zp' x hx)) hd
        refine ⟨Ks, h1, h2, fun k => ?_⟩
        rw [h3]
        exact ⟨fun ⟨a, _, b⟩ => ⟨a, b⟩, fun ⟨a, x, hx, b⟩ => ⟨a, by rw [← b]; exact zp' x hx, x, hx, b⟩⟩
      · rw [if_neg zp]
        obtain ⟨Ls, h1, h2, h3⟩ := stg_spec p α ps (mxA p α ps)
        obtain ⟨Ks, h4, h5, h6⟩ := mult (fun e => if α e % p = 0 then α e / p else 0) (fun x hx k hk => by
          by_cases q : α x.2 % p = 0
          · rw [if_pos q]
            exact dv _ k q
          · rw [if_neg q]
            refine ⟨fun w => by omega, fun w => ?_⟩
            rw [w, Nat.mul_mod_left] at q
            exact absurd rfl q) (fun x hx => by
          by_cases q : α x.2 % p = 0
          · rw [if_pos q]; exact hd x hx
          · rw [if_neg q]; exact Nat.two_pow_pos n)
        refine ⟨Ls ++ Ks, by rw [h1, h4, List.map_append], ?_, fun k => ?_⟩
        · refine List.nodup_append.mpr ⟨h2, h5, fun a ha b hb z => ?_⟩
          have := ((h3 a).mp ha).2.2.1
          have := ((h6 b).mp hb).2.1
          rw [z] at *
          contradiction
        · rw [List.mem_append, h3, h6]
          refine ⟨fun h => ?_, fun ⟨a, x, hx, b⟩ => ?_⟩
          · rcases h with ⟨a, _, _, b⟩ | ⟨a, _, b⟩
            · exact ⟨a, b⟩
            · exact ⟨a, b⟩
          · by_cases q : k % p = 0
            · exact .inr ⟨a, q, x, hx, b⟩
            · exact .inl ⟨a, by rw [← b]; exact mxA_le x hx (by rw [b]; exact q), q, x, hx, b⟩
def gsk (ps : Fac K) (k : Nat) : List (Pol K) := (ps.filter fun x => decide (x.2 = k)).map (·.1)
theorem Mf_gsk (k : Nat) : ∀ ps : Fac K, Mf (dA (fun e => e) k) ps = prodP (gsk ps k)
  | [] => rfl
  | x :: ps => by
    rw [Mf, Mf_gsk k ps]
    unfold gsk dA
    rw [List.filter_cons]
    by_cases z : x.2 = k
    · rw [if_pos z, if_pos (decide_eq_true z), List.map_cons, prodP]
      grind
    · rw [if_neg z, if_neg (by simp [z])]
      grind
def kS (ps : Fac K) : List Nat := [1, 2, 3].filter fun k => ps.any fun x => decide (x.2 = k)
theorem kS_ok {ps : Fac K} (h : ∀ x ∈ ps, 1 ≤ x.2 ∧ x.2 < 4) : KsOk (fun e => e) ps (kS ps) := by
  refine ⟨List.Pairwise.filter _ (show [1, 2, 3].Nodup by decide), fun k => ?_⟩
  unfold kS
  rw [List.mem_filter, List.any_eq_true]
  refine ⟨fun ⟨h1, x, hx, h2⟩ => ⟨?_, x, hx, of_decide_eq_true h2⟩, fun ⟨h1, x, hx, h2⟩ => ⟨?_, x, hx, decide_eq_true h2⟩⟩
  · simp at h1
    omega
  · have := h x hx
    have h2 : x.2 = k := h2
    simp
    omega
theorem ks_perm {α : Nat → Nat} {ps : Fac K} {A B : List Nat} (ha : KsOk α ps A) (hb : KsOk α ps B) : A.Perm B := by
  refine (List.perm_ext_iff_of_nodup ha.nd hb.nd).mpr fun k => ?_
  rw [ha.iff, hb.iff]
end
theorem filter_key {β : Type} (m : Nat → β) : ∀ {Ks : List Nat}, Ks.Nodup → ∀ {k : Nat}, k ∈ Ks → (Ks.map fun k => (m k, k)).filter (fun q => decide (q.2 = k)) = [(m k, k)]
  | x :: Ks, nd, k, h => by
    obtain ⟨h1, h2⟩ := List.nodup_cons.mp nd
    rw [List.map_cons, List.filter_cons]
    by_cases z : x = k
    · subst z
      rw [if_pos (decide_eq_true rfl)]
      congr 1
      refine List.filter_eq_nil_iff.mpr fun q hq => ?_
      obtain ⟨y, hy, rfl⟩ := List.mem_map.mp hq
      intro w
      have : y = x := of_decide_eq_true w
      exact h1 (this ▸ hy)
    · rw [if_neg (by simpa using z)]
      rcases List.mem_cons.mp h with q | q
      · exact absurd q.symm z
      · exact filter_key m h2 q
theorem flat_one_of {α β : Type} {f : α → List β} {g : α → β} : ∀ {l : List α}, (∀ x ∈ l, f x = [g x]) → l.flatMap f = l.map g
  | [], _ => rfl
  | x :: l, h => by
    rw [List.flatMap_cons, h x (List.mem_cons_self ..), flat_one_of fun y hy => h y (List.mem_cons_of_mem _ hy)]
    rfl
def plainSl : Sl → Bool
  | .own _ => false
  | .inst _ _ => false
  | _ => true
theorem noOwn {S : SlS} (h : S.all plainSl = true) : ∀ i, ¬ Owns S i := fun i ⟨s, e, q⟩ => by
  have := List.all_eq_true.mp h s (List.mem_of_getElem? e)
  rcases q with ⟨xs, rfl⟩ | ⟨C, fs, rfl⟩ <;> cases this
inductive R_squarefree_parts : List D → D → Prop
  | mk (c : FC) (a : Kq c) (ha : a ≠ 0) (ps : Fac (Kq c)) (w : WF ps) (h : ∀ x ∈ ps, 1 ≤ x.2 ∧ x.2 < 4) (hl : (Mf (fun e => e) ps).len ≤ 30) : R_squarefree_parts [c.P (C a * Mf (fun e => e) ps)] (.tup ((kS ps).map fun k => c.pr (prodP (gsk ps k), k)))
section
variable {P : Program} {w : World} {K : PySem.W.Frag} {mg : Str → Option Value} {base : Heap} {L : Lc} {f : Addr} {fd : FuncData}
abbrev N_squarefree_parts : List Str := ["f", "found", "k", "pair"]
theorem sc_squarefree_parts : FnScope N_squarefree_parts ["f"] (defScope s_squarefree_parts) := ⟨rfl, rfl, rfl, by decide +kernel, rfl, by decide +kernel, by decide +kernel⟩
theorem ok_squarefree_parts {k : Nat} (hk : 7 ≤ k) (T : Txt K mg L) (C0 : FnC P w K mg base L "parts_of" k ["f"] (R_parts 2)) (C1 : MtC P w K mg base L L.CP "is_zero" 1 ["self"] R_P_is_zero) (C2 : MtC P w K mg base L L.CP "monic" 6 ["self"] R_P_monic) (F : FunS K "squarefree_parts" "squarefree_parts" s_squarefree_parts f fd) : FnOk P w K mg base CX0 (k + 1) f fd ["f"] (spD L R_squarefree_parts) := by
  refine fn_ev F sc_squarefree_parts (fun ds r h => by cases h <;> rfl) fun cdv A outer s H E hr ds r h => ?_
  cases h with
  | mk c a ha ps w h hl =>
    have nd := sc_squarefree_parts.nd
    have hr1 : Room 1 _ := hr.mono (by omega)
    have hr6 : Room 6 _ := hr.mono (by omega)
    have hp2 : 2 ≤ c.T.p := by have := c.g0.1; omega
    have mM := Mf_mo (fun e => e) w.mo
    have fn : C a * Mf (fun e => e) ps ≠ 0 := mul_ne (C_ne ha) mM.ne
    have fl : (C a * Mf (fun e => e) ps).len ≤ 400 := by
      rw [len_mul (C_ne ha) mM.ne, len_C ha]
      omega
    have hmon := R_P_monic.mk c (C a * Mf (fun e => e) ps) fn fl
    rw [mon_C ha mM] at hmon
    have h4 : ∀ x ∈ ps, x.2 < 2 ^ 2 := fun x hx => (h x hx).2
    obtain ⟨Ks, e1, ok1⟩ := pF_spec hp2 2 (fun e => e) ps h4
    have ok2 := kS_ok h
    have pm := ks_perm ok2 ok1
    have lk : (kS ps).length ≤ 3 := by
      unfold kS
      exact List.length_filter_le _ _
    have lKs : Ks.length ≤ 3 := by rw [← pm.length_eq]; exact lk
    refine .ret (evb_cons (evs_ifF ((evt_val (ev_methP0 T.cls C1 hr1 (ev_var 0) (.mk c _))).is (decide_eq_false fn)) evb_nil) (evb_cons (evs_set 1 (ev_call C0 hr (eva_cons (ev_methP0 T.cls C2 hr6 (ev_var 0) hmon) eva_nil) (.mk c (fun e => e) ps w h4 (by decide) hl)) nd) (evb_one (evs_ret ((ev_tupleL T.tuple (evq_n (evn_lc2 (own := [("k", 2), ("pair", 3)]) (t := .one 2) (t1 := .one 3) (vs1 := [3]) (xs := kS ps) (ys := pF c.T.p 2 (fun e => e) ps) (en := fun (k : Nat) => .int (k : Int)) (en1 := c.pr) (p := fun k q => decide (q.2 = k)) (f := fun _ q => c.pr q)
      (evi_list ((ev_new (evn_sorted (xs := Ks.map fun (k : Nat) => (k : Int)) (ys := (kS ps).map fun (k : Nat) => (k : Int)) T.sorted (evq_n ((evn_lc (own := [("pair", 3)]) (t := .one 3) (xs := pF c.T.p 2 (fun e => e) ps) (en := c.pr) (f := fun q => .int (q.2 : Nat)) (evi_list (ev_var 1)) (lcb (fun _ _ _ _ _ => evg_one 3 nd) rfl fun i d hd => ⟨_, rfl, fun _ _ _ _ _ => ev_ix (evq_t (xs := [c.P d.1, .int (d.2 : Nat)]) (ev_var 3)) ev_int (atN (i := 1) rfl)⟩) ?_ rfl nd (blkOk_by (N := N_squarefree_parts) (sc := defScope s_squarefree_parts) (by decide +kernel))).is ?_)) ?_ ?_ ?_)).is ?_))
      ⟨fun _ _ _ _ _ => evg_one 2 nd, fun _ _ _ _ _ => evg_one 3 nd, rfl, rfl, by decide, fun i x hx => ⟨_, rfl, ?_, fun _ _ _ _ _ => evi_list (ev_var 1), fun j y hy => ⟨_, rfl, fun _ _ _ _ _ => ⟨evts_one ((evt_eq (ev_ix (evq_t (xs := [c.P y.1, .int (y.2 : Nat)]) (ev_var 3)) ev_int (atN (i := 1) rfl)) (ev_var 2)).is ?_), fun _ => ev_var 3⟩⟩⟩⟩
      (by omega) ?_ rfl nd (blkOk_by (N := N_squarefree_parts) (sc := defScope s_squarefree_parts) (by decide +kernel))))).is ?_)))))
    · rw [e1, List.length_map]
      omega
    · rw [e1, List.map_map, List.map_map]
      rfl
    · rw [List.length_map]
      omega
    · exact pm.map _
    · refine List.pairwise_map.mpr ((List.Pairwise.filter _ (show [1, 2, 3].Pairwise (fun (a b : Nat) => a ≤ b) by decide)).imp fun {a b} q => by omega)
    · rw [List.map_map]
      rfl
    · exact noOwn rfl
    · by_cases z : y.2 = x
      · rw [decide_eq_true z, decide_eq_true (by omega)]
      · rw [decide_eq_false z, decide_eq_false (by omega)]
    · rw [e1, List.length_map]
      omega
    · rw [e1]
      congr 1
      refine flat_one_of fun k hk => ?_
      unfold lc2F
      rw [filter_key _ ok1.nd ((ok1.iff k).mpr ((ok2.iff k).mp hk)), Mf_gsk]
      rfl
end
end FM
set_option autoImplicit false
namespace FM
open PySem PySem.Spec PyProof.Rows L2 LamX Pol
theorem evs_expr {L : Lc} {X : Cx} {S : SlS} {e : Expr} {pos : Pos} {d : D} (h : EvE L X e S d) (hw : swapsWith e none pos.line X.env = pure false := by rfl) : EvS L X (.Expr e pos) S (.nx S) :=
  PS.imp (ps_expr h hw) fun D σ H ⟨B, G, R, q⟩ => ⟨G, R.r, fun G' H' v g _ => q σ H' G' g.gg (R.grow g)⟩
theorem wf_of {K : Type} [Fd K] {gs : List (Pol K)} (w : WG gs) : WF (gs.map fun g => (g, 1)) where
  irr := fun x hx => by
    obtain ⟨g, hg, rfl⟩ := List.mem_map.mp hx
    exact w.irr g hg
  mo := fun x hx => by
    obtain ⟨g, hg, rfl⟩ := List.mem_map.mp hx
    exact w.mo g hg
  ne := List.pairwise_map.mpr w.ne
theorem prodP_Mf {K : Type} [Fd K] : ∀ gs : List (Pol K), Mf (fun e => e) (gs.map fun g => (g, 1)) = prodP gs
  | [] => rfl
  | g :: gs => by
    rw [List.map_cons, Mf, prodP_Mf gs, prodP]
    grind
theorem prodP_sqf {K : Type} [Fd K] {p s : Nat} (H : Chp K p s) {gs : List (Pol K)} (w : WG gs) : IsG 1 (prodP gs) (der (prodP gs)) := by
  have h := Mf_gder H (fun e => e) (wf_of w)
  rw [prodP_Mf] at h
  have e : Mf (rA p fun e => e) (gs.map fun g => (g, 1)) = 1 := Mf_one fun x hx => by
    obtain ⟨g, hg, rfl⟩ := List.mem_map.mp hx
    unfold rA
    have : 1 % p ≠ 0 := by
      rcases H.hp with h | h | h <;> subst h <;> decide
    rw [if_neg this]
    rfl
  rw [e] at h
  exact h
inductive R_checked : List D → D → Prop
  | mk (c : FC) (gs : List (Pol (Kq c))) (w : WG gs) (h : gs ≠ []) (hl : (prodP gs).len ≤ 30) : R_checked [c.P (prodP gs)] .non
inductive R_padded : List D → D → Prop
  | mk (c : FC) (a : Pol (Kq c)) (n : Nat) (h : n ≤ 100) : R_padded [c.P a, .int (n : Nat)] (c.eR ((List.range n).map a.c))
inductive R_fixed_space : List D → D → Prop
  | mk (c : FC) (gs : List (Pol (Kq c))) (m : Nat) (w : WG gs) (h : gs ≠ []) (hm : (prodP gs).len = m + 1) (hl : m ≤ 29) : R_fixed_space [c.P (prodP gs)] (.tup ((basisP (prodP gs) c.T.q m).map c.P))
section
variable {P : Program} {w : World} {K : PySem.W.Frag} {mg : Str → Option Value} {base : Heap} {L : Lc} {f : Addr} {fd : FuncData}
theorem sc_checked : FnScope ["f"] ["f"] (defScope s_checked) := ⟨rfl, rfl, rfl, by decide +kernel, rfl, by decide +kernel, by decide +kernel⟩
theorem ok_checked (T : Txt K mg L) (C1 : MtC P w K mg base L L.CP "degree" 1 ["self"] R_P_degree) (C2 : MtC P w K mg base L L.CP "leading" 2 ["self"] R_P_leading) (C3 : MtC P w K mg base L L.CF "one" 3 ["self"] R_F_one) (C4 : FnC P w K mg base L "is_squarefree" 8 ["f"] R_is_squarefree) (F : FunS K "checked" "checked" s_checked f fd) : FnOk P w K mg base CX0 9 f fd ["f"] (spD L R_checked) := by
  refine fn_ev F sc_checked (fun ds r h => by cases h <;> rfl) fun cdv A outer s H E hr ds r h => ?_
  cases h with
  | mk c gs w h hl =>
    have hr1 : Room 1 _ := hr.mono (by decide)
    have hr2 : Room 2 _ := hr.mono (by decide)
    have hr3 : Room 3 _ := hr.mono (by decide)
    have m := prodP_mo w.mo
    have l2 : 2 ≤ (prodP gs).len := by
      have := len_pos m.ne
      have : (prodP gs).len ≠ 1 := fun z => h ((fil_len w).mp z)
      omega
    have hlc : (prodP gs).lc = 1 := m
    have hq := R_P_leading.mk c (prodP gs) m.ne
    rw [hlc] at hq
    refine .fall (evb_one (evs_ifF (EvT.is (EvW.t (evw_or (evt_lt (ev_methP0 T.cls C1 hr1 (ev_var 0) (.mk c _)) ev_int) fun _ => evw_or (evt_neT (xs := c.e 1) (ys := c.e 1) hr.units (ev_methP0 T.cls C2 hr2 (ev_var 0) hq) (ev_methF0 T.cls C3 hr3 (ev_pol_f T.cls (ev_var 0)) (.mk c))) fun _ => evw_or1 (evt_not (evt_val (ev_call C4 hr (eva_cons (ev_var 0) eva_nil) (.mk c _ m.ne hl (prodP_sqf c.chp w))))))) ?_) evb_nil))
    rw [decide_eq_false (show ¬ ((prodP gs).len : Int) - 1 < 1 by omega)]
    simp
abbrev N_padded : List Str := ["f", "size", "k"]
theorem sc_padded : FnScope N_padded ["f", "size"] (defScope s_padded) := ⟨rfl, rfl, rfl, by decide +kernel, rfl, by decide +kernel, by decide +kernel⟩
theorem ok_padded (T : Txt K mg L) (C1 : MtC P w K mg base L L.CP "coefficient" 2 ["self", "k"] R_P_coefficient) (F : FunS K "padded" "padded" s_padded f fd) : FnOk P w K mg base CX0 3 f fd ["f", "size"] (spD L R_padded) := by
  refine fn_ev F sc_padded (fun ds r h => by cases h <;> rfl) fun cdv A outer s H E hr ds r h => ?_
  cases h with
  | mk c a n hn =>
    have nd := sc_padded.nd
    refine .ret (evb_one (evs_ret ((ev_tupleL T.tuple (evq_n (evn_lc (own := [("k", 2)]) (t := .one 2) (xs := List.range n) (en := fun (i : Nat) => .int (0 + (i : Int) * 1)) (f := fun i => c.eK (a.c i)) ((evi_range1 T.range (ev_var 1) (by omega)).is (by rw [Int.toNat_natCast, irng_map])) (lcb (fun _ _ _ _ _ => evg_one 2 nd) rfl fun i d hd => ⟨_, rfl, fun _ _ _ _ _ => ev_methP T.cls C1 hr (ev_var 0) (eva_cons ((ev_var 2).is (c := .int (d : Nat)) (by congr 1; omega)) eva_nil) (.mk c a d)⟩) (by rw [List.length_range]; omega) rfl nd (blkOk_by (N := N_padded) (sc := defScope s_padded) (by decide +kernel))))).is ?_)))
    unfold FC.eR
    rw [List.map_map]
    rfl
abbrev N_fixed_space : List Str := ["f", "field", "size", "step", "power", "rows", "k", "columns", "basis", "j", "row"]
theorem sc_fixed_space : FnScope N_fixed_space ["f"] (defScope s_fixed_space) := ⟨rfl, rfl, rfl, by decide +kernel, rfl, by decide +kernel, by decide +kernel⟩
theorem ok_fixed_space (T : Txt K mg L) (MP : MkC P w K mg base L "Poly" L.CP 3 ["self", "field", "row"] R_Poly) (C1 : FnC P w K mg base L "checked" 9 ["f"] R_checked) (C2 : MtC P w K mg base L L.CP "degree" 1 ["self"] R_P_degree) (C3 : FnC P w K mg base L "variable" 6 ["field"] R_variable) (C4 : MtC P w K mg base L L.CP "power_modulo" 7 ["self", "k", "m"] R_P_power_modulo) (C5 : FnC P w K mg base L "constant" 5 ["field", "a"] R_constant) (C6 : MtC P w K mg base L L.CF "one" 3 ["self"] R_F_one) (C7 : FnC P w K mg base L "padded" 3 ["f", "size"] R_padded) (C8 : FnC P w K mg base L "monomial" 5 ["field", "a", "k"] R_monomial) (C9 : FnC P w K mg base L "reduced" 6 ["field", "rows", "width"] R_reduced) (C10 : FnC P w K mg base L "kernel" 7 ["field", "rows", "width"] R_kernel)
    (O1 : OpC P w K mg base L .Mult 5 ["self", "other"] R_P_mul) (O2 : OpC P w K mg base L .Mod 6 ["self", "other"] R_P_mod) (O3 : OpC P w K mg base L .Sub 5 ["self", "other"] R_P_sub) (F : FunS K "fixed_space" "fixed_space" s_fixed_space f fd) : FnOk P w K mg base CX0 10 f fd ["f"] (spD L R_fixed_space) := by
  refine fn_ev F sc_fixed_space (fun ds r h => by cases h <;> rfl) fun cdv A outer s H E hr ds r h => ?_
  cases h with
  | mk c gs m w hne hm hl =>
    have nd := sc_fixed_space.nd
    have hr1 : Room 1 _ := hr.mono (by decide)
    have hr3 : Room 3 _ := hr.mono (by decide)
    have hr4 : Room 4 _ := hr.mono (by decide)
    have hr5 : Room 5 _ := hr.mono (by decide)
    have hr6 : Room 6 _ := hr.mono (by decide)
    have hr7 : Room 7 _ := hr.mono (by decide)
    have mo := prodP_mo w.mo
    generalize hF : prodP gs = F at hm mo
    have fn := mo.ne
    let q := c.T.q
    have q9 := c.g0.2.2.2.2.1
    have rl : ∀ a : Pol (Kq c), (rem a F).len ≤ 30 := fun a => by
      have := (div_spec a fn).2
      omega
    have lX : (X : Pol (Kq c)).len = 2 := by
      have := (X_pow_mo (K := Kq c) 1).2
      rwa [show (X ^ 1 : Pol (Kq c)) = X from by grind] at this
    have h1 := R_checked.mk c gs w hne (by rw [hF]; omega)
    rw [hF] at h1
    let row : Nat → List (Kq c) := fun k => (List.range m).map (rowB F q k).c
    let W : Nat → SlS := fun t => [.val (c.P F), .val (.fld c.d), .val (.int (m : Nat)), .val (c.P (rem (X ^ q) F)), .val (c.P (rem (X ^ (t * q)) F)), .own ((List.range t).map fun k => c.eR (row k)), .any, .any, .any, .any, .any]
    have e0 : rem (X ^ (0 * q)) F = rem (C 1) F := by
      rw [Nat.zero_mul, C_one, show (X : Pol (Kq c)) ^ 0 = 1 from by grind]
    refine .ret (evb_cons (evs_expr (ev_call C1 hr (eva_cons (ev_var 0) eva_nil) h1)) (evb_cons (evs_set 1 (d := .fld c.d) (ev_pol_f T.cls (ev_var 0)) nd) (evb_cons (evs_set 2 (d := .int (m : Nat)) ((ev_methP0 T.cls C2 hr1 (ev_var 0) (.mk c F)).is (by rw [hm]; congr 1; omega)) nd) (evb_cons (evs_set 3 (ev_methP T.cls C4 hr7 (ev_call C3 hr6 (eva_cons (ev_var 1) eva_nil) (.mk c)) (eva_cons (ev_fld_q (F := c.d) T.cls (ev_var 1)) (eva_cons (ev_var 0) eva_nil)) (.mk c X F q (by omega) (by omega) fn)) nd) (evb_cons (evs_set 4 (ev_opP O2 hr6 (ev_call C5 hr5 (eva_cons (ev_var 1) (eva_cons (ev_methF0 T.cls C6 hr3 (ev_var 1) (.mk c)) eva_nil)) (.mk c 1)) (ev_var 0) (.mk c (C 1) F (by rw [len_C Fd.one_ne]; omega) (by omega) fn)) nd) (evb_cons (evs_setn 5 (evn_lst eva_nil) nd) (evb_cons (evs_pre (S1 := W 0) ?_ (evs_forN (lo := 0) (c := 1) (n := m) (t := .one 6) (W := W) ((evi_range1 T.range (ev_var 2) (by omega)).is (by rw [Int.toNat_natCast])) (evg_one 6 nd) PassesOwn.never rfl fun t ht => ?_)) (evb_frz 5 rfl ?_))))))))
    · show Weak _ [_, _, _, _, .val (c.P (rem (X ^ (0 * q)) F)), _, _, _, _, _, _]
      rw [e0]
      exact .same (.same (.same (.same (.same (.same (.any (.any (.any (.any (.any .nil))))))))))
    · rw [show (0 : Int) + (t : Int) * 1 = (t : Int) by omega]
      have m1 := R_monomial.mk c 1 t (by omega)
      rw [show (C (1 : Kq c) * X ^ t : Pol (Kq c)) = X ^ t from by rw [C_one]; grind] at m1
      have lt := (X_pow_mo (K := Kq c) t).2
      have l1 := rl (X ^ (t * q))
      have l2 := rl (X ^ q)
      have lmul := mul_len_le (rem (X ^ (t * q)) F) (rem (X ^ q) F) (n := 30) l1 l2
      have e2 : rem (rem (X ^ (t * q)) F * rem (X ^ q) F) F = rem (X ^ ((t + 1) * q)) F := by
        rw [rem_mul fn]
        congr 1
        rw [Nat.succ_mul]
        grind
      refine ⟨_, _, rfl, evb_weak (evb_cons (evs_append 5 (ev_call C7 hr3 (eva_cons (ev_opP O3 hr5 (ev_var 4) (ev_call C8 hr5 (eva_cons (ev_var 1) (eva_cons (ev_methF0 T.cls C6 hr3 (ev_var 1) (.mk c)) (eva_cons (ev_var 6) eva_nil))) m1) (.mk c _ _ (by omega) (by omega))) (eva_cons (ev_var 2) eva_nil)) (.mk c _ m (by omega))) rfl (by rw [List.length_map, List.length_range]; omega)) (evb_one (evs_set 4 (ev_opP O2 hr6 (ev_opP O1 hr5 (ev_var 4) (ev_var 3) (.mk c _ _ (by omega) (by omega))) (ev_var 0) (.mk c _ F (by omega) (by omega) fn)) nd))) ?_, .inl rfl⟩
      rw [e2]
      show Weak [_, _, _, _, _, Sl.own _, _, _, _, _, _] [_, _, _, _, _, Sl.own ((List.range (t + 1)).map _), _, _, _, _, _]
      rw [List.range_succ, List.map_append]
      exact .same (.same (.same (.same (.same (.same (.any (.any (.any (.any (.any .nil))))))))))
    · have kl : ∀ r ∈ kerL (colB F q m) m, r.length = m := fun r hr => (ker_sol (colB_len _ _ _) r hr).1
      have lk : (kerL (colB F q m) m).length ≤ m := by
        unfold kerL free
        rw [List.length_map]
        have := List.length_filter_le (fun c' => !decide (c' ∈ (redS (colB F q m) m).piv)) (List.range m)
        rwa [List.length_range] at this
      have I := redS_I kl m (Nat.le_refl _)
      have lc : (colB F q m).length = m := by
        unfold colB
        rw [List.length_map, List.length_range]
      have itm : ∀ k j : Nat, j < m → ((row k).map c.eK)[j]? = some (c.eK ((rowB F q k).c j)) := fun k j hj => by
        rw [List.getElem?_map, List.getElem?_map, List.getElem?_range hj]
        rfl
      have bo : BlkOk N_fixed_space { kind := .function, names := [(".0", .local), ("j", .cell), ("tuple", .globalImplicit), ("rows", .cell)], isGenerator := false, isCoroutine := false } { kind := .function, names := [(".0", .local), ("row", .local), ("j", .free)], isGenerator := false, isCoroutine := false } [("row", 10)] := blkOk_by (by decide +kernel)
      refine evb_cons (evs_set 7 (d := c.eRR (colB F q m)) ((ev_tupleL T.tuple (evq_n (evn_lc (own := [("j", 9)]) (t := .one 9) (xs := List.range m) (en := fun (i : Nat) => .int (0 + (i : Int) * 1)) (f := fun j => c.eR ((List.range m).map fun k => (rowB F q k).c j)) ((evi_range1 T.range (ev_var 2) (by omega)).is (by rw [Int.toNat_natCast, irng_map]))
        (lcb (fun _ _ _ _ _ => evg_one 9 nd) rfl fun i j hj => ⟨_, rfl, fun _ _ _ _ _ => (ev_tupleL T.tuple (evq_n (evn_lc (own := [("row", 10)]) (t := .one 10) (xs := List.range m) (en := fun k => c.eR (row k)) (f := fun k => c.eK ((rowB F q k).c j)) (evi_list (ev_var 5)) (lcb (fun _ _ _ _ _ => evg_one 10 nd) rfl fun i2 k hk => ⟨_, rfl, fun _ _ _ _ _ => ev_ix (evq_t (xs := (row k).map c.eK) (ev_var 10)) (ev_var 9) (atI_of (j := j) (by omega) (itm k j (List.mem_range.mp (List.mem_of_getElem? hj))))⟩) (by rw [List.length_range]; omega) rfl nd bo))).is ?_⟩) (by rw [List.length_range]; omega) rfl nd (blkOk_by (N := N_fixed_space) (sc := defScope s_fixed_space) (by decide +kernel))))).is ?_) nd)
        (evb_cons (evs_set 8 (d := c.eRR (basisL F q m)) (ev_ix (evq_t (ev_call C9 hr6 (eva_cons (ev_var 1) (eva_cons (ev_call C10 hr7 (eva_cons (ev_var 1) (eva_cons (ev_var 7) (eva_cons (ev_var 2) eva_nil))) (.mk c _ m (colB_len F q m) (by omega) (by omega))) (eva_cons (ev_var 2) eva_nil))) (.mk c _ m kl (by omega) (by omega)))) ev_int (atN (i := 0) rfl)) nd)
        (evb_one (evs_ret ((ev_tupleL T.tuple (evq_n (evn_lc (own := [("row", 10)]) (t := .one 10) (xs := basisL F q m) (en := c.eR) (f := fun r => c.P (mkP r)) (evi_tup (ev_var 8)) (lcb (fun _ _ _ _ _ => evg_one 10 nd) rfl fun i r hr' => ⟨_, rfl, fun _ _ _ _ _ => ev_make MP hr4 (eva_cons (ev_var 1) (eva_cons (ev_new (evn_list T.list (evq_t (xs := r.map c.eK) (ev_var 10)))) eva_nil)) (.mk c true r (by have := I.ld r (List.mem_of_getElem? hr'); omega))⟩) ?_ rfl nd (blkOk_by (N := N_fixed_space) (sc := defScope s_fixed_space) (by decide +kernel))))).is ?_))))
      · unfold FC.eR
        rw [List.map_map]
        rfl
      · unfold FC.eRR colB
        rw [List.map_map]
        rfl
      · have := I.cnt
        show (redS (kerL (colB F q m) m) m).done.length ≤ _
        omega
      · unfold basisP
        rw [List.map_map]
        rfl
end
end FM
set_option autoImplicit false
namespace FM
open PySem PySem.Spec PyProof.Rows L2 LamX Pol
/-! ## the law's own arithmetic -/
def dig (p n v : Nat) : List Int := (List.range n).map fun i => ((v / p ^ i % p : Nat) : Int)
inductive R_law_member : List D → D → Prop
  | mk (p n v : Nat) (hp : 2 ≤ p) (hp2 : p ≤ 100) (hn : n ≤ 100) : R_law_member [.int (p : Nat), .int (n : Nat), .int (v : Nat)] (tI (dig p n v))
inductive R_law_number : List D → D → Prop
  | mk (c : FC) (a : Kq c) : R_law_number [.int c.d.p, c.eK a] (.int (a.v : Nat))
inductive R_law_add : List D → D → Prop
  | mk (c : FC) (a b : Kq c) : R_law_add [.fld c.d, c.eK a, c.eK b] (c.eK (a + b))
inductive R_law_minus : List D → D → Prop
  | mk (c : FC) (a : Kq c) : R_law_minus [.fld c.d, c.eK a] (c.eK (-a))
inductive R_law_zero : List D → D → Prop
  | mk (c : FC) : R_law_zero [.fld c.d] (c.eK 0)
inductive R_law_one : List D → D → Prop
  | mk (c : FC) : R_law_one [.fld c.d] (c.eK 1)
inductive R_law_trim : List D → D → Prop
  | mk (c : FC) (l : List (Kq c)) (h : l.length ≤ 1000) : R_law_trim [.fld c.d, c.eL l] (c.eL (trK l))
inductive R_law_count : List D → D → Prop
  | mk (c : FC) (n : Nat) (h : n ≤ 20) : R_law_count [.fld c.d, .int (n : Nat)] (.int ((c.T.q ^ n : Nat) : Int))
theorem FC.lt_mod (c : FC) (v : Nat) : v % c.T.q < c.T.q := Nat.mod_lt _ c.q0
def FC.mem_ (c : FC) (v : Nat) : Kq c := ⟨v % c.T.q, c.lt_mod v⟩
/-- the monic row with a number -/
def lmon (c : FC) (d v : Nat) : List (Kq c) := ((List.range d).map fun i => c.mem_ (v / c.T.q ^ i)) ++ [1]
inductive R_law_monic : List D → D → Prop
  | mk (c : FC) (n v : Nat) (h : n ≤ 20) : R_law_monic [.fld c.d, .int (n : Nat), .int (v : Nat)] (c.eL (lmon c n v))
section
variable {P : Program} {w : World} {K : PySem.W.Frag} {mg : Str → Option Value} {base : Heap} {L : Lc} {f : Addr} {fd : FuncData}
theorem FC.dig_e (c : FC) (v : Nat) (h : v < c.T.q) : tI (dig c.T.p c.T.n v) = c.eK ⟨v, h⟩ := rfl
theorem FC.k_member (c : FC) (v : Nat) (h : v < c.T.q) : R_law_member [.int c.d.p, .int c.d.n, .int (v : Nat)] (c.eK ⟨v, h⟩) := .mk c.T.p c.T.n v (by have := c.g0.1; omega) (by have := c.g0.1; omega) (by have := c.g0.2.2.1; omega)
abbrev N_law_member : List Str := ["_law_p", "_law_n", "_law_number_here", "_law_found", "_law_k"]
theorem sc_law_member : FnScope N_law_member ["_law_p", "_law_n", "_law_number_here"] (defScope s__law_member) := ⟨rfl, rfl, rfl, by decide +kernel, rfl, by decide +kernel, by decide +kernel⟩
theorem ok_law_member (T : Txt K mg L) (F : FunS K "_law_member" "_law_member" s__law_member f fd) : FnOk P w K mg base CX0 1 f fd ["_law_p", "_law_n", "_law_number_here"] (spD L R_law_member) := by
  refine fn_ev F sc_law_member (fun ds r h => by cases h <;> rfl) fun cdv A outer s H E hr ds r h => ?_
  cases h with
  | mk p n v hp hp2 hn =>
    have nd := sc_law_member.nd
    refine .ret (evb_cons (evs_setn 3 (evn_lst eva_nil) nd) (evb_cons (evs_pre (S1 := [.val (.int (p : Nat)), .val (.int (n : Nat)), .val (.int ((v / p ^ 0 : Nat) : Int)), .own ((dig p 0 v).map .int), .any]) ?_ (evs_forN (lo := 0) (c := 1) (n := n) (t := .one 4) (W := fun i => [.val (.int (p : Nat)), .val (.int (n : Nat)), .val (.int ((v / p ^ i : Nat) : Int)), .own ((dig p i v).map .int), .any]) ((evi_range1 T.range (ev_var 1) (by omega)).is (by rw [Int.toNat_natCast])) (evg_one 4 nd) PassesOwn.never rfl fun i hi => ?_)) (evb_one (evs_ret (ev_tupleL T.tuple (evq_own 3))))))
    · rw [Nat.pow_zero, Nat.div_one]
      exact .same (.same (.same (.same (.any .nil))))
    · refine ⟨_, _, rfl, evb_weak (evb_cons (evs_append 3 (d := .int ((v / p ^ i % p : Nat) : Int)) ((ev_mod (ev_var 2) (ev_var 0) (by omega)).is ?_) rfl ?_) (evb_one (evs_set 2 (d := .int ((v / p ^ (i + 1) : Nat) : Int)) ((ev_fdiv (ev_var 2) (ev_var 0) ⟨by omega, by omega⟩).is ?_) nd))) ?_, .inl rfl⟩
      · rw [Int.natCast_emod]
      · unfold dig
        rw [List.length_map, List.length_map, List.length_range]
        omega
      · rw [Nat.pow_succ, ← Nat.div_div_eq_div_mul, Int.natCast_ediv (v / p ^ i) p]
      · show Weak [_, _, _, Sl.own _, _] [_, _, _, Sl.own _, _]
        have e : ((dig p i v).map D.int) ++ [D.int ((v / p ^ i % p : Nat) : Int)] = (dig p (i + 1) v).map .int := by
          unfold dig
          rw [List.range_succ, List.map_append, List.map_append]
          rfl
        rw [e]
        exact .same (.same (.same (.same (.any .nil))))
theorem sc_law_zero : FnScope ["_law_field_here"] ["_law_field_here"] (defScope s__law_zero) := ⟨rfl, rfl, rfl, by decide +kernel, rfl, by decide +kernel, by decide +kernel⟩
theorem ok_law_zero (T : Txt K mg L) (C1 : FnC P w K mg base L "_law_member" 1 ["_law_p", "_law_n", "_law_number_here"] R_law_member) (F : FunS K "_law_zero" "_law_zero" s__law_zero f fd) : FnOk P w K mg base CX0 2 f fd ["_law_field_here"] (spD L R_law_zero) := by
  refine fn_ev F sc_law_zero (fun ds r h => by cases h <;> rfl) fun cdv A outer s H E hr ds r h => ?_
  cases h with
  | mk c => exact .ret (evb_one (evs_ret (ev_call C1 hr (eva_cons (ev_fld_p T.cls (ev_var 0)) (eva_cons (ev_fld_n T.cls (ev_var 0)) (eva_cons ev_int eva_nil))) (c.k_member 0 c.q0))))
theorem sc_law_one : FnScope ["_law_field_here"] ["_law_field_here"] (defScope s__law_one) := ⟨rfl, rfl, rfl, by decide +kernel, rfl, by decide +kernel, by decide +kernel⟩
theorem ok_law_one (T : Txt K mg L) (C1 : FnC P w K mg base L "_law_member" 1 ["_law_p", "_law_n", "_law_number_here"] R_law_member) (F : FunS K "_law_one" "_law_one" s__law_one f fd) : FnOk P w K mg base CX0 2 f fd ["_law_field_here"] (spD L R_law_one) := by
  refine fn_ev F sc_law_one (fun ds r h => by cases h <;> rfl) fun cdv A outer s H E hr ds r h => ?_
  cases h with
  | mk c =>
    refine .ret (evb_one (evs_ret ((ev_call C1 hr (eva_cons (ev_fld_p T.cls (ev_var 0)) (eva_cons (ev_fld_n T.cls (ev_var 0)) (eva_cons ev_int eva_nil))) (c.k_member 1 c.q1)).is ?_)))
    rw [show (⟨1, c.q1⟩ : Kq c) = 1 from Kq.ext (by rw [c.v_one])]
abbrev N_law_minus : List Str := ["_law_field_here", "_law_a", "_law_x"]
theorem sc_law_minus : FnScope N_law_minus ["_law_field_here", "_law_a"] (defScope s__law_minus) := ⟨rfl, rfl, rfl, by decide +kernel, rfl, by decide +kernel, by decide +kernel⟩
theorem ok_law_minus (T : Txt K mg L) (F : FunS K "_law_minus" "_law_minus" s__law_minus f fd) : FnOk P w K mg base CX0 1 f fd ["_law_field_here", "_law_a"] (spD L R_law_minus) := by
  refine fn_ev F sc_law_minus (fun ds r h => by cases h <;> rfl) fun cdv A outer s H E hr ds r h => ?_
  cases h with
  | mk c a =>
    have nd := sc_law_minus.nd
    refine .ret (evb_one (evs_ret (EvE.is (ev_tupleL T.tuple (evq_n (evn_lc (own := [("_law_x", 2)]) (t := .one 2) (xs := c.e a) (en := .int) (f := fun x => .int (-x % c.d.p)) (evi_tup (xs := (c.e a).map .int) (ev_var 1))
      (lcb (fun _ _ _ _ _ => evg_one 2 nd) rfl fun i d hd => ⟨_, rfl, fun _ _ _ _ _ => ev_mod (ev_neg (ev_var 2)) (ev_fld_p T.cls (ev_var 0)) c.pp.pos⟩) (by have := c.e_le a; omega) rfl nd (blkOk_by (N := N_law_minus) (sc := defScope s__law_minus) (by decide +kernel))))) ?_)))
    unfold FC.eK tI
    rw [← (c.g5 a).1, List.map_map]
    rfl
abbrev N_law_add : List Str := ["_law_field_here", "_law_a", "_law_b", "_law_k"]
theorem sc_law_add : FnScope N_law_add ["_law_field_here", "_law_a", "_law_b"] (defScope s__law_add) := ⟨rfl, rfl, rfl, by decide +kernel, rfl, by decide +kernel, by decide +kernel⟩
theorem FC.e_get (c : FC) (a : Kq c) {k : Nat} (h : k < c.T.n) : ((c.e a).map D.int)[k]? = some (.int ((c.e a).getD k 0)) := by
  rw [List.getElem?_map, get_of 0 (by rw [c.e_len]; exact h)]
  rfl
theorem ok_law_add (T : Txt K mg L) (F : FunS K "_law_add" "_law_add" s__law_add f fd) : FnOk P w K mg base CX0 1 f fd ["_law_field_here", "_law_a", "_law_b"] (spD L R_law_add) := by
  refine fn_ev F sc_law_add (fun ds r h => by cases h <;> rfl) fun cdv A outer s H E hr ds r h => ?_
  cases h with
  | mk c a b =>
    have nd := sc_law_add.nd
    have n3 := c.nn
    have cn : c.d.n = (c.T.n : Int) := rfl
    refine .ret (evb_one (evs_ret (EvE.is (ev_tupleL T.tuple (evq_n (evn_lc (own := [("_law_k", 3)]) (t := .one 3) (xs := List.range c.T.n) (en := fun (i : Nat) => .int (0 + (i : Int) * 1)) (f := fun k => .int (((c.e a).getD k 0 + (c.e b).getD k 0) % c.d.p)) ((evi_range1 T.range (ev_fld_n T.cls (ev_var 0)) (by omega)).is (by rw [cn, Int.toNat_natCast, irng_map]))
      (lcb (fun _ _ _ _ _ => evg_one 3 nd) rfl fun i k hk => ⟨_, rfl, fun _ _ _ _ _ => ev_mod (ev_add (ev_ix (evq_t (xs := (c.e a).map .int) (ev_var 1)) (ev_var 3) (d := .int ((c.e a).getD k 0)) (atI_of (j := k) (by omega) (c.e_get a (List.mem_range.mp (List.mem_of_getElem? hk))))) (ev_ix (evq_t (xs := (c.e b).map .int) (ev_var 2)) (ev_var 3) (d := .int ((c.e b).getD k 0)) (atI_of (j := k) (by omega) (c.e_get b (List.mem_range.mp (List.mem_of_getElem? hk)))))) (ev_fld_p T.cls (ev_var 0)) c.pp.pos⟩) (by rw [List.length_range]; omega) rfl nd (blkOk_by (N := N_law_add) (sc := defScope s__law_add) (by decide +kernel))))) ?_)))
    unfold FC.eK tI
    rw [← (c.g4 a b).2.1, List.map_map]
    congr 1
    refine List.ext_getElem ?_ fun i h1 h2 => ?_
    · rw [List.length_map, List.length_range, List.length_map, List.length_zip, c.e_len, c.e_len]
      omega
    · have hi : i < c.T.n := by rwa [List.length_map, List.length_range] at h1
      rw [List.getElem_map, List.getElem_map, List.getElem_range, List.getElem_zip]
      rw [List.getD_eq_getElem?_getD, List.getD_eq_getElem?_getD, List.getElem?_eq_getElem (by rw [c.e_len]; exact hi), List.getElem?_eq_getElem (by rw [c.e_len]; exact hi)]
      rfl
abbrev N_law_count : List Str := ["_law_field_here", "_law_degree", "_law_total", "_law_turn"]
theorem sc_law_count : FnScope N_law_count ["_law_field_here", "_law_degree"] (defScope s__law_count) := ⟨rfl, rfl, rfl, by decide +kernel, rfl, by decide +kernel, by decide +kernel⟩
theorem ok_law_count (T : Txt K mg L) (F : FunS K "_law_count" "_law_count" s__law_count f fd) : FnOk P w K mg base CX0 1 f fd ["_law_field_here", "_law_degree"] (spD L R_law_count) := by
  refine fn_ev F sc_law_count (fun ds r h => by cases h <;> rfl) fun cdv A outer s H E hr ds r h => ?_
  cases h with
  | mk c n hn =>
    have nd := sc_law_count.nd
    have q9 := c.g0.2.2.2.2.1
    refine .ret (evb_cons (evs_set 2 ev_int nd) (evb_cons (evs_pre (S1 := [.val (.fld c.d), .val (.int (n : Nat)), .val (.int ((c.T.q ^ 0 : Nat) : Int)), .any]) ?_ (evs_forN (lo := 0) (c := 1) (n := n) (t := .one 3) (W := fun i => [.val (.fld c.d), .val (.int (n : Nat)), .val (.int ((c.T.q ^ i : Nat) : Int)), .any]) ((evi_range1 T.range (ev_var 1) (by omega)).is (by rw [Int.toNat_natCast])) (evg_one 3 nd) PassesOwn.never rfl fun i hi => ?_)) (evb_one (evs_ret (ev_var 2)))))
    · rw [Nat.pow_zero]
      exact .same (.same (.same (.any .nil)))
    refine ⟨_, _, rfl, evb_weak (evb_one (evs_set 2 (d := .int ((c.T.q ^ (i + 1) : Nat) : Int)) ((ev_mul (ev_var 2) (ev_fld_q T.cls (ev_var 0)) (.inr ⟨?_, ?_⟩)).is ?_) nd)) (.same (.same (.same (.any .nil)))), .inl rfl⟩
    · show _ < (c.T.q : Int)
      omega
    · show (c.T.q : Int) < _
      omega
    · rw [Nat.pow_succ, Int.natCast_mul]
      rfl
abbrev N_law_monic : List Str := ["_law_field_here", "_law_degree", "_law_number_here", "_law_row", "_law_k"]
theorem sc_law_monic : FnScope N_law_monic ["_law_field_here", "_law_degree", "_law_number_here"] (defScope s__law_monic) := ⟨rfl, rfl, rfl, by decide +kernel, rfl, by decide +kernel, by decide +kernel⟩
theorem ok_law_monic (T : Txt K mg L) (C1 : FnC P w K mg base L "_law_member" 1 ["_law_p", "_law_n", "_law_number_here"] R_law_member) (C2 : FnC P w K mg base L "_law_one" 2 ["_law_field_here"] R_law_one) (F : FunS K "_law_monic" "_law_monic" s__law_monic f fd) : FnOk P w K mg base CX0 3 f fd ["_law_field_here", "_law_degree", "_law_number_here"] (spD L R_law_monic) := by
  refine fn_ev F sc_law_monic (fun ds r h => by cases h <;> rfl) fun cdv A outer s H E hr ds r h => ?_
  cases h with
  | mk c n v hn =>
    have nd := sc_law_monic.nd
    have hr1 : Room 1 _ := hr.mono (by decide)
    have q9 := c.g0.2.2.2.2.1
    have q2 := c.q2
    let O : Nat → List (Kq c) := fun i => (List.range i).map fun i => c.mem_ (v / c.T.q ^ i)
    refine .ret (evb_cons (evs_setn 3 (evn_lst eva_nil) nd) (evb_cons (evs_pre (S1 := [.val (.fld c.d), .val (.int (n : Nat)), .val (.int ((v / c.T.q ^ 0 : Nat) : Int)), .own ((O 0).map c.eK), .any]) ?_ (evs_forN (lo := 0) (c := 1) (n := n) (t := .one 4) (W := fun i => [.val (.fld c.d), .val (.int (n : Nat)), .val (.int ((v / c.T.q ^ i : Nat) : Int)), .own ((O i).map c.eK), .any]) ((evi_range1 T.range (ev_var 1) (by omega)).is (by rw [Int.toNat_natCast])) (evg_one 4 nd) PassesOwn.never rfl fun i hi => ?_)) (evb_one (evs_ret ((ev_new (evn_cat (evq_own 3) (evq_n (evn_lst (eva_cons (ev_call C2 hr (eva_cons (ev_var 0) eva_nil) (.mk c)) eva_nil))) ?_)).is ?_)))))
    · rw [Nat.pow_zero, Nat.div_one]
      exact .same (.same (.same (.same (.any .nil))))
    · have em : ((v / c.T.q ^ i : Nat) : Int) % c.d.q = (((v / c.T.q ^ i) % c.T.q : Nat) : Int) := by rw [Int.natCast_emod]; rfl
      refine ⟨_, _, rfl, evb_weak (evb_cons (evs_append 3 (ev_call C1 hr1 (eva_cons (ev_fld_p T.cls (ev_var 0)) (eva_cons (ev_fld_n T.cls (ev_var 0)) (eva_cons ((ev_mod (ev_var 2) (ev_fld_q T.cls (ev_var 0)) (by show (0 : Int) < (c.T.q : Int); omega)).is (congrArg D.int em)) eva_nil))) (c.k_member _ (c.lt_mod (v / c.T.q ^ i)))) rfl ?_) (evb_one (evs_set 2 (d := .int ((v / c.T.q ^ (i + 1) : Nat) : Int)) ((ev_fdiv (ev_var 2) (ev_fld_q T.cls (ev_var 0)) ⟨by show (0 : Int) < (c.T.q : Int); omega, by show (c.T.q : Int) < _; omega⟩).is ?_) nd))) ?_, .inl rfl⟩
      · rw [List.length_map, List.length_map, List.length_range]
        omega
      · rw [Nat.pow_succ, ← Nat.div_div_eq_div_mul, Int.natCast_ediv]
        rfl
      · show Weak [_, _, _, Sl.own _, _] [_, _, _, Sl.own _, _]
        have e : ((O i).map c.eK) ++ [c.eK (c.mem_ (v / c.T.q ^ i))] = (O (i + 1)).map c.eK := by
          show _ = ((List.range (i + 1)).map _).map _
          rw [List.range_succ, List.map_append, List.map_append]
          rfl
        have e' : ((O i).map c.eK) ++ [c.eK ⟨v / c.T.q ^ i % c.T.q, c.lt_mod _⟩] = (O (i + 1)).map c.eK := e
        rw [e']
        exact .same (.same (.same (.same (.any .nil))))
    · rw [List.length_map, List.length_map, List.length_range]
      simp
      omega
    · unfold FC.eL lmon
      rw [List.map_append]
      rfl
end
end FM
set_option autoImplicit false
namespace FM
open PySem PySem.Spec PyProof.Rows L2 LamX Pol
theorem ixn_neg {n j : Nat} (h : j < n) : ixN n (-1 - (j : Int)) = some (n - 1 - j) := by
  unfold ixN
  rw [if_neg (by omega), if_pos (by omega)]
  congr 1
  omega
inductive R_law_times : List D → D → Prop
  | mk (c : FC) (a b : Kq c) : R_law_times [.fld c.d, c.eK a, c.eK b] (c.eK (a * b))
inductive R_law_product : List D → D → Prop
  | mk (c : FC) (a b : List (Kq c)) (ha : a.length ≤ 100) (hb : b.length ≤ 100) : R_law_product [.fld c.d, c.eL a, c.eL b] (c.eL (trK (mulL a b)))
section
variable {P : Program} {w : World} {K : PySem.W.Frag} {mg : Str → Option Value} {base : Heap} {L : Lc} {f : Addr} {fd : FuncData}
theorem ltIn_len (row : List Int) (k n : Nat) (m : List Int) : ∀ j, (ltIn row k n m j).length = row.length
  | 0 => rfl
  | j + 1 => by rw [ltIn, List.length_set, ltIn_len row k n m j]
theorem ltSt_len (a b m : List Int) (n : Nat) : ∀ t, (ltSt a b m n t).length = a.length + b.length
  | 0 => mulOut_len _
  | t + 1 => by rw [ltSt, List.length_set, ltIn_len, ltSt_len a b m n t]
abbrev N_law_times : List Str := ["_law_field_here", "_law_a", "_law_b", "_law_row", "_law_i", "_law_j", "_law_k", "_law_x"]
theorem sc_law_times : FnScope N_law_times ["_law_field_here", "_law_a", "_law_b"] (defScope s__law_times) := ⟨rfl, rfl, rfl, by decide +kernel, rfl, by decide +kernel, by decide +kernel⟩
theorem ok_law_times (T : Txt K mg L) (F : FunS K "_law_times" "_law_times" s__law_times f fd) : FnOk P w K mg base CX0 1 f fd ["_law_field_here", "_law_a", "_law_b"] (spD L R_law_times) := by
  refine fn_ev F sc_law_times (fun ds r h => by cases h <;> rfl) fun cdv A outer s H E hr ds r h => ?_
  cases h with
  | mk c x y =>
    have nd := sc_law_times.nd
    have n3 := c.nn
    have n3' := c.g0.2
    have pp := c.pp
    have ple := pp.le
    have ppos := pp.pos
    have lm := c.g6.2.2.1
    have cn : c.d.n = (c.T.n : Int) := rfl
    generalize hN : c.T.n = n at *
    have la : (c.e x).length = n := by rw [c.e_len, hN]
    have lb : (c.e y).length = n := by rw [c.e_len, hN]
    have ba : ∀ k, -2 ^ 64 < (c.e x).getD k 0 ∧ (c.e x).getD k 0 < 2 ^ 64 := fun k => by
      rw [List.getD_eq_getElem?_getD]
      cases e : (c.e x)[k]? with
      | none => exact ⟨by decide, by decide⟩
      | some z =>
        have := (c.g5 x).2.2 z (List.mem_of_getElem? e)
        have h2 : (c.T.p : Int) ≤ 5 := ple
        show -2 ^ 64 < z ∧ z < 2 ^ 64
        omega
    have bm : ∀ k, -2 ^ 64 < c.T.m.getD k 0 ∧ c.T.m.getD k 0 < 2 ^ 64 := fun k => by
      rw [List.getD_eq_getElem?_getD]
      cases e : c.T.m[k]? with
      | none => exact ⟨by decide, by decide⟩
      | some z =>
        have := c.g6.2.2.2.1 z (List.mem_of_getElem? e)
        have h2 : (c.T.p : Int) ≤ 5 := ple
        show -2 ^ 64 < z ∧ z < 2 ^ 64
        omega
    have ga : ∀ k, k < n → ((c.e x).map D.int)[k]? = some (.int ((c.e x).getD k 0)) := fun k h => c.e_get x (by omega)
    have gb : ∀ k, k < n → ((c.e y).map D.int)[k]? = some (.int ((c.e y).getD k 0)) := fun k h => c.e_get y (by omega)
    have gm : ∀ k, k < n → (c.T.m.map D.int)[k]? = some (.int (c.T.m.getD k 0)) := fun k h => by
      rw [List.getElem?_map, get_of 0 (by omega)]
      rfl
    generalize hA : c.e x = a at *
    generalize hB : c.e y = b at *
    generalize hM : c.T.m = m at *
    have dm : c.d.m = m := hM
    let O : Nat → List Int := mulOut 0 (· + ·) (· * ·) a b
    have lO : ∀ i, (O i).length = a.length + b.length := fun i => mulOut_len i
    have ea : c.eK x = tI a := by rw [← hA]; rfl
    have eb : c.eK y = tI b := by rw [← hB]; rfl
    rw [ea, eb]
    let S0 : List Int → SlS := fun row => [.val (.fld c.d), .val (tI a), .val (tI b), .own (row.map .int), .any, .any, .any, .any]
    refine .ret (evb_cons (S' := S0 (O 0)) ((evs_lc 3 (own := [("_law_k", 6)]) (t := .one 6) (xs := List.range (2 * n)) (en := fun (i : Nat) => .int (0 + (i : Int) * 1)) (f := fun _ => .int 0) ((evi_range1 T.range (ev_mul ev_int (ev_fld_n T.cls (ev_var 0)) (.inl ⟨by decide, by decide⟩)) (by omega)).is ?_) (lcb (fun _ _ _ _ _ => evg_one 6 nd) rfl fun i d hd => ⟨_, rfl, fun _ _ _ _ _ => ev_int⟩) (by rw [List.length_range]; omega) rfl nd (blkOk_by (N := N_law_times) (sc := defScope s__law_times) (by decide +kernel)) (sw_true rfl rfl rfl (by decide +kernel))).is ?_)
      (evb_cons (S' := S0 (ltSt a b m n 0)) ((evs_forN (lo := 0) (c := 1) (n := n) (t := .one 4) (W := fun i => S0 (O i)) ((evi_range1 T.range (ev_fld_n T.cls (ev_var 0)) (by omega)).is (by rw [cn, Int.toNat_natCast])) (evg_one 4 nd) PassesOwn.never rfl fun i hi => ?_).is ?_)
      (evb_cons (S' := S0 (ltSt a b m n n)) (evs_forN (lo := 2 * (n : Int) - 1) (c := -1) (n := n) (t := .one 6) (W := fun t => S0 (ltSt a b m n t)) ((evi_down T.range (ev_sub (ev_mul ev_int (ev_fld_n T.cls (ev_var 0)) (.inl ⟨by decide, by decide⟩)) ev_int) (ev_sub (ev_fld_n T.cls (ev_var 0)) ev_int) (ev_neg ev_int) (by omega)).is (by rw [cn]; congr 1; omega)) (evg_one 6 nd) PassesOwn.never rfl fun t ht => ?_)
      (evb_one (evs_ret ((ev_tupleL T.tuple (evq_n (evn_lc (own := [("_law_x", 7)]) (t := .one 7) (xs := (ltSt a b m n n).take n) (en := .int) (f := fun z => .int (z % c.d.p)) (evi_list (ev_new ((evn_slice (evq_own 3) evo_none (evo_some (ev_fld_n T.cls (ev_var 0)))).is ?_))) (lcb (fun _ _ _ _ _ => evg_one 7 nd) rfl fun i d hd => ⟨_, rfl, fun _ _ _ _ _ => ev_mod (ev_var 7) (ev_fld_p T.cls (ev_var 0)) ppos⟩) ?_ rfl nd (blkOk_by (N := N_law_times) (sc := defScope s__law_times) (by decide +kernel))))).is ?_))))))
    · rw [cn, irng_map]
      congr 2
    · rw [rep_range]
      show Out.nx [_, _, _, Sl.own _, _, _, _, _] = Out.nx [_, _, _, Sl.own ((List.replicate (a.length + b.length) 0).map D.int), _, _, _, _]
      rw [List.map_replicate, la, lb, show 2 * n = n + n by omega]
    · rw [show (0 : Int) + (i : Int) * 1 = (i : Int) by omega]
      let M : Nat → List Int := mulIn 0 (· + ·) (· * ·) (O i) i (a.getD i 0) b
      have lM : ∀ k, (M k).length = a.length + b.length := fun k => by
        show (mulIn _ _ _ _ _ _ _ k).length = _
        rw [mulIn_len, lO]
      refine ⟨_, _, rfl, evb_weak (evb_one (evs_forN (lo := 0) (c := 1) (n := n) (t := .one 5) (W := fun k => [.val (.fld c.d), .val (tI a), .val (tI b), .own ((M k).map .int), .val (.int (i : Nat)), .any, .any, .any]) ((evi_range1 T.range (ev_fld_n T.cls (ev_var 0)) (by omega)).is (by rw [cn, Int.toNat_natCast])) (evg_one 5 nd) PassesOwn.never rfl fun k hk => ?_)) ?_, .inl rfl⟩
      · rw [show (0 : Int) + (k : Int) * 1 = (k : Int) by omega]
        have g1 : ((M k).map D.int)[i + k]? = some (.int ((M k).getD (i + k) 0)) := by
          rw [List.getElem?_map, get_of 0 (by rw [lM]; omega)]
          rfl
        have h9 : ixN ((M k).map D.int).length ((i : Int) + (k : Int)) = some (i + k) := ixN_of (by omega) (by rw [List.length_map, lM]; omega)
        refine ⟨_, _, rfl, evb_weak (evb_one (evs_item 3 (j := i + k) (ev_add (ev_ix (evq_own 3) (ev_add (ev_var 4) (ev_var 5)) (d := .int ((M k).getD (i + k) 0)) (atI_of (j := i + k) (by omega) g1)) (ev_mul (ev_ix (evq_t (ev_var 1)) (ev_var 4) (d := .int (a.getD i 0)) (atN (ga i hi))) (ev_ix (evq_t (ev_var 2)) (ev_var 5) (d := .int (b.getD k 0)) (atN (gb k hk))) (.inl (ba i)))) (ev_add (ev_var 4) (ev_var 5)) h9)) ?_, .inl rfl⟩
        show Weak [_, _, _, Sl.own _, _, _, _, _] [_, _, _, Sl.own _, _, _, _, _]
        have e : ((M k).map D.int).set (i + k) (.int ((M k).getD (i + k) 0 + a.getD i 0 * b.getD k 0)) = (M (k + 1)).map .int := by
          rw [← List.map_set]
          rfl
        rw [e]
        exact .same (.same (.same (.same (.same (.any (.any (.any .nil)))))))
      · have e : M n = O (i + 1) := by
          show mulIn _ _ _ _ _ _ _ _ = mulIn _ _ _ _ _ _ _ _
          rw [lb]
        show Weak [_, _, _, Sl.own ((M n).map D.int), _, _, _, _] [_, _, _, Sl.own ((O (i + 1)).map D.int), _, _, _, _]
        rw [e]
        exact .same (.same (.same (.same (.any (.any (.any (.any .nil)))))))
    · show Out.nx (S0 (O n)) = Out.nx (S0 (mulOut 0 (· + ·) (· * ·) a b a.length))
      rw [la]
    · let k : Nat := 2 * n - 1 - t
      have hk : 2 * (n : Int) - 1 + (t : Int) * -1 = (k : Nat) := by omega
      rw [hk]
      have lS := ltSt_len a b m n t
      let R : Nat → List Int := ltIn (ltSt a b m n t) k n m
      have lR : ∀ j, (R j).length = n + n := fun j => by
        show (ltIn _ _ _ _ j).length = _
        rw [ltIn_len, lS]
        omega
      have h8 : ixN ((R n).map D.int).length ((k : Nat) : Int) = some k := ixN_of rfl (by rw [List.length_map, lR]; omega)
      refine ⟨_, _, rfl, evb_weak (evb_cons (evs_forN (lo := 0) (c := 1) (n := n) (t := .one 5) (W := fun j => [.val (.fld c.d), .val (tI a), .val (tI b), .own ((R j).map .int), .any, .any, .val (.int (k : Nat)), .any]) ((evi_range1 T.range (ev_fld_n T.cls (ev_var 0)) (by omega)).is (by rw [cn, Int.toNat_natCast])) (evg_one 5 nd) PassesOwn.never rfl fun j hj => ?_) (evb_one (evs_item 3 (j := k) ev_int (ev_var 6) h8))) ?_, .inl rfl⟩
      · rw [show (0 : Int) + (j : Int) * 1 = (j : Int) by omega]
        have g1 : ((R j).map D.int)[k - n + j]? = some (.int ((R j).getD (k - n + j) 0)) := by
          rw [List.getElem?_map, get_of 0 (by rw [lR]; omega)]
          rfl
        have g2 : ((R j).map D.int)[k]? = some (.int ((R j).getD k 0)) := by
          rw [List.getElem?_map, get_of 0 (by rw [lR]; omega)]
          rfl
        have h9 : ixN ((R j).map D.int).length ((k : Int) - c.d.n + (j : Int)) = some (k - n + j) := ixN_of (by omega) (by rw [List.length_map, lR]; omega)
        refine ⟨_, _, rfl, evb_weak (evb_one (evs_item 3 (j := k - n + j) (ev_sub (ev_ix (evq_own 3) (ev_add (ev_sub (ev_var 6) (ev_fld_n T.cls (ev_var 0))) (ev_var 5)) (d := .int ((R j).getD (k - n + j) 0)) (atI_of (j := k - n + j) (by omega) g1)) (ev_mul (ev_ix (evq_own 3) (ev_var 6) (d := .int ((R j).getD k 0)) (atN g2)) (ev_ix (evq_t ((ev_fld_m T.cls (ev_var 0)).is (congrArg tI dm))) (ev_var 5) (d := .int (m.getD j 0)) (atN (gm j hj))) (.inr (bm j)))) (ev_add (ev_sub (ev_var 6) (ev_fld_n T.cls (ev_var 0))) (ev_var 5)) h9)) ?_, .inl rfl⟩
        show Weak [_, _, _, Sl.own _, _, _, _, _] [_, _, _, Sl.own _, _, _, _, _]
        have e : ((R j).map D.int).set (k - n + j) (.int ((R j).getD (k - n + j) 0 - (R j).getD k 0 * m.getD j 0)) = (R (j + 1)).map .int := by
          rw [← List.map_set]
          rfl
        rw [e]
        exact .same (.same (.same (.same (.any (.any (.same (.any .nil)))))))
      · show Weak [_, _, _, Sl.own _, _, _, _, _] [_, _, _, Sl.own _, _, _, _, _]
        have e : ((R n).map D.int).set k (.int 0) = (ltSt a b m n (t + 1)).map .int := by
          rw [← List.map_set]
          rfl
        rw [e]
        exact .same (.same (.same (.same (.any (.any (.any (.any .nil)))))))
    · rw [cn, cut_lo, List.map_take]
    · rw [List.length_take]
      omega
    · have h4 := (c.g4 x y).2.2.2
      rw [hA, hB, hM, hN] at h4
      unfold FC.eK tI
      rw [← h4]
      unfold ltimes
      rw [List.map_map]
      rfl
/-! ### number, trim, product -/
abbrev N_law_number : List Str := ["_law_p", "_law_a", "_law_total", "_law_k"]
theorem sc_law_number : FnScope N_law_number ["_law_p", "_law_a"] (defScope s__law_number) := ⟨rfl, rfl, rfl, by decide +kernel, rfl, by decide +kernel, by decide +kernel⟩
theorem ok_law_number (T : Txt K mg L) (F : FunS K "_law_number" "_law_number" s__law_number f fd) : FnOk P w K mg base CX0 1 f fd ["_law_p", "_law_a"] (spD L R_law_number) := by
  refine fn_ev F sc_law_number (fun ds r h => by cases h <;> rfl) fun cdv A outer s H E hr ds r h => ?_
  cases h with
  | mk c a =>
    have nd := sc_law_number.nd
    have pp := c.pp
    have ple := pp.le
    have ppos := pp.pos
    have le3 := c.e_le a
    have ln : ((c.e a).map D.int).length = (c.e a).length := List.length_map ..
    let tot : Nat → Int := fun j => ((c.e a).reverse.take j).foldl (fun t x => t * c.d.p + x) 0
    refine .ret (evb_cons (evs_set 2 ev_int nd) (evb_cons (evs_forN (lo := 0) (c := 1) (n := (c.e a).length) (t := .one 3) (W := fun j => [.val (.int c.d.p), .val (c.eK a), .val (.int (tot j)), .any]) ((evi_range1 T.range (ev_len T.len (evq_t (xs := (c.e a).map .int) (ev_var 1))) (by rw [ln]; omega)).is (by rw [ln, Int.toNat_natCast])) (evg_one 3 nd) PassesOwn.never rfl fun j hj => ?_) (evb_one ((evs_ret (ev_var 2)).is ?_))))
    · rw [show (0 : Int) + (j : Int) * 1 = (j : Int) by omega]
      have g1 : atI ((c.e a).map D.int) (-1 - (j : Int)) = some (.int ((c.e a).getD ((c.e a).length - 1 - j) 0)) := by
        unfold atI
        rw [ln, ixn_neg hj]
        show ((c.e a).map D.int)[_]? = _
        rw [List.getElem?_map, get_of 0 (by omega)]
        rfl
      refine ⟨_, _, rfl, evb_weak (evb_one (evs_set 2 (d := .int (tot (j + 1))) ((ev_add (ev_mul (ev_var 2) (ev_var 0) (.inr ⟨by omega, by omega⟩)) (ev_ix (evq_t (xs := (c.e a).map .int) (ev_var 1)) (ev_sub (ev_neg ev_int) (ev_var 3)) g1)).is ?_) nd)) (.same (.same (.same (.any .nil)))), .inl rfl⟩
      congr 1
      show _ = ((c.e a).reverse.take (j + 1)).foldl _ 0
      have hr2 : (c.e a).reverse[j]? = some ((c.e a).getD ((c.e a).length - 1 - j) 0) := by
        rw [List.getElem?_reverse hj, get_of 0 (by omega)]
      rw [take_succ_of hr2, List.foldl_append]
      rfl
    · refine congrArg Out.ret (congrArg D.int ?_)
      show ((c.e a).reverse.take (c.e a).length).foldl _ 0 = _
      rw [← List.length_reverse, List.take_length, List.foldl_reverse]
      exact (c.g7.2 a).2.2.1
abbrev N_law_trim : List Str := ["_law_field_here", "_law_row"]
theorem sc_law_trim : FnScope N_law_trim ["_law_field_here", "_law_row"] (defScope s__law_trim) := ⟨rfl, rfl, rfl, by decide +kernel, rfl, by decide +kernel, by decide +kernel⟩
theorem at_last {α : Type} {xs : List α} {x : α} (h : xs[xs.length - 1]? = some x) : atI xs (-1) = some x := by
  have hl : 0 < xs.length := by
    rcases Nat.eq_zero_or_pos xs.length with z | z
    · rw [List.getElem?_eq_none (by omega)] at h
      cases h
    · exact z
  unfold atI
  have := ixn_neg (n := xs.length) (j := 0) hl
  rw [show (-1 : Int) - ((0 : Nat) : Int) = -1 by omega] at this
  rw [this]
  exact h
theorem ok_law_trim (T : Txt K mg L) (C1 : FnC P w K mg base L "_law_zero" 2 ["_law_field_here"] R_law_zero) (F : FunS K "_law_trim" "_law_trim" s__law_trim f fd) : FnOk P w K mg base CX0 3 f fd ["_law_field_here", "_law_row"] (spD L R_law_trim) := by
  refine fn_ev F sc_law_trim (fun ds r h => by cases h; rfl) fun cdv A outer s H E hr ds r h => ?_
  cases h with
  | mk c xs hz =>
    have nd := sc_law_trim.nd
    have ln : ∀ i, ((xs.take (xs.length - i)).map c.eK).length = xs.length - i := fun i => by rw [List.length_map, List.length_take]; omega
    have hzc := zc_le isK xs
    refine .ret (evb_cons (evs_setn 1 (evn_list T.list (evq_l (ev_var 1))) nd) (evb_cons (evs_pre (S1 := [.val (.fld c.d), .own ((xs.take (xs.length - 0)).map c.eK)]) (by rw [Nat.sub_zero, List.take_length]; exact .same (.same .nil)) (evs_while (W := fun i => [.val (.fld c.d), .own ((xs.take (xs.length - i)).map c.eK)]) (zc isK xs) PassesOwn.never (fun i hi => ?_) ?_)) (evb_frz 1 rfl (evb_one (evs_ret (ev_var 1))))))
    · obtain ⟨x, hx, hq⟩ := zc_lt hi
      have hx0 : x = 0 := of_decide_eq_true hq
      subst hx0
      have hil : i < xs.length := by omega
      have gl : atI ((xs.take (xs.length - i)).map c.eK) (-1) = some (c.eK 0) := at_last (by
        rw [ln, List.getElem?_map, List.getElem?_take_of_lt (by omega), show xs.length - i - 1 = xs.length - 1 - i by omega, hx]
        rfl)
      refine ⟨?_, _, evb_one (evs_pop 1 rfl ?_), .inl ?_⟩
      · refine EvT.is (EvW.t (evw_and (evt_gt (ev_len T.len (evq_own 1)) ev_int) fun _ => evw_and1 (evt_eqT (xs := c.e 0) (ys := c.e 0) hr.units (ev_ix (evq_own 1) (ev_neg ev_int) gl) (ev_call C1 hr (eva_cons (ev_var 0) eva_nil) (.mk c))))) ?_
        rw [ln]
        simp
        omega
      · intro z
        have := ln i
        rw [z] at this
        simp at this
        omega
      · show Out.nx [_, _] = _
        rw [← List.map_dropLast, List.dropLast_eq_take, List.take_take, List.length_take]
        rw [show min (min (xs.length - i) xs.length - 1) (xs.length - i) = xs.length - (i + 1) by omega]
    · by_cases hl : zc isK xs < xs.length
      · obtain ⟨x, hx, hq⟩ := zc_at hl
        have hx0 : x ≠ 0 := of_decide_eq_false hq
        have gl : atI ((xs.take (xs.length - zc isK xs)).map c.eK) (-1) = some (c.eK x) := at_last (by
          rw [ln, List.getElem?_map, List.getElem?_take_of_lt (by omega), show xs.length - zc isK xs - 1 = xs.length - 1 - zc isK xs by omega, hx]
          rfl)
        refine EvT.is (EvW.t (evw_and (evt_gt (ev_len T.len (evq_own 1)) ev_int) fun _ => evw_and1 (evt_eqT (xs := c.e x) (ys := c.e 0) hr.units (ev_ix (evq_own 1) (ev_neg ev_int) gl) (ev_call C1 hr (eva_cons (ev_var 0) eva_nil) (.mk c))))) ?_
        rw [c.e_eq, decide_eq_false hx0, Bool.and_false]
      · refine EvT.is (EvW.t (evw_and (j := false) (evt_gt (ev_len T.len (evq_own 1)) ev_int) fun z => ?_)) ?_
        · rw [ln] at z
          simp at z
          omega
        · rw [Bool.and_false]
abbrev N_law_product : List Str := ["_law_field_here", "_law_f", "_law_g", "_law_row", "_law_i", "_law_j", "_law_k"]
theorem sc_law_product : FnScope N_law_product ["_law_field_here", "_law_f", "_law_g"] (defScope s__law_product) := ⟨rfl, rfl, rfl, by decide +kernel, rfl, by decide +kernel, by decide +kernel⟩
theorem ok_law_product (T : Txt K mg L) (C1 : FnC P w K mg base L "_law_zero" 2 ["_law_field_here"] R_law_zero) (C2 : FnC P w K mg base L "_law_add" 1 ["_law_field_here", "_law_a", "_law_b"] R_law_add) (C3 : FnC P w K mg base L "_law_times" 1 ["_law_field_here", "_law_a", "_law_b"] R_law_times) (C4 : FnC P w K mg base L "_law_trim" 3 ["_law_field_here", "_law_row"] R_law_trim) (F : FunS K "_law_product" "_law_product" s__law_product f fd) : FnOk P w K mg base CX0 4 f fd ["_law_field_here", "_law_f", "_law_g"] (spD L R_law_product) := by
  refine fn_ev F sc_law_product (fun ds r h => by cases h; rfl) fun cdv A outer s H E hr ds r h => ?_
  cases h with
  | mk c a b ha hb =>
    have nd := sc_law_product.nd
    have hr1 : Room 1 _ := hr.mono (by decide)
    have hr2 : Room 2 _ := hr.mono (by decide)
    have la : (a.map c.eK).length = a.length := List.length_map ..
    have lb : (b.map c.eK).length = b.length := List.length_map ..
    let O : Nat → List (Kq c) := mulOut 0 (· + ·) (· * ·) a b
    have lO : ∀ i, (O i).length = a.length + b.length := fun i => mulOut_len i
    let S0 : List (Kq c) → SlS := fun row => [.val (.fld c.d), .val (c.eL a), .val (c.eL b), .own (row.map c.eK), .any, .any, .any]
    refine .ret (evb_cons (S' := S0 (O 0)) ((evs_lc 3 (own := [("_law_k", 6)]) (t := .one 6) (xs := List.range (a.length + b.length)) (en := fun (i : Nat) => .int (0 + (i : Int) * 1)) (f := fun _ => c.eK 0) ((evi_range1 T.range (ev_add (ev_len T.len (evq_l (ev_var 1))) (ev_len T.len (evq_l (ev_var 2)))) (by rw [la, lb]; omega)).is (by rw [la, lb]; rfl)) (lcb (fun _ _ _ _ _ => evg_one 6 nd) rfl fun i d hd => ⟨_, rfl, fun _ _ _ _ _ => ev_call C1 hr2 (eva_cons (ev_var 0) eva_nil) (.mk c)⟩) (by rw [List.length_range]; omega) rfl nd (blkOk_by (N := N_law_product) (sc := defScope s__law_product) (by decide +kernel)) (sw_true rfl rfl rfl (by decide +kernel))).is ?_)
      (evb_cons (S' := S0 (O a.length)) (evs_forN (lo := 0) (c := 1) (n := a.length) (t := .one 4) (W := fun i => S0 (O i)) ((evi_range1 T.range (ev_len T.len (evq_l (ev_var 1))) (by rw [la]; omega)).is (by rw [la, Int.toNat_natCast])) (evg_one 4 nd) PassesOwn.never rfl fun i hi => ?_)
      (evb_frz 3 rfl (evb_one (evs_ret (ev_call C4 hr (eva_cons (ev_var 0) (eva_cons (ev_var 3) eva_nil)) (.mk c (O a.length) (by rw [lO]; omega))))))))
    · rw [rep_range]
      show Out.nx [_, _, _, Sl.own _, _, _, _] = Out.nx [_, _, _, Sl.own ((List.replicate (a.length + b.length) 0).map c.eK), _, _, _]
      rw [List.map_replicate]
    · rw [show (0 : Int) + (i : Int) * 1 = (i : Int) by omega]
      let M : Nat → List (Kq c) := mulIn 0 (· + ·) (· * ·) (O i) i (a.getD i 0) b
      have lM : ∀ k, (M k).length = a.length + b.length := fun k => by
        show (mulIn _ _ _ _ _ _ _ k).length = _
        rw [mulIn_len, lO]
      have ga : (a.map c.eK)[i]? = some (c.eK (a.getD i 0)) := by
        rw [List.getElem?_map, get_of 0 hi]
        rfl
      refine ⟨_, _, rfl, evb_weak (evb_one (evs_forN (lo := 0) (c := 1) (n := b.length) (t := .one 5) (W := fun k => [.val (.fld c.d), .val (c.eL a), .val (c.eL b), .own ((M k).map c.eK), .val (.int (i : Nat)), .any, .any]) ((evi_range1 T.range (ev_len T.len (evq_l (ev_var 2))) (by rw [lb]; omega)).is (by rw [lb, Int.toNat_natCast])) (evg_one 5 nd) PassesOwn.never rfl fun k hk => ?_)) ?_, .inl rfl⟩
      · rw [show (0 : Int) + (k : Int) * 1 = (k : Int) by omega]
        have g1 : ((M k).map c.eK)[i + k]? = some (c.eK ((M k).getD (i + k) 0)) := by
          rw [List.getElem?_map, get_of 0 (by rw [lM]; omega)]
          rfl
        have gb : (b.map c.eK)[k]? = some (c.eK (b.getD k 0)) := by
          rw [List.getElem?_map, get_of 0 hk]
          rfl
        have h9 : ixN ((M k).map c.eK).length ((i : Int) + (k : Int)) = some (i + k) := ixN_of (by omega) (by rw [List.length_map, lM]; omega)
        refine ⟨_, _, rfl, evb_weak (evb_one (evs_item 3 (j := i + k) (ev_call C2 hr1 (eva_cons (ev_var 0) (eva_cons (ev_ix (evq_own 3) (ev_add (ev_var 4) (ev_var 5)) (d := c.eK ((M k).getD (i + k) 0)) (atI_of (j := i + k) (by omega) g1)) (eva_cons (ev_call C3 hr1 (eva_cons (ev_var 0) (eva_cons (ev_ix (evq_l (ev_var 1)) (ev_var 4) (d := c.eK (a.getD i 0)) (atN ga)) (eva_cons (ev_ix (evq_l (ev_var 2)) (ev_var 5) (d := c.eK (b.getD k 0)) (atN gb)) eva_nil))) (.mk c _ _)) eva_nil))) (.mk c _ _)) (ev_add (ev_var 4) (ev_var 5)) h9)) ?_, .inl rfl⟩
        show Weak [_, _, _, Sl.own _, _, _, _] [_, _, _, Sl.own _, _, _, _]
        have e : ((M k).map c.eK).set (i + k) (c.eK ((M k).getD (i + k) 0 + a.getD i 0 * b.getD k 0)) = (M (k + 1)).map c.eK := by
          rw [← List.map_set]
          rfl
        rw [e]
        exact .same (.same (.same (.same (.same (.any (.any .nil))))))
      · exact .same (.same (.same (.same (.any (.any (.any .nil))))))
end
end FM
set_option autoImplicit false
namespace FM
open PySem PySem.Spec PyProof.Rows L2 LamX Pol
/-! ### the law's own remainder -/
section
variable {K : Type} [Fd K]
def lrS (f g : List K) : Nat → List K
  | 0 => f
  | t + 1 => (divIn 0 (fun r f y => r + -(f * y)) (lrS f g t) ((lrS f g t).length - g.length) (co (lrS f g t) ((lrS f g t).length - 1)) g g.length).dropLast
theorem lrS_len (f g : List K) : ∀ t, (lrS f g t).length = f.length - t
  | 0 => rfl
  | t + 1 => by rw [lrS, List.length_dropLast, divIn_len, lrS_len f g t]; omega
theorem mk_dropLast {l : List K} (h : co l (l.length - 1) = 0) : mkP l.dropLast = mkP l := mkP_of fun i => by
  unfold co at h ⊢
  rw [List.getD_eq_getElem?_getD, List.getD_eq_getElem?_getD, List.getElem?_dropLast]
  split
  · rfl
  · rename_i q
    by_cases z : i = l.length - 1
    · rw [z]
      rw [List.getD_eq_getElem?_getD] at h
      exact h.symm
    · rw [List.getElem?_eq_none (by omega)]
theorem lrS_P (f g : List K) (hg : g ≠ []) (h1 : co g (g.length - 1) = 1) : ∀ t, t + g.length ≤ f.length + 1 → ∃ Q, mkP f = Q * mkP g + mkP (lrS f g t)
  | 0, _ => ⟨0, by rw [lrS]; grind⟩
  | t + 1, h => by
    have hgl := List.length_pos_iff.mpr hg
    obtain ⟨Q, e⟩ := lrS_P f g hg h1 t (by omega)
    have ll := lrS_len f g t
    rw [lrS]
    generalize lrS f g t = r at e ll
    have hk : r.length - g.length + g.length ≤ r.length := by omega
    have e2 : mkP (divIn 0 (fun r f y => r + -(f * y)) r (r.length - g.length) (co r (r.length - 1)) g g.length) = mkP r - C (co r (r.length - 1)) * (X ^ (r.length - g.length) * mkP g) := Pol.ext fun j => by
      rw [mkP_c, co_divIn _ hk, c_sub, mkP_c, co_cxm]
    have e3 : co (divIn 0 (fun r f y => r + -(f * y)) r (r.length - g.length) (co r (r.length - 1)) g g.length) ((divIn 0 (fun r f y => r + -(f * y)) r (r.length - g.length) (co r (r.length - 1)) g g.length).length - 1) = 0 := by
      rw [divIn_len, co_divIn _ hk, if_pos (by omega), show r.length - 1 - (r.length - g.length) = g.length - 1 by omega, h1]
      grind
    rw [mk_dropLast e3, e2]
    exact ⟨Q + C (co r (r.length - 1)) * X ^ (r.length - g.length), by grind⟩
theorem lr_rem (f g : List K) (hg : g ≠ []) (h1 : co g (g.length - 1) = 1) : mkP (lrS f g (f.length + 1 - g.length)) = rem (mkP f) (mkP g) := by
  have hgl := List.length_pos_iff.mpr hg
  have gn : nz g := fun x hx => by
    unfold co at h1
    rw [List.getD_eq_getElem?_getD, hx] at h1
    have h1 : x = 1 := h1
    rw [h1]
    exact Fd.one_ne
  have gl : (mkP g).len = g.length := by
    show (trK g).length = _
    rw [trK_nz gn]
  have g0 : mkP g ≠ 0 := fun z => by
    rw [z, len_zero] at gl
    omega
  by_cases q : g.length ≤ f.length + 1
  · obtain ⟨Q, e⟩ := lrS_P f g hg h1 (f.length + 1 - g.length) (by omega)
    refine ((div_uniq g0 e ?_).2).symm
    have := mk_len (lrS f g (f.length + 1 - g.length))
    rw [lrS_len] at this
    omega
  · rw [show f.length + 1 - g.length = 0 by omega, lrS]
    refine (rem_self g0 ?_).symm
    have := mk_len f
    omega
end
theorem least {p : Nat → Prop} [DecidablePred p] : ∀ n, p n → ∃ m, m ≤ n ∧ p m ∧ ∀ k, k < m → ¬ p k
  | n, h => by
    by_cases q : ∃ k, k < n ∧ p k
    · obtain ⟨k, h1, h2⟩ := q
      obtain ⟨m, a, b, c⟩ := least k h2
      exact ⟨m, by omega, b, c⟩
    · exact ⟨n, Nat.le_refl _, h, fun k hk hp => q ⟨k, hk, hp⟩⟩
termination_by n => n
inductive R_law_rest : List D → D → Prop
  | mk (c : FC) (f g : List (Kq c)) (hf : f.length ≤ 100) (hg : g ≠ []) (hgl : g.length ≤ 100) (h1 : co g (g.length - 1) = 1) : R_law_rest [.fld c.d, c.eL f, c.eL g] (c.eL (rem (mkP f) (mkP g)).l)
/-- no monic linear one divides -/
def lirr (c : FC) (f : List (Kq c)) : Bool := (List.range c.T.q).all fun v => !decide (rem (mkP f) (mkP (lmon c 1 v)) = 0)
inductive R_law_is_irreducible : List D → D → Prop
  | mk1 (c : FC) (f : List (Kq c)) (h : f.length = 2) : R_law_is_irreducible [.fld c.d, c.eL f] (.bl true)
  | mk2 (c : FC) (f : List (Kq c)) (h : f.length = 3) : R_law_is_irreducible [.fld c.d, c.eL f] (.bl (lirr c f))
section
variable {P : Program} {w : World} {K : PySem.W.Frag} {mg : Str → Option Value} {base : Heap} {L : Lc} {f : Addr} {fd : FuncData}
abbrev N_law_rest : List Str := ["_law_field_here", "_law_f", "_law_g", "_law_rest_here", "_law_top", "_law_k", "_law_at"]
theorem sc_law_rest : FnScope N_law_rest ["_law_field_here", "_law_f", "_law_g"] (defScope s__law_rest) := ⟨rfl, rfl, rfl, by decide +kernel, rfl, by decide +kernel, by decide +kernel⟩
theorem ok_law_rest (T : Txt K mg L) (C2 : FnC P w K mg base L "_law_add" 1 ["_law_field_here", "_law_a", "_law_b"] R_law_add) (C3 : FnC P w K mg base L "_law_times" 1 ["_law_field_here", "_law_a", "_law_b"] R_law_times) (C5 : FnC P w K mg base L "_law_minus" 1 ["_law_field_here", "_law_a"] R_law_minus) (C4 : FnC P w K mg base L "_law_trim" 3 ["_law_field_here", "_law_row"] R_law_trim) (F : FunS K "_law_rest" "_law_rest" s__law_rest f fd) : FnOk P w K mg base CX0 4 f fd ["_law_field_here", "_law_f", "_law_g"] (spD L R_law_rest) := by
  refine fn_ev F sc_law_rest (fun ds r h => by cases h; rfl) fun cdv A outer s H E hr ds r h => ?_
  cases h with
  | mk c f g hf hg hgl h1 =>
    have nd := sc_law_rest.nd
    have hr1 : Room 1 _ := hr.mono (by decide)
    have gp := List.length_pos_iff.mpr hg
    have lf : (f.map c.eK).length = f.length := List.length_map ..
    have lg : (g.map c.eK).length = g.length := List.length_map ..
    let W : Nat → SlS := fun t => [.val (.fld c.d), .val (c.eL f), .val (c.eL g), .own ((lrS f g t).map c.eK), .any, .any, .any]
    have lW : ∀ t, ((lrS f g t).map c.eK).length = f.length - t := fun t => by rw [List.length_map, lrS_len]
    have er : trK (lrS f g (f.length + 1 - g.length)) = (rem (mkP f) (mkP g)).l := by
      rw [← lr_rem f g hg h1]
      rfl
    refine .ret (evb_cons (evs_setn 3 (evn_list T.list (evq_l (ev_var 1))) nd) (evb_cons (evs_while (W := W) (f.length + 1 - g.length) PassesOwn.never (fun t ht => ?_) ?_) (evb_frz 3 rfl (evb_one ((evs_ret (ev_call C4 hr (eva_cons (ev_var 0) (eva_cons (ev_var 3) eva_nil)) (.mk c (lrS f g (f.length + 1 - g.length)) (by rw [lrS_len]; omega)))).is (by rw [er]))))))
    · have ll := lrS_len f g t
      have hW := lW t
      have W0 : W (t + 1) = [.val (.fld c.d), .val (c.eL f), .val (c.eL g), .own ((lrS f g (t + 1)).map c.eK), .any, .any, .any] := rfl
      rw [W0, lrS]
      have Wt : W t = [.val (.fld c.d), .val (c.eL f), .val (c.eL g), .own ((lrS f g t).map c.eK), .any, .any, .any] := rfl
      rw [Wt]
      generalize lrS f g t = r at ll hW
      let top : Kq c := co r (r.length - 1)
      let M : Nat → List (Kq c) := divIn 0 (fun r f y => r + -(f * y)) r (r.length - g.length) top g
      have lM : ∀ i, (M i).length = r.length := fun i => divIn_len i
      have gt : atI (r.map c.eK) (-1) = some (c.eK top) := at_last (by
        rw [List.length_map, List.getElem?_map, get_of 0 (by omega)]
        rfl)
      refine ⟨(evt_ge (ev_len T.len (evq_own 3)) (ev_len T.len (evq_l (ev_var 2)))).is (by rw [hW, lg]; exact decide_eq_true (by omega)), _, evb_weak (evb_cons (evs_set 4 (ev_ix (evq_own 3) (ev_neg ev_int) gt) nd) (evb_cons (evs_forN (lo := 0) (c := 1) (n := g.length) (t := .one 5) (W := fun k => [.val (.fld c.d), .val (c.eL f), .val (c.eL g), .own ((M k).map c.eK), .val (c.eK top), .any, .any]) ((evi_range1 T.range (ev_len T.len (evq_l (ev_var 2))) (by rw [lg]; omega)).is (by rw [lg, Int.toNat_natCast])) (evg_one 5 nd) PassesOwn.never rfl fun k hk => ?_) (evb_one (evs_pop 3 rfl ?_)))) ?_, .inl rfl⟩
      · rw [show (0 : Int) + (k : Int) * 1 = (k : Int) by omega]
        have lMk : ((M k).map c.eK).length = r.length := by rw [List.length_map, lM]
        have eat : (((M k).map c.eK).length : Int) - ((g.map c.eK).length : Int) + (k : Int) = ((r.length - g.length + k : Nat) : Int) := by
          rw [lMk, lg]
          omega
        have g1 : ((M k).map c.eK)[r.length - g.length + k]? = some (c.eK ((M k).getD (r.length - g.length + k) 0)) := by
          rw [List.getElem?_map, get_of 0 (by rw [lM]; omega)]
          rfl
        have g2 : (g.map c.eK)[k]? = some (c.eK (g.getD k 0)) := by
          rw [List.getElem?_map, get_of 0 hk]
          rfl
        have h9 : ixN ((M k).map c.eK).length ((r.length - g.length + k : Nat) : Int) = some (r.length - g.length + k) := ixN_of rfl (by rw [lMk]; omega)
        refine ⟨_, _, rfl, evb_weak (evb_cons (evs_set 6 (d := .int ((r.length - g.length + k : Nat) : Int)) ((ev_add (ev_sub (ev_len T.len (evq_own 3)) (ev_len T.len (evq_l (ev_var 2)))) (ev_var 5)).is (congrArg D.int eat)) nd) (evb_one (evs_item 3 (j := r.length - g.length + k) (ev_call C2 hr1 (eva_cons (ev_var 0) (eva_cons (ev_ix (evq_own 3) (ev_var 6) (d := c.eK ((M k).getD (r.length - g.length + k) 0)) (atN g1)) (eva_cons (ev_call C5 hr1 (eva_cons (ev_var 0) (eva_cons (ev_call C3 hr1 (eva_cons (ev_var 0) (eva_cons (ev_var 4) (eva_cons (ev_ix (evq_l (ev_var 2)) (ev_var 5) (d := c.eK (g.getD k 0)) (atN g2)) eva_nil))) (.mk c _ _)) eva_nil)) (.mk c _)) eva_nil))) (.mk c _ _)) (ev_var 6) h9))) ?_, .inl rfl⟩
        show Weak [_, _, _, Sl.own _, _, _, _] [_, _, _, Sl.own _, _, _, _]
        have e : ((M k).map c.eK).set (r.length - g.length + k) (c.eK ((M k).getD (r.length - g.length + k) 0 + -(top * g.getD k 0))) = (M (k + 1)).map c.eK := by
          rw [← List.map_set]
          rfl
        rw [e]
        exact .same (.same (.same (.same (.same (.any (.any .nil))))))
      · intro z
        have e5 : r.length = 0 := by
          have := congrArg List.length z
          rwa [List.length_map, lM] at this
        omega
      · show Weak [_, _, _, Sl.own _, _, _, _] [_, _, _, Sl.own _, _, _, _]
        rw [List.map_dropLast]
        exact .same (.same (.same (.same (.any (.any (.any .nil))))))
    · refine (evt_ge (ev_len T.len (evq_own 3)) (ev_len T.len (evq_l (ev_var 2)))).is ?_
      rw [lW, lg]
      exact decide_eq_false (by omega)
/-! ### is it irreducible -/
abbrev N_law_is_irreducible : List Str := ["_law_field_here", "_law_f", "_law_degree", "_law_low", "_law_number_here"]
theorem sc_law_is_irreducible : FnScope N_law_is_irreducible ["_law_field_here", "_law_f"] (defScope s__law_is_irreducible) := ⟨rfl, rfl, rfl, by decide +kernel, rfl, by decide +kernel, by decide +kernel⟩
theorem lmon_ok (c : FC) (d v : Nat) : (lmon c d v).length = d + 1 ∧ lmon c d v ≠ [] ∧ co (lmon c d v) ((lmon c d v).length - 1) = 1 := by
  have h : (lmon c d v).length = d + 1 := by
    unfold lmon
    rw [List.length_append, List.length_map, List.length_range]
    rfl
  refine ⟨h, fun z => (by rw [z] at h; cases h), ?_⟩
  rw [h]
  unfold lmon
  rw [co_append, List.length_map, List.length_range, if_neg (by omega)]
  show co [1] (d + 1 - 1 - d) = 1
  rw [show d + 1 - 1 - d = 0 by omega]
  rfl
theorem ok_law_is_irreducible (T : Txt K mg L) (C1 : FnC P w K mg base L "_law_count" 1 ["_law_field_here", "_law_degree"] R_law_count) (C2 : FnC P w K mg base L "_law_rest" 4 ["_law_field_here", "_law_f", "_law_g"] R_law_rest) (C3 : FnC P w K mg base L "_law_monic" 3 ["_law_field_here", "_law_degree", "_law_number_here"] R_law_monic) (F : FunS K "_law_is_irreducible" "_law_is_irreducible" s__law_is_irreducible f fd) : FnOk P w K mg base CX0 5 f fd ["_law_field_here", "_law_f"] (spD L R_law_is_irreducible) := by
  refine fn_ev F sc_law_is_irreducible (fun ds r h => by cases h <;> rfl) fun cdv A outer s H E hr ds r h => ?_
  have nd := sc_law_is_irreducible.nd
  have hr1 : Room 1 _ := hr.mono (by decide)
  have hr3 : Room 3 _ := hr.mono (by decide)
  cases h with
  | mk1 c f h =>
    have lf : (f.map c.eK).length = 2 := by rw [List.length_map, h]
    refine .ret (evb_cons (evs_set 2 (d := .int 1) ((ev_sub (ev_len T.len (evq_l (ev_var 1))) ev_int).is (by rw [lf]; rfl)) nd) (evb_cons (evs_for (ds := []) (t := .one 3) (W := fun _ => [.val (.fld c.d), .val (c.eL f), .val (.int 1), .any, .any]) ((evi_range2 T.range ev_int (ev_add (ev_fdiv (ev_var 2) ev_int ⟨by decide, by decide⟩) ev_int) (by decide)).is rfl) (evg_one 3 nd) PassesOwn.never rfl fun i d hd => by cases hd) (evb_one (evs_ret ((ev_gt (ev_var 2) ev_int).is rfl)))))
  | mk2 c f h =>
    have lf : (f.map c.eK).length = 3 := by rw [List.length_map, h]
    have q9 := c.g0.2.2.2.2.1
    have tst : ∀ {X' : Cx} {S : SlS}, True := trivial
    refine .ret (evb_cons (evs_set 2 (d := .int 2) ((ev_sub (ev_len T.len (evq_l (ev_var 1))) ev_int).is (by rw [lf]; rfl)) nd) ?_)
    have rr : ∀ v, R_law_rest [.fld c.d, c.eL f, c.eL (lmon c 1 v)] (c.eL (rem (mkP f) (mkP (lmon c 1 v))).l) := fun v => .mk c f _ (by omega) (lmon_ok c 1 v).2.1 (by rw [(lmon_ok c 1 v).1]; omega) (lmon_ok c 1 v).2.2
    have lz : ∀ v, decide ((((rem (mkP f) (mkP (lmon c 1 v))).l.map c.eK).length : Int) = 0) = decide (rem (mkP f) (mkP (lmon c 1 v)) = 0) := fun v => by rw [List.length_map, len_zero_iff]
    have hcnt := R_law_count.mk c 1 (by decide)
    rw [Nat.pow_one] at hcnt
    by_cases hall : lirr c f = true
    · have nz' : ∀ v, v < c.T.q → rem (mkP f) (mkP (lmon c 1 v)) ≠ 0 := fun v hv z => by
        have := List.all_eq_true.mp hall v (List.mem_range.mpr hv)
        rw [z] at this
        simp at this
      rw [hall]
      refine evb_cons (S' := [.val (.fld c.d), .val (c.eL f), .val (.int 2), .any, .any]) (evs_for (ds := [.int 1]) (t := .one 3) (W := fun _ => [.val (.fld c.d), .val (c.eL f), .val (.int 2), .any, .any]) ((evi_range2 T.range ev_int (ev_add (ev_fdiv (ev_var 2) ev_int ⟨by decide, by decide⟩) ev_int) (by decide)).is rfl) (evg_one 3 nd) PassesOwn.never rfl fun i d hd => ?_) (evb_one (evs_ret ((ev_gt (ev_var 2) ev_int).is rfl)))
      cases i with
      | succ i => cases hd
      | zero =>
        cases hd
        refine ⟨_, _, rfl, evb_weak (evb_one (evs_forN (lo := 0) (c := 1) (n := c.T.q) (t := .one 4) (W := fun _ => [.val (.fld c.d), .val (c.eL f), .val (.int 2), .val (.int 1), .any]) ((evi_range1 T.range (ev_call C1 hr1 (eva_cons (ev_var 0) (eva_cons (ev_var 3) eva_nil)) hcnt) (by omega)).is (by rw [Int.toNat_natCast])) (evg_one 4 nd) PassesOwn.never rfl fun v hv => ?_)) (.same (.same (.same (.any (.any .nil))))), .inl rfl⟩
        rw [show (0 : Int) + (v : Int) * 1 = (v : Int) by omega]
        refine ⟨_, _, rfl, evb_weak (evb_one (evs_ifF ((evt_eq (ev_len T.len (evq_l (ev_call C2 hr (eva_cons (ev_var 0) (eva_cons (ev_var 1) (eva_cons (ev_call C3 hr3 (eva_cons (ev_var 0) (eva_cons (ev_var 3) (eva_cons (ev_var 4) eva_nil))) (.mk c 1 v (by decide))) eva_nil))) (rr v)))) ev_int).is ?_) evb_nil)) (.same (.same (.same (.same (.any .nil))))), .inl rfl⟩
        rw [lz, decide_eq_false (nz' v hv)]
    · have hf' : lirr c f = false := by
        cases e : lirr c f with
        | false => rfl
        | true => exact absurd e hall
      rw [hf']
      obtain ⟨v1, hv1, hz1⟩ : ∃ v, v < c.T.q ∧ rem (mkP f) (mkP (lmon c 1 v)) = 0 := by
        obtain ⟨v, hv, hz⟩ := List.all_eq_false.mp hf'
        refine ⟨v, List.mem_range.mp hv, ?_⟩
        simpa using hz
      obtain ⟨v0, hle, hz0, hmin⟩ := least (p := fun v => rem (mkP f) (mkP (lmon c 1 v)) = 0) v1 hz1
      refine evb_ret (evs_forR (ds := [.int 1]) (dn := .int 1) (t := .one 3) (W := fun _ => [.val (.fld c.d), .val (c.eL f), .val (.int 2), .any, .any]) 0 rfl ((evi_range2 T.range ev_int (ev_add (ev_fdiv (ev_var 2) ev_int ⟨by decide, by decide⟩) ev_int) (by decide)).is rfl) (evg_one 3 nd) PassesOwn.never rfl (fun i d hi => absurd hi (Nat.not_lt_zero _)) ⟨_, rfl, ?_⟩)
      refine evb_ret (evs_forR (ds := irng 0 1 c.T.q) (dn := .int (v0 : Nat)) (t := .one 4) (W := fun _ => [.val (.fld c.d), .val (c.eL f), .val (.int 2), .val (.int 1), .any]) v0 ?_ ((evi_range1 T.range (ev_call C1 hr1 (eva_cons (ev_var 0) (eva_cons (ev_var 3) eva_nil)) hcnt) (by omega)).is (by rw [Int.toNat_natCast])) (evg_one 4 nd) PassesOwn.never rfl (fun i d hi hd => ?_) ⟨_, rfl, ?_⟩)
      · rw [irng_map, List.getElem?_map, List.getElem?_range (by omega)]
        show some (D.int _) = _
        congr 2
        omega
      · obtain ⟨_, rfl⟩ := irng_get hd
        rw [show (0 : Int) + (i : Int) * 1 = (i : Int) by omega]
        refine ⟨_, _, rfl, evb_weak (evb_one (evs_ifF ((evt_eq (ev_len T.len (evq_l (ev_call C2 hr (eva_cons (ev_var 0) (eva_cons (ev_var 1) (eva_cons (ev_call C3 hr3 (eva_cons (ev_var 0) (eva_cons (ev_var 3) (eva_cons (ev_var 4) eva_nil))) (.mk c 1 i (by decide))) eva_nil))) (rr i)))) ev_int).is ?_) evb_nil)) (.same (.same (.same (.same (.any .nil))))), .inl rfl⟩
        rw [lz, decide_eq_false (hmin i hi)]
      · refine evb_ret (evs_ifT ((evt_eq (ev_len T.len (evq_l (ev_call C2 hr (eva_cons (ev_var 0) (eva_cons (ev_var 1) (eva_cons (ev_call C3 hr3 (eva_cons (ev_var 0) (eva_cons (ev_var 3) (eva_cons (ev_var 4) eva_nil))) (.mk c 1 v0 (by decide))) eva_nil))) (rr v0)))) ev_int).is ?_) (evb_one (evs_ret ev_bl)))
        rw [lz, decide_eq_true hz0]
end
end FM
set_option autoImplicit false
namespace FM
open PySem PySem.Spec PyProof.Rows L2 LamX Pol
section
variable {L : Lc} {X : Cx} {S : SlS} {a b e : Expr} {pos : Pos}
/-- t + u, tuples, t not empty -/
theorem ev_catT {xs ys : List D} (ha : EvE L X a S (.tup xs)) (hb : EvE L X b S (.tup ys)) (hx : xs ≠ []) (hz : xs.length + ys.length ≤ 100000) : EvE L X (.BinOp a .Add b pos) S (.tup (xs ++ ys)) :=
  ev_op op_catT ha hb fun G H v1 v2 Q s i1 i2 q => by
    cases i1 with
    | @tup l _ vs e1 r1 =>
      cases i2 with
      | @tup m _ ws e2 r2 =>
        refine ⟨l, m, vs, ws, rfl, rfl, SqT.of (s _ _ e1), SqT.of (s _ _ e2), fun z => hx ?_, by rw [← r1.length, ← r2.length]; exact small_le hz, fun z => ?_, fun _ p hp => ?_⟩
        · have := r1.length
          rw [z] at this
          exact List.length_eq_zero_iff.mp this
        · subst z
          have : ys = [] := List.length_eq_zero_iff.mp r2.length
          subst this
          refine q G H _ (.refl s) ?_
          rw [List.append_nil]
          exact .tup e1 r1
        · exact q _ _ _ (Grow.new s hp) (.tup upd_same ((r1.append r2).mono (upd_sub (sub_none s hp))))
/-- xs[::-1] -/
theorem evn_revS {xs : List D} {k : Nat} {p1 p2 p3 : Pos} (h : EvQ L X e S true xs) : EvN L X (.Subscript e (.Slice none none (some (.UnaryOp .USub (.Constant (.int 1) k p1) p2)) p3) pos) S xs.reverse :=
  PE.imp (pe_revL h) fun σ H Q ⟨G, R, q⟩ => ⟨G, R, fun G1 H1 l vs g1 hl i1 => ⟨l, vs, rfl, SqL.of hl, fun p hp => q G1 _ p _ (g1.trans (Grow.more g1.gh hp)) (g1.back hp) upd_same (sub_none g1.gh hp) i1.reverse⟩⟩
end
def FC.lk (c : FC) (l : List (Kq c)) : List Int := ((l.length : Int) - 1) :: l.reverse.map fun x => (x.v : Int)
inductive R_law_key : List D → D → Prop
  | mk (c : FC) (l : List (Kq c)) (h : l.length ≤ 100) : R_law_key [.fld c.d, c.eL l] (tI (c.lk l))
/-- the law's pairs -/
def FC.lpr (c : FC) (q : List (Kq c) × Nat) : D := .tup [c.eL q.1, .int (q.2 : Nat)]
def lwP {c : FC} (l : List (Kq c)) : Nat → List (Kq c) → List (Kq c)
  | 0, t => t
  | n + 1, t => trK (mulL (lwP l n t) l)
def lwS {c : FC} : List (List (Kq c) × Nat) → List (Kq c) → List (Kq c)
  | [], t => t
  | q :: qs, t => lwS qs (lwP q.1 q.2 t)
inductive R_law_whole : List D → D → Prop
  | mk (c : FC) (qs : List (List (Kq c) × Nat)) (h : ∀ q ∈ qs, q.1.length ≤ 3 ∧ q.2 ≤ 3) (hn : qs.length ≤ 3) : R_law_whole [.fld c.d, .lst (qs.map c.lpr)] (c.eL (lwS qs [1]))
section
variable {P : Program} {w : World} {K : PySem.W.Frag} {mg : Str → Option Value} {base : Heap} {L : Lc} {f : Addr} {fd : FuncData}
abbrev N_law_key : List Str := ["_law_field_here", "_law_row", "_law_a"]
theorem sc_law_key : FnScope N_law_key ["_law_field_here", "_law_row"] (defScope s__law_key) := ⟨rfl, rfl, rfl, by decide +kernel, rfl, by decide +kernel, by decide +kernel⟩
theorem ok_law_key (T : Txt K mg L) (C1 : FnC P w K mg base L "_law_number" 1 ["_law_p", "_law_a"] R_law_number) (F : FunS K "_law_key" "_law_key" s__law_key f fd) : FnOk P w K mg base CX0 2 f fd ["_law_field_here", "_law_row"] (spD L R_law_key) := by
  refine fn_ev F sc_law_key (fun ds r h => by cases h <;> rfl) fun cdv A outer s H E hr ds r h => ?_
  cases h with
  | mk c l h =>
    have nd := sc_law_key.nd
    have ll : (l.map c.eK).length = l.length := List.length_map ..
    have q1 : [D.int (((l.map c.eK).length : Int) - 1)].length + (l.reverse.map fun x => D.int (x.v : Nat)).length ≤ 100000 := by
      rw [List.length_singleton, List.length_map, List.length_reverse]
      omega
    refine .ret (evb_one (evs_ret ((ev_catT (ev_tup (eva_cons (ev_sub (ev_len T.len (evq_l (ev_var 1))) ev_int) eva_nil)) (ev_tupleL T.tuple (evq_n (evn_lc (own := [("_law_a", 2)]) (t := .one 2) (xs := l.reverse) (en := c.eK) (f := fun x => .int (x.v : Nat)) (evi_list (ev_new ((evn_revS (evq_l (ev_var 1))).is (by rw [← List.map_reverse])))) (lcb (fun _ _ _ _ _ => evg_one 2 nd) rfl fun i d hd => ⟨_, rfl, fun _ _ _ _ _ => ev_call C1 hr (eva_cons (ev_fld_p T.cls (ev_var 0)) (eva_cons (ev_var 2) eva_nil)) (.mk c d)⟩) (by rw [List.length_reverse]; omega) rfl nd (blkOk_by (N := N_law_key) (sc := defScope s__law_key) (by decide +kernel))))) (by simp) q1).is ?_)))
    show D.tup (_ :: List.map _ _) = D.tup (D.int _ :: List.map _ (List.map _ _))
    rw [List.map_map, ll]
    rfl
abbrev N_law_whole : List Str := ["_law_field_here", "_law_pairs", "_law_total", "_law_row", "_law_k", "_law_turn"]
theorem sc_law_whole : FnScope N_law_whole ["_law_field_here", "_law_pairs"] (defScope s__law_whole) := ⟨rfl, rfl, rfl, by decide +kernel, rfl, by decide +kernel, by decide +kernel⟩
theorem trK_len {K : Type} [Fd K] (l : List K) : (trK l).length ≤ l.length := dropZ_len _ _
theorem lwP_len {c : FC} (l t : List (Kq c)) (hl : l.length ≤ 3) : ∀ n, (lwP l n t).length ≤ t.length + 3 * n
  | 0 => Nat.le_refl _
  | n + 1 => by
    have := lwP_len l t hl n
    have h2 := trK_len (mulL (lwP l n t) l)
    unfold mulL at h2
    rw [mulOut_len] at h2
    show (trK (mulL (lwP l n t) l)).length ≤ _
    unfold mulL
    omega
/-- after i pairs -/
def lwT {c : FC} (qs : List (List (Kq c) × Nat)) (i : Nat) : List (Kq c) := lwS (qs.take i) [1]
theorem lwS_app {c : FC} : ∀ (a b : List (List (Kq c) × Nat)) (t : List (Kq c)), lwS (a ++ b) t = lwS b (lwS a t)
  | [], _, _ => rfl
  | q :: a, b, t => lwS_app a b _
theorem lwT_succ {c : FC} {qs : List (List (Kq c) × Nat)} {i : Nat} {q : List (Kq c) × Nat} (h : qs[i]? = some q) : lwT qs (i + 1) = lwP q.1 q.2 (lwT qs i) := by
  unfold lwT
  rw [take_succ_of h, lwS_app]
  rfl
theorem lwT_len {c : FC} {qs : List (List (Kq c) × Nat)} (h : ∀ q ∈ qs, q.1.length ≤ 3 ∧ q.2 ≤ 3) : ∀ i, i ≤ qs.length → (lwT qs i).length ≤ 1 + 9 * i
  | 0, _ => Nat.le_refl _
  | i + 1, hi => by
    have e := List.getElem?_eq_getElem (show i < qs.length by omega)
    have ih := lwT_len h i (by omega)
    obtain ⟨h1, h2⟩ := h _ (List.mem_of_getElem? e)
    rw [lwT_succ e]
    have := lwP_len qs[i].1 (lwT qs i) h1 qs[i].2
    omega
theorem ok_law_whole (T : Txt K mg L) (C1 : FnC P w K mg base L "_law_one" 2 ["_law_field_here"] R_law_one) (C2 : FnC P w K mg base L "_law_product" 4 ["_law_field_here", "_law_f", "_law_g"] R_law_product) (F : FunS K "_law_whole" "_law_whole" s__law_whole f fd) : FnOk P w K mg base CX0 5 f fd ["_law_field_here", "_law_pairs"] (spD L R_law_whole) := by
  refine fn_ev F sc_law_whole (fun ds r h => by cases h <;> rfl) fun cdv A outer s H E hr ds r h => ?_
  cases h with
  | mk c qs h hn =>
    have nd := sc_law_whole.nd
    have hr2 : Room 2 _ := hr.mono (by decide)
    have e0 : lwS qs [1] = lwT qs qs.length := by unfold lwT; rw [List.take_length]
    rw [e0]
    refine .ret (evb_cons (evs_set 2 (d := c.eL (lwT qs 0)) ((ev_new (evn_lst (eva_cons (ev_call C1 hr2 (eva_cons (ev_var 0) eva_nil) (.mk c)) eva_nil))).is rfl) nd) (evb_cons (evs_forT (xs := qs) (en := c.lpr) (t := .two 3 4) (W := fun i => [.val (.fld c.d), .val (.lst (qs.map c.lpr)), .val (c.eL (lwT qs i)), .any, .any, .any]) (evi_list (ev_var 1)) (evg_two 3 4 rfl nd) PassesOwn.never rfl fun i q hq => ?_) (evb_one (evs_ret (ev_var 2)))))
    obtain ⟨h1, h2⟩ := h q (List.mem_of_getElem? hq)
    have hi : i < qs.length := (List.getElem?_eq_some_iff.mp hq).1
    have lT := lwT_len h i (by omega)
    rw [lwT_succ hq]
    refine ⟨_, _, rfl, evb_weak (evb_one (evs_forN (lo := 0) (c := 1) (n := q.2) (t := .one 5) (W := fun j => [.val (.fld c.d), .val (.lst (qs.map c.lpr)), .val (c.eL (lwP q.1 j (lwT qs i))), .val (c.eL q.1), .val (.int (q.2 : Nat)), .any]) ((evi_range1 T.range (ev_var 4) (by omega)).is (by rw [Int.toNat_natCast])) (evg_one 5 nd) PassesOwn.never rfl fun j hj => ?_)) (.same (.same (.same (.any (.any (.any .nil)))))), .inl rfl⟩
    have lP := lwP_len q.1 (lwT qs i) h1 j
    exact ⟨_, _, rfl, evb_weak (evb_one (evs_set 2 (ev_call C2 hr (eva_cons (ev_var 0) (eva_cons (ev_var 2) (eva_cons (ev_var 3) eva_nil))) (.mk c _ _ (by omega) (by omega))) nd)) (.same (.same (.same (.same (.same (.any .nil)))))), .inl rfl⟩
end
end FM
set_option autoImplicit false
namespace FM
open PySem PySem.Spec PyProof.Rows L2 LamX Pol
theorem ev_most {L : Lc} {X : Cx} {S : SlS} {pos : Pos} (T : Txt X.K X.mg L) (hg : Gl X "MOST" := by rfl) : EvE L X (.Name "MOST" pos) S (.int 400) := by
  obtain ⟨t, ht⟩ := T.most
  exact PE.imp (pe_glob (v := .int 400) hg ht ⟨t, rfl⟩) fun σ H Q ⟨G, R, k⟩ => k G H _ (.refl R.sub) (.int 400)
inductive R_checked_modulus : List D → D → Prop
  | mk (c : FC) : R_checked_modulus [.int c.d.p, tI c.d.m] (tI c.d.m)
inductive R_Field : List D → D → Prop
  | mk (c : FC) : R_Field [.int c.d.p, tI c.d.m] (.fld c.d)
section
variable {P : Program} {w : World} {K : PySem.W.Frag} {mg : Str → Option Value} {base : Heap} {L : Lc} {f : Addr} {fd : FuncData}
abbrev N_checked_modulus : List Str := ["p", "modulus", "x", "size", "_"]
theorem sc_checked_modulus : FnScope N_checked_modulus ["p", "modulus"] (defScope s__checked_modulus) := ⟨rfl, rfl, rfl, by decide +kernel, rfl, by decide +kernel, by decide +kernel⟩
theorem FC.pow_le (c : FC) {i : Nat} (h : i ≤ c.T.n) : c.T.p ^ i ≤ 9 := by
  have h6 := c.g0.2.2.2.2.2
  have h5 := c.g0.2.2.2.2.1
  have : c.T.p ^ i ≤ c.T.p ^ c.T.n := Nat.pow_le_pow_right (by have := c.g0.1; omega) h
  omega
theorem ok_checked_modulus (T : Txt K mg L) (C1 : FnC P w K mg base L "is_integer" 1 ["value"] R_is_integer) (C2 : FnC P w K mg base L "is_irreducible_row" 4 ["m", "p"] R_is_irreducible_row) (F : FunS K "_checked_modulus" "_checked_modulus" s__checked_modulus f fd) : FnOk P w K mg base CX0 5 f fd ["p", "modulus"] (spD L R_checked_modulus) := by
  refine fn_ev F sc_checked_modulus (fun ds r h => by cases h <;> rfl) fun cdv A outer s H E hr ds r h => ?_
  cases h with
  | mk c =>
    have nd := sc_checked_modulus.nd
    have hr1 : Room 1 _ := hr.mono (by decide)
    obtain ⟨m1, m2, m3, m4, m5⟩ := c.g6
    have n1 := c.g0.2.1
    have n3 := c.g0.2.2.1
    have pp := c.pp
    have ln : (c.T.m.map D.int).length = c.T.n + 1 := by rw [List.length_map, m3]
    have glast : (c.T.m.map D.int)[c.T.n]? = some (.int 1) := by
      rw [List.getElem?_map, get_of 0 (by omega)]
      have : c.T.m.getD c.T.n 0 = 1 := by
        have h := m5
        unfold lastI at h
        rwa [m3, Nat.add_sub_cancel] at h
      rw [this]
      rfl
    let W : Nat → SlS := fun i => [.val (.int c.d.p), .val (tI c.d.m), .any, .val (.int ((c.T.p ^ i : Nat) : Int)), .any]
    refine .ret (evb_cons (evs_ifF (EvT.is (EvW.t (evw_or (evt_not (evt_val (ev_isi2 T.isinstance T.tuple T.list (ev_var 1) rfl (n := "tuple") (T := "tuple") (U := "list") (r1 := true) (r2 := false) (by decide +kernel) (by decide +kernel)))) fun _ => evw_or1 (evt_lt (ev_len T.len (evq_t (ev_var 1))) ev_int))) ?_) evb_nil) (evb_cons (evs_forT (xs := c.T.m) (en := .int) (t := .one 2) (W := fun _ => [.val (.int c.d.p), .val (tI c.d.m), .any, .any, .any]) (evi_tup (ev_var 1)) (evg_one 2 nd) PassesOwn.never rfl fun i x hx => ?_) (evb_cons (evs_ifF ((evt_ne (ev_ix (evq_t (ev_var 1)) (ev_sub (ev_len T.len (evq_t (ev_var 1))) ev_int) (d := .int 1) (atI_of (j := c.T.n) ?_ glast)) ev_int).is rfl) evb_nil) (evb_cons (evs_set 3 ev_int nd) (evb_cons (evs_pre (S1 := W 0) ?_ (evs_forN (lo := 0) (c := 1) (n := c.T.n) (t := .one 4) (W := W) ((evi_range1 T.range (ev_sub (ev_len T.len (evq_t (ev_var 1))) ev_int) ?_).is ?_) (evg_one 4 nd) PassesOwn.never rfl fun i hi => ?_)) (evb_cons (evs_ifF ((evt_not (evt_val (ev_call C2 hr (eva_cons (ev_tupleT T.tuple (ev_var 1)) (eva_cons (ev_var 0) eva_nil)) (.mk c.T.m c.d.p pp m2)))).is rfl) evb_nil) (evb_one (evs_ret (ev_tupleT T.tuple (ev_var 1))))))))))
    · rw [show (c.d.m.map D.int).length = c.T.n + 1 from ln]
      simp
      omega
    · obtain ⟨x0, x1⟩ := m4 x (List.mem_of_getElem? hx)
      refine ⟨_, _, rfl, evb_weak (evb_one (evs_ifF (EvT.is (EvW.t (evw_or (evt_not (evt_val (ev_call C1 hr1 (eva_cons (ev_var 2) eva_nil) (.mk x)))) fun _ => evw_or (evt_lt (ev_var 2) ev_int) fun _ => evw_or1 (evt_ge (ev_var 2) (ev_var 0)))) ?_) evb_nil)) (.same (.same (.any (.any (.any .nil))))), .inl rfl⟩
      have x1' : x < c.d.p := x1
      simp
      omega
    · rw [show (c.d.m.map D.int).length = c.T.n + 1 from ln]
      omega
    · show Weak _ [_, _, _, .val (.int ((c.T.p ^ 0 : Nat) : Int)), _]
      rw [Nat.pow_zero]
      exact .same (.same (.same (.same (.same .nil))))
    · rw [show (c.d.m.map D.int).length = c.T.n + 1 from ln]
      omega
    · rw [show (c.d.m.map D.int).length = c.T.n + 1 from ln]
      congr 1
      omega
    · have p9 := c.pow_le (i := i + 1) (by omega)
      have ee : ((c.T.p ^ i : Nat) : Int) * c.d.p = ((c.T.p ^ (i + 1) : Nat) : Int) := by rw [Nat.pow_succ, Int.natCast_mul]; rfl
      refine ⟨_, _, rfl, evb_weak (evb_cons (evs_set 3 ((ev_mul (ev_var 3) (ev_var 0) (.inr ⟨?_, ?_⟩)).is (congrArg D.int ee)) nd) (evb_one (evs_ifF ((evt_gt (ev_var 3) (ev_most T)).is (decide_eq_false ?_)) evb_nil))) (.same (.same (.any (.same (.any .nil))))), .inl rfl⟩
      · have := pp.pos
        omega
      · have := pp.le
        omega
      · omega
/-! ### Field.__init__ -/
abbrev N_F_init : List Str := ["self", "p", "modulus", "q", "_"]
theorem sc_F_init : FnScope N_F_init ["self", "p", "modulus"] (defScope s_Field_m___init__) := ⟨rfl, rfl, rfl, by decide +kernel, rfl, by decide +kernel, by decide +kernel⟩
theorem ok_F_init {dvs : List V} {kws : List (Str × V)} (T : Txt K mg L) (C1 : FnC P w K mg base L "is_integer" 1 ["value"] R_is_integer) (C2 : FnC P w K mg base L "is_prime" 2 ["n"] R_is_prime) (C3 : FnC P w K mg base L "_checked_modulus" 5 ["p", "modulus"] R_checked_modulus) (F : FunD K "__init__" "Field.__init__" (defArgs s_Field_m___init__) (defBody s_Field_m___init__) (defScope s_Field_m___init__) dvs kws f fd) : FnOk P w K mg base CX0 6 f fd ["self", "p", "modulus"] (spI L L.CF R_Field) := by
  refine init_ev F sc_F_init (fun ds r h => by cases h <;> rfl) fun cdv A outer s H E hr ds r h z => ?_
  cases h with
  | mk c =>
    have nd := sc_F_init.nd
    have hr1 : Room 1 _ := hr.mono (by decide)
    have hr2 : Room 2 _ := hr.mono (by decide)
    have pp := c.pp
    have m3 := c.g6.2.2.1
    have n3 := c.g0.2.2.1
    have qe := c.g0.2.2.2.2.2
    let I3 : List (Str × D) := [("modulus", tI c.d.m), ("p", .int c.d.p), ("n", .int c.d.n)]
    let W : Nat → SlS := fun i => [.inst (z, L.CF) I3, .val (.int c.d.p), .val (tI c.d.m), .val (.int ((c.T.p ^ i : Nat) : Int)), .any]
    refine ⟨[("modulus", tI c.d.m), ("p", .int c.d.p), ("n", .int c.d.n), ("q", .int c.d.q)], _, ⟨rfl, rfl, rfl, rfl, rfl, c.d.m, rfl, rfl⟩, ?_, evb_cons (evs_ifF (EvT.is (EvW.t (evw_or (evt_not (evt_val (ev_call C1 hr1 (eva_cons (ev_var 1) eva_nil) (.mk _)))) fun _ => evw_or1 (evt_not (evt_val (ev_call C2 hr2 (eva_cons (ev_var 1) eva_nil) (.mk _ pp)))))) rfl) evb_nil) (evb_cons (evs_selfset 0 (ev_call C3 hr (eva_cons (ev_var 1) (eva_cons (ev_var 2) eva_nil)) (.mk c)) T.cls.cF T.cls.nm) (evb_cons (evs_selfset 0 (ev_var 1) T.cls.cF T.cls.np (hnew := by show _ ∉ [("modulus" : Str)]; decide) (hlen := by show (1 : Nat) < 1000; decide))
      (evb_cons (evs_selfset 0 (d := .int c.d.n) ((ev_sub (ev_len T.len (evq_t (ev_selfget 0 (d := tI c.d.m) T.cls.cF T.cls.nm))) ev_int).is ?_) T.cls.cF T.cls.nn (hnew := by show _ ∉ [("modulus" : Str), "p"]; decide) (hlen := by show (2 : Nat) < 1000; decide)) (evb_cons (evs_set 3 ev_int nd) (evb_cons (evs_pre (S1 := W 0) ?_ (evs_forN (lo := 0) (c := 1) (n := c.T.n) (t := .one 4) (W := W) ((evi_range1 T.range (ev_selfget 0 (d := .int c.d.n) T.cls.cF T.cls.nn) ?_).is ?_) (evg_one 4 nd) PassesOwn.never rfl fun i hi => ?_)) (evb_one (evs_selfset 0 (d := .int c.d.q) ((ev_var 3).is ?_) T.cls.cF T.cls.nq (hnew := by show _ ∉ [("modulus" : Str), "p", "n"]; decide) (hlen := by show (3 : Nat) < 1000; decide))))))))⟩
    · rfl
    · rw [List.length_map]
      show D.int ((c.T.m.length : Int) - 1) = D.int (c.T.n : Int)
      rw [m3]
      congr 1
      omega
    · show Weak _ [_, _, _, .val (.int ((c.T.p ^ 0 : Nat) : Int)), _]
      rw [Nat.pow_zero]
      exact .same (.same (.same (.same (.any .nil))))
    · show -100000 ≤ (c.T.n : Int) ∧ (c.T.n : Int) ≤ 100000
      omega
    · show irng 0 1 (c.T.n : Int).toNat = _
      rw [Int.toNat_natCast]
    · have ee : ((c.T.p ^ i : Nat) : Int) * c.d.p = ((c.T.p ^ (i + 1) : Nat) : Int) := by rw [Nat.pow_succ, Int.natCast_mul]; rfl
      refine ⟨_, _, rfl, evb_weak (evb_one (evs_set 3 ((ev_mul (ev_var 3) (ev_var 1) (.inr ⟨?_, ?_⟩)).is (congrArg D.int ee)) nd)) (.same (.same (.same (.same (.any .nil))))), .inl rfl⟩
      · have := pp.pos
        omega
      · have := pp.le
        omega
    · show D.int ((c.T.p ^ c.T.n : Nat) : Int) = D.int (c.T.q : Int)
      rw [← qe]
end
end FM
set_option autoImplicit false
namespace FM
open PySem PySem.Spec PyProof.Rows L2 LamX Pol
theorem boot_sum : bootBuiltins "sum" = some (.builtin "sum") := by decide +kernel
theorem ev_sum {L : Lc} {X : Cx} {S : SlS} {e : Expr} {p pos : Pos} {xs : List Int} (hm : X.mg "sum" = none) (hc : X.calm = true) (h : EvQ L X e S true (xs.map .int)) (hg : Gl X "sum" := by rfl) (he : starEach (e :: []) X.env = (false, eval e X.env) :: starEach [] X.env := by rfl) : EvE L X (.Call (.Name "sum" p) [e] [] pos) S (.int xs.sum) :=
  PE.imp (pe_callB (cr_sum hc) hg hm boot_sum (pa_cons h pa_nil he) (by decide) (by decide) he (by rfl)) fun σ H Q ⟨G, R, q⟩ => ⟨G, R, fun G' H' a vs g ha i => by
    rw [i.ints] at ha
    exact ⟨a, xs, rfl, SqL.of ha, q G' H' _ g (.int _)⟩⟩
/-- the law's own choice of a modulus -/
def lrow (p n v : Nat) : List Int := dig p n v ++ [1]
def lpow (x : Int) (k : Nat) : Int := [1, x, x * x, x * x * x].getD k 0
def lval (p n v x : Nat) : Int := ((List.range (n + 1)).map fun k => (lrow p n v).getD k 0 * lpow x k).sum % (p : Int)
def lgood (p n v : Nat) : Bool := decide (n = 1) || !decide ((0 : Int) ∈ (List.range p).map fun x => lval p n v x)
inductive R_law_modulus : List D → D → Prop
  | mk (p n v t : Nat) (hp : 2 ≤ p) (hp2 : p ≤ 5) (hn : 1 ≤ n) (hn2 : n ≤ 3) (ht : t < 200) (hg : lgood p n (v + t) = true) (hb : ∀ i, i < t → lgood p n (v + i) = false) : R_law_modulus [.int (p : Nat), .int (n : Nat), .int (v : Nat)] (tI (lrow p n (v + t)))
section
variable {P : Program} {w : World} {K : PySem.W.Frag} {mg : Str → Option Value} {base : Heap} {L : Lc} {f : Addr} {fd : FuncData}
abbrev N_law_modulus : List Str := ["_law_p", "_law_n", "_law_number_here", "_law_turn", "_law_row", "_law_values", "_law_x", "_law_k"]
theorem sc_law_modulus : FnScope N_law_modulus ["_law_p", "_law_n", "_law_number_here"] (defScope s__law_modulus) := ⟨rfl, rfl, rfl, by decide +kernel, rfl, by decide +kernel, by decide +kernel⟩
theorem dig_len (p n v : Nat) : (dig p n v).length = n := by
  unfold dig
  rw [List.length_map, List.length_range]
theorem lrow_bd {p n v : Nat} (hp : 2 ≤ p) (hp2 : p ≤ 5) (k : Nat) : -2 ^ 64 < (lrow p n v).getD k 0 ∧ (lrow p n v).getD k 0 < 2 ^ 64 := by
  rw [List.getD_eq_getElem?_getD]
  cases e : (lrow p n v)[k]? with
  | none => exact ⟨by decide, by decide⟩
  | some z =>
    show -2 ^ 64 < z ∧ z < 2 ^ 64
    rcases List.mem_append.mp (List.mem_of_getElem? e) with h | h
    · obtain ⟨i, _, rfl⟩ := List.mem_map.mp h
      have := Nat.mod_lt (v / p ^ i) (show 0 < p by omega)
      omega
    · rw [List.mem_singleton.mp h]
      decide
theorem ok_law_modulus (T : Txt K mg L) (C1 : FnC P w K mg base L "_law_member" 1 ["_law_p", "_law_n", "_law_number_here"] R_law_member) (F : FunS K "_law_modulus" "_law_modulus" s__law_modulus f fd) : FnOk P w K mg base CX0 2 f fd ["_law_p", "_law_n", "_law_number_here"] (spD L R_law_modulus) := by
  refine fn_ev F sc_law_modulus (fun ds r h => by cases h <;> rfl) fun cdv A outer s H E hr ds r h => ?_
  cases h with
  | mk p n v t hp hp2 hn hn2 ht hg hb =>
    have nd := sc_law_modulus.nd
    let W : Nat → SlS := fun _ => [.val (.int (p : Nat)), .val (.int (n : Nat)), .val (.int (v : Nat)), .any, .any, .any, .any, .any]
    have row : ∀ i, (lrow p n (v + i)).length = n + 1 := fun i => by unfold lrow; rw [List.length_append, dig_len]; rfl
    have q1 : ∀ i, (dig p n (v + i)).map D.int ≠ [] := fun i z => by
      have := congrArg List.length z
      rw [List.length_map, dig_len] at this
      simp at this
      omega
    have q2 : ∀ i, ((dig p n (v + i)).map D.int).length + [D.int 1].length ≤ 100000 := fun i => by
      rw [List.length_map, dig_len, List.length_singleton]
      omega
    have q3 : ∀ i, D.tup ((dig p n (v + i)).map D.int ++ [D.int 1]) = tI (lrow p n (v + i)) := fun i => by
      unfold tI lrow
      rw [List.map_append]
      rfl
    have q4 : irng 0 1 ((n : Int) + 1).toNat = (List.range (n + 1)).map fun (i : Nat) => D.int (0 + (i : Int) * 1) := by
      rw [show ((n : Int) + 1).toNat = n + 1 by omega, irng_map]
    have q5 : ∀ i k, k < n + 1 → ((lrow p n (v + i)).map D.int)[k]? = some (.int ((lrow p n (v + i)).getD k 0)) := fun i k hk => by
      rw [List.getElem?_map, get_of 0 (by rw [row]; exact hk)]
      rfl
    have q6 : ∀ x : Nat, x < p → CMul (0 + (x : Int) * 1) (0 + (x : Int) * 1) := fun x hx => .inl ⟨by omega, by omega⟩
    have q7 : ∀ x : Nat, x < p → CMul ((0 + (x : Int) * 1) * (0 + (x : Int) * 1)) (0 + (x : Int) * 1) := fun x hx => .inr ⟨by omega, by omega⟩
    have q8 : ∀ (x k : Nat), k < n + 1 → [D.int 1, D.int (0 + (x : Int) * 1), D.int ((0 + (x : Int) * 1) * (0 + (x : Int) * 1)), D.int ((0 + (x : Int) * 1) * (0 + (x : Int) * 1) * (0 + (x : Int) * 1))][k]? = some (.int (lpow x k)) := fun x k hk => by
      have : k = 0 ∨ k = 1 ∨ k = 2 ∨ k = 3 := by omega
      have e : (0 + (x : Int) * 1) = x := by omega
      rw [e]
      rcases this with h | h | h | h <;> subst h <;> rfl
    have q9 : ∀ i (x : Nat), (List.range (n + 1)).map (fun k => D.int ((lrow p n (v + i)).getD k 0 * lpow x k)) = ((List.range (n + 1)).map fun k => (lrow p n (v + i)).getD k 0 * lpow x k).map D.int := fun i x => by
      rw [List.map_map]
      rfl
    have bo : BlkOk N_law_modulus { kind := .function, names := [(".0", .local), ("_law_x", .cell), ("sum", .globalImplicit), ("range", .globalImplicit), ("_law_n", .cell), ("_law_p", .cell), ("_law_row", .cell)], isGenerator := false, isCoroutine := false } { kind := .function, names := [(".0", .local), ("_law_k", .local), ("_law_row", .free), ("_law_x", .free)], isGenerator := false, isCoroutine := false } [("_law_k", 7)] := blkOk_by (by decide +kernel)
    have gd : ∀ i, (decide ((n : Int) = 1) || !decide ((0 : Int) ∈ (List.range p).map fun x => lval p n (v + i) x)) = lgood p n (v + i) := fun i => by
      unfold lgood
      congr 1
      by_cases z : n = 1
      · rw [decide_eq_true z, decide_eq_true (by omega)]
      · rw [decide_eq_false z, decide_eq_false (by omega)]
    have ow : ∀ i, (List.range p).map (fun x => D.int (lval p n (v + i) x)) = ((List.range p).map fun x => lval p n (v + i) x).map D.int := fun i => by
      rw [List.map_map]
      rfl
    refine .ret (evb_ret (evs_forR (ds := irng 0 1 200) (dn := .int (t : Nat)) (t := .one 3) (W := W) t ?_ ((evi_range1 T.range ev_int (by decide)).is rfl) (evg_one 3 nd) PassesOwn.never rfl (fun i d hi hd => ?_) ⟨_, rfl, ?_⟩))
    · rw [irng_map, List.getElem?_map, List.getElem?_range ht]
      show some (D.int _) = _
      congr 2
      omega
    · obtain ⟨_, rfl⟩ := irng_get hd
      rw [show (0 : Int) + (i : Int) * 1 = (i : Int) by omega]
      exact ⟨_, _, rfl, evb_weak (evb_cons (evs_set 4 (d := tI (lrow p n (v + i))) ((ev_catT (xs := (dig p n (v + i)).map .int) (ys := [.int 1]) (ev_call C1 hr (eva_cons (ev_var 0) (eva_cons (ev_var 1) (eva_cons ((ev_add (ev_var 2) (ev_var 3)).is (c := .int ((v + i : Nat) : Int)) (by congr 1)) eva_nil))) (.mk p n (v + i) hp (by omega) (by omega))) (ev_tup (eva_cons ev_int eva_nil)) (q1 i) (q2 i)).is (q3 i)) nd) (evb_cons (evs_lc 5 (own := [("_law_x", 6)]) (t := .one 6) (xs := List.range p) (en := fun (i : Nat) => .int (0 + (i : Int) * 1)) (f := fun x => .int (lval p n (v + i) x)) ((evi_range1 T.range (ev_var 0) (by omega)).is (by rw [Int.toNat_natCast, irng_map]))
        (lcb (fun _ _ _ _ _ => evg_one 6 nd) rfl fun j x hx => ⟨_, rfl, fun _ _ _ _ _ => ev_mod (ev_sum T.sum rfl (evq_n ((evn_lc (own := [("_law_k", 7)]) (t := .one 7) (xs := List.range (n + 1)) (en := fun (i : Nat) => .int (0 + (i : Int) * 1)) (f := fun k => .int ((lrow p n (v + i)).getD k 0 * lpow x k)) ((evi_range1 T.range (ev_add (ev_var 1) ev_int) (by omega)).is q4) (lcb (fun _ _ _ _ _ => evg_one 7 nd) rfl fun j2 k hk => ⟨_, rfl, fun _ _ _ _ _ => ev_mul (ev_ix (evq_t (xs := (lrow p n (v + i)).map .int) (ev_var 4)) (ev_var 7) (d := .int ((lrow p n (v + i)).getD k 0)) (atI_of (j := k) (by omega) (q5 i k (List.mem_range.mp (List.mem_of_getElem? hk))))) (ev_ix (evq_n (evn_lst (eva_cons ev_int (eva_cons (ev_var 6) (eva_cons (ev_mul (ev_var 6) (ev_var 6) (q6 x (List.mem_range.mp (List.mem_of_getElem? hx)))) (eva_cons (ev_mul (ev_mul (ev_var 6) (ev_var 6) (q6 x (List.mem_range.mp (List.mem_of_getElem? hx)))) (ev_var 6) (q7 x (List.mem_range.mp (List.mem_of_getElem? hx)))) eva_nil)))))) (ev_var 7) (d := .int (lpow x k)) (atI_of (j := k) (by omega) (q8 x k (List.mem_range.mp (List.mem_of_getElem? hk))))) (.inl (lrow_bd hp hp2 k))⟩) (by rw [List.length_range]; omega) rfl nd bo).is (q9 i x)))) (ev_var 0) (by omega)⟩) (by rw [List.length_range]; omega) rfl nd (blkOk_by (N := N_law_modulus) (sc := defScope s__law_modulus) (by decide +kernel)) (sw_true rfl rfl rfl (by decide +kernel))) (evb_one (evs_ifF (EvT.is (EvW.t (evw_or (evt_eq (ev_var 1) ev_int) fun _ => evw_or1 (evt_notin (k := true) (xs := (List.range p).map fun x => lval p n (v + i) x) ev_int (by rw [← ow i]; exact evq_own 5)))) ((gd i).trans (hb i hi))) evb_nil)))) (.same (.same (.same (.any (.any (.any (.any (.any .nil)))))))), .inl rfl⟩
    · exact evb_cons (evs_set 4 (d := tI (lrow p n (v + t))) ((ev_catT (xs := (dig p n (v + t)).map .int) (ys := [.int 1]) (ev_call C1 hr (eva_cons (ev_var 0) (eva_cons (ev_var 1) (eva_cons ((ev_add (ev_var 2) (ev_var 3)).is (c := .int ((v + t : Nat) : Int)) (by congr 1)) eva_nil))) (.mk p n (v + t) hp (by omega) (by omega))) (ev_tup (eva_cons ev_int eva_nil)) (q1 t) (q2 t)).is (q3 t)) nd) (evb_cons (evs_lc 5 (own := [("_law_x", 6)]) (t := .one 6) (xs := List.range p) (en := fun (i : Nat) => .int (0 + (i : Int) * 1)) (f := fun x => .int (lval p n (v + t) x)) ((evi_range1 T.range (ev_var 0) (by omega)).is (by rw [Int.toNat_natCast, irng_map]))
        (lcb (fun _ _ _ _ _ => evg_one 6 nd) rfl fun j x hx => ⟨_, rfl, fun _ _ _ _ _ => ev_mod (ev_sum T.sum rfl (evq_n ((evn_lc (own := [("_law_k", 7)]) (t := .one 7) (xs := List.range (n + 1)) (en := fun (i : Nat) => .int (0 + (i : Int) * 1)) (f := fun k => .int ((lrow p n (v + t)).getD k 0 * lpow x k)) ((evi_range1 T.range (ev_add (ev_var 1) ev_int) (by omega)).is q4) (lcb (fun _ _ _ _ _ => evg_one 7 nd) rfl fun j2 k hk => ⟨_, rfl, fun _ _ _ _ _ => ev_mul (ev_ix (evq_t (xs := (lrow p n (v + t)).map .int) (ev_var 4)) (ev_var 7) (d := .int ((lrow p n (v + t)).getD k 0)) (atI_of (j := k) (by omega) (q5 t k (List.mem_range.mp (List.mem_of_getElem? hk))))) (ev_ix (evq_n (evn_lst (eva_cons ev_int (eva_cons (ev_var 6) (eva_cons (ev_mul (ev_var 6) (ev_var 6) (q6 x (List.mem_range.mp (List.mem_of_getElem? hx)))) (eva_cons (ev_mul (ev_mul (ev_var 6) (ev_var 6) (q6 x (List.mem_range.mp (List.mem_of_getElem? hx)))) (ev_var 6) (q7 x (List.mem_range.mp (List.mem_of_getElem? hx)))) eva_nil)))))) (ev_var 7) (d := .int (lpow x k)) (atI_of (j := k) (by omega) (q8 x k (List.mem_range.mp (List.mem_of_getElem? hk))))) (.inl (lrow_bd hp hp2 k))⟩) (by rw [List.length_range]; omega) rfl nd bo).is (q9 t x)))) (ev_var 0) (by omega)⟩) (by rw [List.length_range]; omega) rfl nd (blkOk_by (N := N_law_modulus) (sc := defScope s__law_modulus) (by decide +kernel)) (sw_true rfl rfl rfl (by decide +kernel))) (evb_ret (evs_ifT (EvT.is (EvW.t (evw_or (evt_eq (ev_var 1) ev_int) fun _ => evw_or1 (evt_notin (k := true) (xs := (List.range p).map fun x => lval p n (v + t) x) ev_int (by rw [← ow t]; exact evq_own 5)))) ((gd t).trans hg)) (evb_one (evs_ret (ev_var 4))))))
end
end FM
set_option autoImplicit false
namespace FM
open PySem PySem.Spec PyProof.Rows L2 LamX Pol
def sizes : List (Nat × Nat) := [(2, 1), (3, 1), (2, 2), (5, 1), (3, 2), (2, 3)]
def lmodB (p n v t : Nat) : Bool := lgood p n (v + t) && ((List.range t).all fun i => !lgood p n (v + i)) && tabs.any fun T => decide (T.p = p) && decide (T.n = n) && decide (T.m = lrow p n (v + t))
theorem lmod_tab : (sizes.all fun q => (List.range q.1).all fun v => (List.range 20).any fun t => lmodB q.1 q.2 v t) = true := by decide +kernel
theorem sizes_ok : ∀ q ∈ sizes, 2 ≤ q.1 ∧ q.1 ≤ 5 ∧ 1 ≤ q.2 ∧ q.2 ≤ 3 := by decide
theorem lmod_ok {q : Nat × Nat} (hq : q ∈ sizes) {v : Nat} (hv : v < q.1) : ∃ c : FC, c.d.p = (q.1 : Nat) ∧ c.d.n = (q.2 : Nat) ∧ R_law_modulus [.int (q.1 : Nat), .int (q.2 : Nat), .int (v : Nat)] (tI c.d.m) := by
  have h := List.all_eq_true.mp (List.all_eq_true.mp lmod_tab q hq) v (List.mem_range.mpr hv)
  obtain ⟨t, ht, h⟩ := List.any_eq_true.mp h
  unfold lmodB at h
  rw [Bool.and_eq_true, Bool.and_eq_true, List.all_eq_true] at h
  obtain ⟨⟨h1, h2⟩, h3⟩ := h
  obtain ⟨T, hT, h4⟩ := List.any_eq_true.mp h3
  rw [Bool.and_eq_true, Bool.and_eq_true] at h4
  obtain ⟨⟨h5, h6⟩, h7⟩ := h4
  have h5 := of_decide_eq_true h5
  have h6 := of_decide_eq_true h6
  have h7 := of_decide_eq_true h7
  obtain ⟨a1, a2, a3, a4⟩ := sizes_ok q hq
  have ht' := List.mem_range.mp ht
  refine ⟨⟨T, hT⟩, by show (T.p : Int) = _; rw [h5], by show (T.n : Int) = _; rw [h6], ?_⟩
  show R_law_modulus _ (tI T.m)
  rw [h7]
  refine .mk q.1 q.2 v t a1 a2 a3 a4 (by omega) h1 fun i hi => ?_
  have := h2 i (List.mem_range.mpr hi)
  simpa using this
/-! ## the list that is popped: a pure part leaves it -/
section
variable {L : Lc} {S : SlS} {σ : L2.St} {H G : Hp}
/-- the base: all but the slots' own objects -/
noncomputable def baseH (S : SlS) (σ : L2.St) (H : Hp) : Hp := by
  classical
  exact fun a => if ∃ i, Owns S i ∧ σ[i]? = some (some (.ref a)) then none else H a
theorem baseH_own {i : Nat} {l : Addr} (h : Owns S i) (e : σ[i]? = some (some (.ref l))) : baseH S σ H l = none := by
  unfold baseH
  exact if_pos ⟨i, h, e⟩
theorem baseH_ne {l : Addr} (h : ¬ ∃ i, Owns S i ∧ σ[i]? = some (some (.ref l))) : baseH S σ H l = H l := by
  unfold baseH
  exact if_neg h
theorem baseH_get {a : Addr} {o : HO} (e : baseH S σ H a = some o) : H a = some o ∧ ¬ ∃ i, Owns S i ∧ σ[i]? = some (some (.ref a)) := by
  unfold baseH at e
  by_cases q : ∃ i, Owns S i ∧ σ[i]? = some (some (.ref a))
  · rw [if_pos q] at e
    cases e
  · rw [if_neg q] at e
    exact ⟨e, q⟩
/-- the same state over the finer base -/
theorem Rep.fine {B : Bs} (R : Rep L B S σ H G) : Rep L ⟨baseH S σ H, G⟩ S σ H G := by
  refine ⟨R.r, ⟨fun _ _ e => e, fun a o e _ => (baseH_get e).1, R.r.sub, fun a h _ => h, fun _ => R.r.tabs.t, fun n => n, fun a ps e => ⟨ps, (baseH_get e).1⟩⟩, fun i l ho e => baseH_own ho e⟩
/-- and back -/
theorem Rep.coarse {B : Bs} {H' G' : Hp} (R : Rep L B S σ H G) (g : Grow L G (baseH S σ H) G' H') : Grow L B.G B.H G' H' where
  gg := fun a o e => g.gg a o (R.g.gg a o e)
  hh := fun a o e nt => by
    have h1 := R.g.hh a o e nt
    have h2 : baseH S σ H a = some o := by
      rw [baseH_ne]
      · exact h1
      · rintro ⟨i, ho, ei⟩
        rw [R.o i a ho ei] at e
        cases e
    exact g.hh a o h2 nt
  gh := g.gh
  fr := fun a h1 h2 => by
    have h3 := R.g.fr a h1 h2
    have h4 := R.g.ne h2
    refine g.fr a h3 ?_
    rw [baseH_ne]
    · exact h4
    · rintro ⟨i, ho, ei⟩
      exact h2 (R.o i a ho ei)
  tb := fun t => by
    have t1 := R.g.tb t
    refine g.tb (tabs_keep t1 fun b o e n1 n2 => ?_)
    rw [baseH_ne]
    · exact e
    · rintro ⟨i, ho, ei⟩
      obtain ⟨⟨o', e', hk⟩, _⟩ := R.r.owned ho ei
      rw [e] at e'
      cases e'
      rcases hk with ⟨vs, rfl⟩ | ⟨C, dx, fs, rfl⟩
      · exact n1 _ rfl
      · exact n2 _ _ _ rfl
  nt := fun n => g.nt (R.g.nt n)
  tt := fun x ps e => by
    obtain ⟨p1, e1⟩ := R.g.tt x ps e
    refine g.tt x p1 ?_
    rw [baseH_ne]
    · exact e1
    · rintro ⟨i, ho, ei⟩
      rw [R.o i x ho ei] at e
      cases e
end
end FM
set_option autoImplicit false
namespace FM
open PySem PySem.Spec PyProof.Rows L2 LamX Pol
/-! ## states with the list that is popped -/
structure NR (L : Lc) (B : Bs) (S : SlS) (l : Addr) (ys : List Int) (σ : L2.St) (H G : Hp) : Prop where
  r : Rep L B S σ H G
  b : B.H l = none
  h : H l = some (.lst (ys.map V.int))
  g : G l = none
  no : ∀ i, Owns S i → σ[i]? ≠ some (some (.ref l))
section
variable {L : Lc} {B : Bs} {S S' : SlS} {l : Addr} {ys : List Int} {σ σ' : L2.St} {H G H' G' : Hp}
theorem NR.baseL (N : NR L B S l ys σ H G) : baseH S σ H l = some (.lst (ys.map V.int)) := by
  rw [baseH_ne]
  · exact N.h
  · rintro ⟨i, ho, e⟩
    exact N.no i ho e
/-- what a pure part did -/
theorem NR.after (N : NR L B S l ys σ H G) (R' : Rep L ⟨baseH S σ H, G⟩ S' σ' H' G') : NR L B S' l ys σ' H' G' where
  r := ⟨R'.r, N.r.coarse R'.g, fun i a ho e => by
    have h1 : baseH S σ H a = none := R'.o i a ho e
    cases q : B.H a with
    | none => rfl
    | some o =>
      have h2 := N.r.g.ne (x := a) (by rw [q]; exact fun z => by cases z)
      rw [baseH_ne] at h1
      · exact absurd h1 h2
      · rintro ⟨j, hj, ej⟩
        rw [N.r.o j a hj ej] at q
        cases q⟩
  b := N.b
  h := R'.g.hh l _ N.baseL fun ps z => by cases z
  g := R'.g.fr l N.g (by show baseH S σ H l ≠ none; rw [N.baseL]; exact fun z => by cases z)
  no := fun i ho e => by
    have h1 : baseH S σ H l = none := R'.o i l ho e
    rw [N.baseL] at h1
    cases h1
/-- an expression without effect -/
theorem NR.grow (N : NR L B S l ys σ H G) (g : Grow L G H G' H') : NR L B S l ys σ H' G' :=
  ⟨N.r.grow g, N.b, g.hh _ _ N.h (fun ps z => by cases z), g.fr l N.g (by rw [N.h]; exact fun z => by cases z), N.no⟩
end
inductive NOut where
  | nx (S : SlS) (ys : List Int)
  | ret (d : D) (ys : List Int)
def TNe (L : Lc) (B : Bs) (l : Addr) (G : Hp) (D : Ends) : NOut → Prop
  | .nx S' ys => ∀ σ' H' G', Sub G G' → NR L B S' l ys σ' H' G' → D.nx σ' H'
  | .ret d ys => ∀ G' H' v, Grow L B.G B.H G' H' → H' l = some (.lst (ys.map V.int)) → G' l = none → Is L G' d v → D.rt v H'
def TNs (L : Lc) (l : Addr) (S : SlS) (ys : List Int) (o : NOut) : TS := fun D σ H => ∃ B G, NR L B S l ys σ H G ∧ TNe L B l G D o
def EvSN (L : Lc) (X : Cx) (l : Addr) (st : Stmt) (S : SlS) (ys : List Int) (o : NOut) : Prop := PS X st (TNs L l S ys o)
def EvBN (L : Lc) (X : Cx) (l : Addr) (sts : List Stmt) (S : SlS) (ys : List Int) (o : NOut) : Prop := PSs X sts (TNs L l S ys o)
section
variable {L : Lc} {X : Cx} {l : Addr} {st : Stmt} {rest : List Stmt} {S S' : SlS} {ys zs : List Int} {o : NOut}
theorem evsn_pure (h : EvS L X st S (.nx S')) : EvSN L X l st S ys (.nx S' ys) :=
  PS.imp h fun D σ H ⟨B, G, N, q⟩ => ⟨⟨baseH S σ H, G⟩, G, N.r.fine, fun σ' H' G' s R' => q σ' H' G' s (N.after R')⟩
theorem evsn_pureR {d : D} (h : EvS L X st S (.ret d)) : EvSN L X l st S ys (.ret d ys) :=
  PS.imp h fun D σ H ⟨B, G, N, q⟩ => ⟨⟨baseH S σ H, G⟩, G, N.r.fine, fun G' H' v g i => q G' H' v (N.r.coarse g) (g.hh l _ N.baseL (fun ps z => by cases z)) (g.fr l N.g (by show baseH S σ H l ≠ none; rw [N.baseL]; exact fun z => by cases z)) i⟩
theorem evbn_one (h : EvSN L X l st S ys o) : EvBN L X l [st] S ys o := pss_one h
theorem evbn_nil : EvBN L X l [] S ys (.nx S ys) := PSs.imp pss_nil fun D σ H ⟨B, G, N, q⟩ => q σ H G (fun _ _ e => e) N
theorem TNe.sub {B : Bs} {G G' : Hp} {D : Ends} (s : Sub G G') : ∀ {o : NOut}, TNe L B l G D o → TNe L B l G' D o
  | .nx _ _, h => fun σ' H' G2 s2 => h σ' H' G2 fun a u e => s2 a u (s a u e)
  | .ret _ _, h => h
theorem evbn_cons (h : EvSN L X l st S ys (.nx S' zs)) (hr : EvBN L X l rest S' zs o) : EvBN L X l (st :: rest) S ys o :=
  PSs.imp (pss_cons h hr) fun D σ H ⟨B, G, N, q⟩ => ⟨B, G, N, fun σ' H' G' s N' => ⟨B, G', N', q.sub s⟩⟩
theorem evbn_ret {d : D} (h : EvSN L X l st S ys (.ret d zs)) : EvBN L X l (st :: rest) S ys (.ret d zs) :=
  PSs.imp (pss_cons h (never_ss rest)) fun D σ H ⟨B, G, N, q⟩ => ⟨B, G, N, q⟩
/-! ### expressions that pop -/
def TXn (L : Lc) (l : Addr) (S : SlS) (ys : List Int) (d : D) (zs : List Int) : TE := fun σ H Q => ∃ B G, NR L B S l ys σ H G ∧ ∀ G' H' v, Sub G G' → NR L B S l zs σ H' G' → Is L G' d v → Q v H'
def EvX (L : Lc) (X : Cx) (l : Addr) (e : Expr) (S : SlS) (ys : List Int) (d : D) (zs : List Int) : Prop := PE X e (TXn L l S ys d zs)
def TXa (L : Lc) (l : Addr) (S : SlS) (ys : List Int) (ds : List D) (zs : List Int) : TA := fun σ H Q => ∃ B G, NR L B S l ys σ H G ∧ ∀ G' H' vs, Sub G G' → NR L B S l zs σ H' G' → IsL L G' ds vs → Q vs H'
def EvXA (L : Lc) (X : Cx) (l : Addr) (es : List Expr) (S : SlS) (ys : List Int) (ds : List D) (zs : List Int) : Prop := PA X es (TXa L l S ys ds zs)
theorem evx_pure {e : Expr} {d : D} (h : EvE L X e S d) : EvX L X l e S ys d ys := PE.imp h fun σ H Q ⟨B, G, N, q⟩ => ⟨G, N.r.r, fun G' H' v g i => q G' H' v g.gg (N.grow g) i⟩
theorem evxa_nil : EvXA L X l [] S ys [] ys := PA.imp pa_nil fun σ H Q ⟨B, G, N, q⟩ => q G H [] (fun _ _ e => e) N .nil
theorem evxa_cons {e : Expr} {es : List Expr} {d : D} {ds : List D} {ws : List Int} (ha : EvX L X l e S ys d zs) (hr : EvXA L X l es S zs ds ws) (hs : starEach (e :: es) X.env = (false, eval e X.env) :: starEach es X.env := by rfl) : EvXA L X l (e :: es) S ys (d :: ds) ws :=
  PA.imp (pa_cons ha hr hs) fun σ H Q ⟨B, G, N, q⟩ => ⟨B, G, N, fun G1 H1 v s1 N1 i1 => ⟨B, G1, N1, fun G2 H2 vs s2 N2 i2 => q G2 H2 (v :: vs) (fun a u e => s2 a u (s1 a u e)) N2 (.cons (i1.mono s2) i2)⟩⟩
theorem evx_op {a b : Expr} {op : Operator} {pos : Pos} {d1 d2 d : D} {r : R2} {ws : List Int} (ho : OpR X (binaryOp op) r) (ha : EvX L X l a S ys d1 zs) (hb : EvX L X l b S zs d2 ws)
    (k : ∀ (G H : Hp) (v1 v2 : V) (Q : VK), Sub G H → Is L G d1 v1 → Is L G d2 v2 → (∀ G' H' v, Grow L G H G' H' → Is L G' d v → Q v H') → r v1 v2 H Q) : EvX L X l (.BinOp a op b pos) S ys d ws :=
  PE.imp (pe_op ho ha hb) fun σ H Q ⟨B, G, N, q⟩ => ⟨B, G, N, fun G1 H1 v1 s1 N1 i1 => ⟨B, G1, N1, fun G2 H2 v2 s2 N2 i2 => k G2 H2 v1 v2 Q N2.r.r.sub (i1.mono s2) i2 fun G3 H3 v g3 i3 => q G3 H3 v (fun a u e => g3.gg a u (s2 a u (s1 a u e))) (N2.grow g3) i3⟩⟩
/-- a pure def with arguments that pop -/
theorem evx_call {x : Str} {k : Nat} {ps : List Str} {R : List D → D → Prop} {e : Expr} {es : List Expr} {p pos : Pos} {ds : List D} {r : D} (F : FnC X.prog X.w X.K X.mg X.base L x k ps R) (hr : Room k X.A) (ha : EvXA L X l (e :: es) S ys ds zs) (hR : R ds r) (hg : Gl X x := by rfl)
    (hdb : (x == ("__debug__" : Str)) = false := by decide) (he : starEach (e :: es) X.env = (false, eval e X.env) :: starEach es X.env := by rfl) (hpl : (backTo pos (starEach es X.env)).any (·.1) = false := by rfl) :
    EvX L X l (.Call (.Name x p) (e :: es) [] pos) S ys r zs := by
  obtain ⟨f, fd, h1, h2, h3, h4⟩ := F.ex
  refine PE.imp (pe_call h4 hr hg h1 h2 h3 .nil pass0 ha hdb he hpl) fun σ H Q ⟨B, G, N, q⟩ => ⟨B, G, N, fun G1 H1 vs s1 N1 i1 => ?_⟩
  show spD L R (vs ++ []) H1 Q E0
  rw [List.append_nil]
  exact ⟨G1, ds, r, N1.r.r.sub, N1.r.r.tabs, i1, hR, fun G2 H2 v g2 i2 => q G2 H2 v (fun a u e => g2.gg a u (s1 a u e)) (N1.grow g2) i2⟩
/-- x = e -/
theorem NR.setv {B : Bs} {σ : L2.St} {H G : Hp} {i : Nat} {d : D} {v : V} (N : NR L B S l ys σ H G) (h : Is L G d v) : NR L B (S.set i (.val d)) l ys (σ.set i (some v)) H G :=
  ⟨N.r.setv h, N.b, N.h, N.g, fun j ho e => by
    obtain ⟨o1, q1⟩ := owns_set ho
    rw [List.getElem?_set_ne q1] at e
    exact N.no j o1 e⟩
theorem evsn_set (i : Nat) {x : Str} {e : Expr} {pos pos' : Pos} {d : D} (he : EvX L X l e S ys d zs) (hN : X.N.Nodup) (hi : X.N[i]? = some x := by rfl) (hx : Loc X.env.scope x := by first | exact Or.inl rfl | exact Or.inr rfl) (hs : swapsWith e (some (.Name x pos')) pos.line X.env = pure false := by rfl)
    (hf : X.fn x = true ∨ X.env.scope.names.lookup x = some .local := by first | exact .inl rfl | exact .inr rfl) : EvSN L X l (.Assign [.Name x pos'] e pos) S ys (.nx (S.set i (.val d)) zs) :=
  PS.imp (ps_set hN hi hx he hs hf) fun D σ H ⟨B, G, N, q⟩ => ⟨B, G, N, fun G' H' v s N' h => q _ _ G' s (N'.setv h)⟩
/-- return e -/
theorem evsn_ret {e : Expr} {pos : Pos} {d : D} (he : EvX L X l e S ys d zs) : EvSN L X l (.Return (some e) pos) S ys (.ret d zs) :=
  PS.imp (ps_ret he) fun D σ H ⟨B, G, N, q⟩ => ⟨B, G, N, fun G' H' v s N' h => q G' H' v N'.r.g N'.h N'.g h⟩
end
end FM
set_option autoImplicit false
namespace FM
open PySem PySem.Spec PyProof.Rows L2 LamX Pol
/-! ## defs that pop -/
/-- a promise with the list at l among the arguments: xs before, ys behind -/
def spN (L : Lc) (R : Addr → List Int → List D → List Int → D → Prop) : L2.Sp := fun vs H Q _ => ∃ G l ds xs ys r, Sub G H ∧ TbG L H G ∧ IsL L G ds vs ∧ G l = none ∧ H l = some (.lst (xs.map V.int)) ∧ R l xs ds ys r ∧
  ∀ G' H' v, Grow L G (dropH H l) G' H' → H' l = some (.lst (ys.map V.int)) → G' l = none → Is L G' r v → Q v H'
structure FnN (P : Program) (w : World) (K : PySem.W.Frag) (mg : Str → Option Value) (base : Heap) (L : Lc) (x : Str) (k : Nat) (ps : List Str) (R : Addr → List Int → List D → List Int → D → Prop) : Prop where
  ex : ∃ f fd, mg x = some (.ref f) ∧ PySem.W.keepIn K (.ref f) = true ∧ Binds K fd ps [] ∧ FnOk P w K mg base CX0 k f fd ps (spN L R)
section
variable {L : Lc} {X : Cx} {l : Addr} {S : SlS} {ys zs ws : List Int}
theorem dropH_tabsL {T : List (Addr × Str)} {H : Hp} {x : Addr} {vs : List V} (hx : H x = some (.lst vs)) (t : Tabs T H) : Tabs T (dropH H x) := tabs_keep t fun b o e n1 _ => by
  rw [dropH_ne]
  · exact e
  · rintro rfl
    rw [hx] at e
    cases e
    exact n1 _ rfl
theorem NR.drop {B : Bs} {σ : L2.St} {H G : Hp} (N : NR L B S l ys σ H G) : Rep L B S σ (dropH H l) G := by
  have keep : ∀ a o, a ≠ l → H a = some o → dropH H l a = some o := fun a o n e => by rw [dropH_ne n]; exact e
  refine ⟨⟨N.r.r.len, dropH_sub N.r.r.sub N.g, ⟨dropH_tabsL N.h N.r.r.tabs.t, N.r.r.tabs.n⟩, N.r.r.val, fun i xs e => ?_, fun i C fs e => ?_, N.r.r.dist⟩, ⟨N.r.g.gg, fun a o e nt => ?_, dropH_sub N.r.g.gh N.g, N.r.g.fr, fun t => dropH_tabsL N.h (N.r.g.tb t), N.r.g.nt, fun x ps e => ?_⟩, N.r.o⟩
  · obtain ⟨m, vs, h1, h2, h3, h4⟩ := N.r.r.own i xs e
    exact ⟨m, vs, h1, keep m _ (fun z => N.no i ⟨_, e, .inl ⟨xs, rfl⟩⟩ (z ▸ h1)) h2, h3, h4⟩
  · obtain ⟨m, dx, vs, h1, h2, h3⟩ := N.r.r.inst i C fs e
    exact ⟨m, dx, vs, h1, keep m _ (fun z => N.no i ⟨_, e, .inr ⟨C, fs, rfl⟩⟩ (z ▸ h1)) h2, h3⟩
  · refine keep a o (fun z => ?_) (N.r.g.hh a o e nt)
    rw [z, N.b] at e
    cases e
  · obtain ⟨p1, e1⟩ := N.r.g.tt x ps e
    refine ⟨p1, keep x _ (fun z => ?_) e1⟩
    rw [z, N.b] at e
    cases e
/-- a call of a def that pops -/
theorem evx_callN {x : Str} {k : Nat} {ps : List Str} {R : Addr → List Int → List D → List Int → D → Prop} {e : Expr} {es : List Expr} {p pos : Pos} {ds : List D} {r : D} (F : FnN X.prog X.w X.K X.mg X.base L x k ps R) (hr : Room k X.A) (ha : EvXA L X l (e :: es) S ys ds zs) (hR : R l zs ds ws r) (hg : Gl X x := by rfl)
    (hdb : (x == ("__debug__" : Str)) = false := by decide) (he : starEach (e :: es) X.env = (false, eval e X.env) :: starEach es X.env := by rfl) (hpl : (backTo pos (starEach es X.env)).any (·.1) = false := by rfl) :
    EvX L X l (.Call (.Name x p) (e :: es) [] pos) S ys r ws := by
  obtain ⟨f, fd, h1, h2, h3, h4⟩ := F.ex
  refine PE.imp (pe_call h4 hr hg h1 h2 h3 .nil pass0 ha hdb he hpl) fun σ H Q ⟨B, G, N, q⟩ => ⟨B, G, N, fun G1 H1 vs s1 N1 i1 => ?_⟩
  show spN L R (vs ++ []) H1 Q E0
  rw [List.append_nil]
  refine ⟨G1, l, ds, zs, ws, r, N1.r.r.sub, N1.r.r.tabs, i1, N1.g, N1.h, hR, fun G2 H2 v g2 hl gl i2 => ?_⟩
  exact q G2 H2 v (fun a u e => g2.gg a u (s1 a u e)) ⟨N1.drop.grow g2, N1.b, hl, gl, N1.no⟩ i2
end
theorem stS_noOwn (N : List Str) (ds : List D) : ∀ i, ¬ Owns (stS N ds) i := fun i ⟨s, e, h⟩ => by
  unfold stS at e
  have hp : plainSl s = true := by
    rcases List.mem_append.mp (List.mem_of_getElem? e) with q | q
    · obtain ⟨d, _, rfl⟩ := List.mem_map.mp q
      rfl
    · rw [(List.mem_replicate.mp q).2]
      rfl
  rcases h with ⟨xs, rfl⟩ | ⟨C, fs, rfl⟩ <;> cases hp
theorem fnN_ev {P : Program} {w : World} {K : PySem.W.Frag} {mg : Str → Option Value} {base : Heap} {L : Lc} {x qual : Str} {st : Stmt} {dvs : List V} {kws : List (Str × V)} {f : Addr} {fd : FuncData} {N ps : List Str} {k : Nat} {R : Addr → List Int → List D → List Int → D → Prop} (F : FunD K x qual (defArgs st) (defBody st) (defScope st) dvs kws f fd) (Sc : FnScope N ps (defScope st))
    (hl : ∀ l xs ds ys r, R l xs ds ys r → ds.length = ps.length)
    (body : ∀ (cdv : Value) (A : Around) (outer : List Env) (s : Shared) (H : Hp) (E : XK), Room k (A.deeper (envOfC qual (defScope st) s.heap.objs.size f cdv)) → ∀ l xs ds ys r, R l xs ds ys r → EvBN L (BodyX P w K mg base N qual (defScope st) f cdv A outer s H E) l (defBody st) (stS N ds) xs (.ret r ys)) :
    FnOk P w K mg base CX0 (k + 1) f fd ps (spN L R) := by
  refine F.ok Sc (fun vs H Q E ⟨G, l, ds, xs, ys, r, s, t, i, gl, hx, hR, q⟩ => by rw [← i.length]; exact hl l xs ds ys r hR) fun cdv A outer s H vs Q E hr ⟨G, l, ds, xs, ys, r, sb, t, i, gl, hx, hR, q⟩ => ?_
  have R0 := rep_start (N := N) sb t i
  have RD := rep_start (N := N) (dropH_sub sb gl) ⟨dropH_tabsL hx t.t, t.n⟩ i
  refine ⟨_, (body cdv A outer s H E hr l xs ds ys r hR).nox, ⟨dropH H l, G⟩, G, ⟨⟨R0.r, ⟨fun _ _ e => e, fun a o e _ => ?_, sb, fun a h _ => h, fun _ => t.t, fun n => n, fun a p e => ⟨p, ?_⟩⟩, fun j a ho e => absurd ho (stS_noOwn N ds j)⟩, dropH_same, hx, gl, fun j ho => absurd ho (stS_noOwn N ds j)⟩, fun G' H' v g h1 h2 j => q G' H' v g h1 h2 j⟩
  · have e2 : dropH H l a = some o := e
    have n : a ≠ l := fun z => by
      subst z
      rw [dropH_same] at e2
      cases e2
    rwa [dropH_ne n] at e2
  · have e2 : dropH H l a = some (.tbl p) := e
    have n : a ≠ l := fun z => by
      subst z
      rw [dropH_same] at e2
      cases e2
    rwa [dropH_ne n] at e2
end FM
set_option autoImplicit false
namespace FM
open PySem PySem.Spec PyProof.Rows L2 LamX Pol
section
variable {L : Lc} {X : Cx} {l : Addr} {S : SlS} {ys zs ws : List Int}
theorem NR.chg {B : Bs} {σ : L2.St} {H G : Hp} (N : NR L B S l ys σ H G) (zs : List Int) : NR L B S l zs σ (upd H l (.lst (zs.map V.int))) G := by
  have e : upd (dropH H l) l (.lst (zs.map V.int)) = upd H l (.lst (zs.map V.int)) := by
    funext a
    by_cases q : a = l
    · subst q
      rw [upd_same, upd_same]
    · rw [upd_ne q, upd_ne q, dropH_ne q]
  have R := N.drop.grow (Grow.more (L := L) (o := .lst (zs.map V.int)) (dropH_sub N.r.r.sub N.g) dropH_same)
  rw [e] at R
  exact ⟨R, N.b, upd_same, N.g, N.no⟩
/-- the list's name -/
theorem pe_num (i : Nat) {x : Str} {p1 : Pos} (hs : S[i]? = some (.val (.adr l)) := by rfl) (hN : X.N[i]? = some x := by rfl) (hv : Vis X.env.scope x := by first | exact Or.inl rfl | exact Or.inr (Or.inl rfl) | exact Or.inr (Or.inr rfl)) (hd : (x == ("__debug__" : Str)) = false := by decide) (hcd : (x == ("__classdict__" : Str)) = false := by decide) :
    PE X (.Name x p1) (fun σ H Q => ∃ B G, NR L B S l ys σ H G ∧ Q (.ref l) H) :=
  PE.imp (pe_var hN hv hd hcd) fun σ H Q ⟨B, G, N, q⟩ => by
    obtain ⟨v, h1, h2⟩ := N.r.r.val i _ hs
    cases h2
    exact ⟨_, h1, q⟩
/-- xs.pop(0) % m, the list not empty: its first -/
theorem evx_pop (i : Nat) {x : Str} {e : Expr} {p1 p2 p3 : Pos} {y : Int} (he : EvE L X e S (.int 0)) (hs : S[i]? = some (.val (.adr l)) := by rfl) (hN : X.N[i]? = some x := by rfl) (hv : Vis X.env.scope x := by first | exact Or.inl rfl | exact Or.inr (Or.inl rfl) | exact Or.inr (Or.inr rfl))
    (hd : (x == ("__debug__" : Str)) = false := by decide) (hcd : (x == ("__classdict__" : Str)) = false := by decide) (hst : starEach (e :: []) X.env = (false, eval e X.env) :: starEach [] X.env := by rfl)
    (hbase : attributeBase (.Name x p1) "pop" X.env (eval (.Name x p1) X.env) = eval (.Name x p1) X.env := by rfl)
    (hfew : ((backTo p3 (starEach (e :: []) X.env)).all (fun x => !x.1) && (backToKw p3 (keywordEach [] X.env)).all (fun x => x.1.isSome) && decide ((e :: []).length + ([] : List Keyword).length + (if ([] : List Keyword).isEmpty then 0 else 1) < 30)) = true := by rfl)
    (hline : (p2.endLine == p3.line) = true := by rfl) :
    EvX L X l (.Call (.Attribute (.Name x p1) "pop" p2) [e] [] p3) S (y :: ys) (.int y) ys :=
  PE.imp (pe_bm PySem.F.plainAttrs_list PySem.F.slot_list_pop PySem.F.type_list_pop mt_popAt (pe_var hN hv hd hcd) (pa_cons he pa_nil hst) hbase hfew hline hst (by rfl)) fun σ H Q ⟨B, G, N, q⟩ => by
    obtain ⟨v, h1, h2⟩ := N.r.r.val i _ hs
    cases h2
    refine ⟨.ref l, h1, .inl ⟨rfl, _, SqL.of N.h⟩, G, N.r.r, fun G' H' v g h => ?_⟩
    have N' := N.grow g
    refine ⟨l, (y :: ys).map V.int, 0, 0, .int y, rfl, by rw [is_int h], N'.h, by decide, by decide, ?_, rfl, ?_⟩
    · rw [List.length_map]
      exact (ixN_seq (n := (y :: ys).length) (i := 0) (j := 0) (by unfold ixN; rw [if_pos (by decide), if_pos (by simp)]; rfl)).1
    · exact q G' _ _ g.gg (N'.chg ys) (.int y)
/-- len(xs) -/
theorem evx_len (i : Nat) {x : Str} {p p1 pos : Pos} (hm : X.mg "len" = none) (hs : S[i]? = some (.val (.adr l)) := by rfl) (hN : X.N[i]? = some x := by rfl) (hv : Vis X.env.scope x := by first | exact Or.inl rfl | exact Or.inr (Or.inl rfl) | exact Or.inr (Or.inr rfl))
    (hd : (x == ("__debug__" : Str)) = false := by decide) (hcd : (x == ("__classdict__" : Str)) = false := by decide) (hg : Gl X "len" := by rfl) (he : starEach (.Name x p1 :: []) X.env = (false, eval (.Name x p1) X.env) :: starEach [] X.env := by rfl) : EvX L X l (.Call (.Name "len" p) [.Name x p1] [] pos) S ys (.int ys.length) ys :=
  PE.imp (pe_callB call_len_seq hg hm PySem.boot_len (pa_cons (pe_var hN hv hd hcd) pa_nil he) (by decide) (by decide) he (by rfl)) fun σ H Q ⟨B, G, N, q⟩ => by
    obtain ⟨v, h1, h2⟩ := N.r.r.val i _ hs
    cases h2
    refine ⟨.ref l, h1, l, ys.map V.int, rfl, .inl (SqL.of N.h), ?_⟩
    rw [List.length_map]
    exact q G H _ (fun _ _ e => e) N (.int _)
end
end FM
set_option autoImplicit false
namespace FM
open PySem PySem.Spec PyProof.Rows L2 LamX Pol
section
variable {L : Lc} {X : Cx} {l : Addr} {S : SlS} {ys zs ws : List Int} {o : NOut}
/-- a test that pops -/
def EvXT (L : Lc) (X : Cx) (l : Addr) (e : Expr) (S : SlS) (ys : List Int) (b : Bool) (zs : List Int) : Prop := PT X e (fun σ H Q => ∃ B G, NR L B S l ys σ H G ∧ ∀ G' H', Sub G G' → NR L B S l zs σ H' G' → Q b H')
theorem evxt_eq {a b : Expr} {pos : Pos} {i j : Int} (ha : EvX L X l a S ys (.int i) zs) (hb : EvE L X b S (.int j)) : EvXT L X l (.Compare a [.Eq] [b] pos) S ys (decide (i = j)) zs :=
  PT.imp (pt_cmpR op_eq ha hb (nomark _)) fun σ H Q ⟨B, G, N, q⟩ => ⟨B, G, N, fun G1 H1 v1 s1 N1 i1 => ⟨G1, N1.r.r, fun G2 H2 v2 g2 i2 => by
    rw [is_int i1, is_int i2]
    exact ⟨rfl, by rw [dec_int]; exact ⟨_, rfl, q G2 H2 (fun a u e => g2.gg a u (s1 a u e)) (N1.grow g2)⟩⟩⟩⟩
theorem evsn_if {c : Expr} {a b : List Stmt} {pos : Pos} {k : Bool} (hc : EvXT L X l c S ys k zs) (h1 : k = true → EvBN L X l a S zs o) (h2 : k = false → EvBN L X l b S zs o) : EvSN L X l (.If c a b pos) S ys o := by
  cases k with
  | true => exact PS.imp (ps_if hc (h1 rfl) (never_ss b)) fun D σ H ⟨B, G, N, q⟩ => ⟨B, G, N, fun G' H' s N' => iteT ⟨B, G', N', q.sub s⟩⟩
  | false => exact PS.imp (ps_if hc (never_ss a) (h2 rfl)) fun D σ H ⟨B, G, N, q⟩ => ⟨B, G, N, fun G' H' s N' => iteF ⟨B, G', N', q.sub s⟩⟩
end
/-! ### _law_next -/
def nxt (xs : List Int) (m : Int) : Int := match xs with
  | [] => 0
  | x :: _ => x % m
inductive R_law_next (l : Addr) : List Int → List D → List Int → D → Prop
  | mk (xs : List Int) (m : Int) (hm : 0 < m) : R_law_next l xs [.adr l, .int m] xs.tail (.int (nxt xs m))
section
variable {P : Program} {w : World} {K : PySem.W.Frag} {mg : Str → Option Value} {base : Heap} {L : Lc} {f : Addr} {fd : FuncData}
theorem sc_law_next : FnScope ["_law_numbers_here", "_law_many"] ["_law_numbers_here", "_law_many"] (defScope s__law_next) := ⟨rfl, rfl, rfl, by decide +kernel, rfl, by decide +kernel, by decide +kernel⟩
theorem ok_law_next (T : Txt K mg L) (F : FunS K "_law_next" "_law_next" s__law_next f fd) : FnOk P w K mg base CX0 1 f fd ["_law_numbers_here", "_law_many"] (spN L R_law_next) := by
  refine fnN_ev F sc_law_next (fun l xs ds ys r h => by cases h; rfl) fun cdv A outer s H E hr l xs ds ys r h => ?_
  cases h with
  | mk m hm =>
    cases xs with
    | nil => exact evbn_ret (evsn_if (evxt_eq (evx_len 0 T.len) ev_int) (fun _ => evbn_one (evsn_ret (evx_pure ev_int))) (fun z => by cases z))
    | cons x xs =>
      refine evbn_cons (evsn_if (evxt_eq (evx_len 0 T.len) ev_int) (fun z => ?_) (fun _ => evbn_nil)) (evbn_one (evsn_ret (evx_op op_mod (evx_pop 0 ev_int) (evx_pure (ev_var 1)) fun G H v1 v2 Q s h1 h2 q => ?_)))
      · have := of_decide_eq_true z
        simp at this
        omega
      · rw [is_int h1, is_int h2]
        exact ⟨x, m, rfl, rfl, hm, q G H _ (.refl s) (.int _)⟩
end
end FM
set_option autoImplicit false
namespace FM
open PySem PySem.Spec PyProof.Rows L2 LamX Pol
section
variable {L : Lc} {X : Cx} {l : Addr} {tg iter : Expr} {body : List Stmt} {pos : Pos}
/-- for, the body pops -/
theorem evsn_for {ds : List D} {t : Tg} (W : Nat → SlS) (Y : Nat → List Int) (hi : EvI L X tg iter (W 0) ds) (hg : EvG X tg t) (hp : PassesOwn (model X.prog X.w) X.A X.env X.xe) (hc : X.calm = true)
    (hb : ∀ i d, ds[i]? = some d → ∃ S1, setT t d (W i) = some S1 ∧ EvBN L X l body S1 (Y i) (.nx (W (i + 1)) (Y (i + 1))))
    (hs : ∀ x, foldedSetIterable iter X.env x = pure x := by intro _; rfl) : EvSN L X l (.For tg iter body [] pos) (W 0) (Y 0) (.nx (W ds.length) (Y ds.length)) :=
  PS.imp (ps_for hp hc hi hg (any_ss body) hs) fun D σ H ⟨B, G, N, q⟩ => by
    refine ⟨G, N.r.r, fun G1 H1 J g1 ok => ?_⟩
    refine ⟨fun i m σ' H' => m = ds.length - i ∧ i ≤ ds.length ∧ ∃ G', Sub G1 G' ∧ NR L B (W i) l (Y i) σ' H' G', ⟨ds.length, by simp, Nat.zero_le _, G1, fun _ _ e => e, N.grow g1⟩, ?_⟩
    rintro i m σ' H' ⟨rfl, hle, G', s1, N'⟩
    obtain ⟨o1, o2⟩ := ok i G' H' s1 N'.r.r.sub
    by_cases hlt : i < ds.length
    · refine .inr ?_
      obtain ⟨go, y⟩ := o1 ds[i] (List.getElem?_eq_getElem hlt)
      refine ⟨go, fun σ2 H2 => ∃ G2, Sub G1 G2 ∧ NR L B (W (i + 1)) l (Y (i + 1)) σ2 H2 G2, fun σ2 H2 ⟨G2, s2, R2⟩ => ⟨ds.length - (i + 1), by omega, rfl, hlt, G2, s2, R2⟩, fun x H'' hx => ?_⟩
      obtain ⟨G'', g2, ix⟩ := y x H'' hx
      obtain ⟨S1, e1, hB⟩ := hb i ds[i] (List.getElem?_eq_getElem hlt)
      have N2 := N'.grow g2
      refine tgG_run N2.r.fine ix e1 fun σ3 R3 => ⟨_, hB, B, G'', N2.after R3, ?_⟩
      exact fun σ4 H4 G4 s4 R4 => ⟨G4, fun a u e => s4 a u (g2.gg a u (s1 a u e)), R4⟩
    · have e : i = ds.length := by omega
      subst e
      exact .inl ⟨o2 (Nat.le_refl _), q σ' H' G' (fun a u e => s1 a u (g1.gg a u e)) N'⟩
end
end FM
set_option autoImplicit false
namespace FM
open PySem PySem.Spec PyProof.Rows L2 LamX Pol
section
variable {L : Lc} {X : Cx} {l : Addr} {S : SlS} {ys zs : List Int}
/-- a told list or tuple at a popping index -/
theorem evx_ixL {a b : Expr} {pos : Pos} {xs : List D} {i : Int} {d : D} (h : EvE L X a S (.lst xs)) (hb : EvX L X l b S ys (.int i) zs) (hd : atI xs i = some d) (hs : PlainIx b := by exact fun _ _ => rfl) : EvX L X l (.Subscript a b pos) S ys d zs :=
  PE.imp (pe_ix ix_seq h hb hs) fun σ H Q ⟨B, G, N, q⟩ => ⟨G, N.r.r, fun G1 H1 v1 g1 i1 => ⟨B, G1, N.grow g1, fun G2 H2 v2 s2 N2 i2 => by
    cases i1 with
    | @lst m _ vs e r =>
      obtain ⟨v, e1, e2⟩ := at_get r hd
      exact .inl ⟨m, vs, i, v, rfl, is_int i2, SqL.of (N2.r.r.sub _ _ (s2 _ _ e)), e1, q G2 H2 v (fun a u e => s2 a u (g1.gg a u e)) N2 (e2.mono s2)⟩⟩⟩
/-- a, b = e, e pops -/
theorem evsn_unpack {tg e : Expr} {t : Tg} {pos : Pos} {d : D} {S1 : SlS} (he : EvX L X l e S ys d zs) (hg : EvG X tg t) (ht : setT t d S = some S1 := by rfl) (h3 : swapsWithSole [tg] e pos.line X.env = pure false := by rfl) (hw : swappedStores [tg] e X.env = pure none := by rfl)
    (h1 : (assignEach [tg] X.env).map (·.2) = [assign tg X.env] := by rfl) : EvSN L X l (.Assign [tg] e pos) S ys (.nx S1 zs) :=
  PS.imp (ps_asg he hg h3 hw h1) fun D σ H ⟨B, G, N, q⟩ => ⟨B, G, N, fun G' H' v s N' h => tgG_run N'.r.fine h ht fun σ' R' => q σ' H' G' s (N'.after R')⟩
/-- a class made, arguments that pop -/
theorem evx_make {e : Expr} {es : List Expr} {pos p : Pos} {ds : List D} {r : D} {x : Str} {C : Addr} {k : Nat} {ps : List Str} {R : List D → D → Prop} (M : MkC X.prog X.w X.K X.mg X.base L x C k ps R) (hr : Room (k + 1) X.A) (ha : EvXA L X l (e :: es) S ys ds zs) (hR : R ds r) (hg : Gl X x := by rfl)
    (hdb : (x == ("__debug__" : Str)) = false := by decide) (he : starEach (e :: es) X.env = (false, eval e X.env) :: starEach es X.env := by rfl) (hpl : (backTo pos (starEach es X.env)).any (·.1) = false := by rfl) :
    EvX L X l (.Call (.Name x p) (e :: es) [] pos) S ys r zs := by
  obtain ⟨f, fd, h1, h2, h3, h4⟩ := M.ex
  refine PE.imp (pe_make h1 h4 hr hg h2 h3 .nil pass0 ha hdb he hpl) fun σ H Q ⟨B, G, N, q⟩ => ⟨B, G, N, fun G1 H1 vs s1 N1 i1 x dx nx ndx nex => ?_⟩
  show spI L C R (_ :: (vs ++ [])) _ _ E0
  rw [List.append_nil]
  have hn2 : upd H1 dx (.own x) x = none := by rw [upd_ne (Ne.symm nex)]; exact nx
  have gx : G1 x = none := sub_none N1.r.r.sub nx
  have sub1 : Sub G1 (upd H1 dx (.own x)) := fun a u e => upd_sub ndx a u (N1.r.r.sub a u e)
  refine ⟨G1, ds, r, x, dx, vs, rfl, fun a u e => upd_sub hn2 a u (sub1 a u e), (N1.r.r.tabs.ext (upd_sub ndx)).ext (upd_sub hn2), gx, upd_same, i1, hR, fun G2 H2 g2 i2 => ⟨rfl, ?_⟩⟩
  rw [dropH_upd hn2] at g2
  exact q G2 H2 _ (fun a u e => g2.gg a u (s1 a u e)) (N1.grow ((Grow.more N1.r.r.sub ndx).trans g2)) i2
end
end FM
set_option autoImplicit false
namespace FM
open PySem PySem.Spec PyProof.Rows L2 LamX Pol
def szD : List D := [(2, 1), (3, 1), (2, 2), (5, 1), (3, 2), (2, 3), (7, 1)].map fun (q : Int × Int) => .tup [.int q.1, .int q.2]
inductive R_law_field (l : Addr) : List Int → List D → List Int → D → Prop
  | mk (xs : List Int) (c : FC) (i : Nat) (p n : Nat) (v : Int) (hi : nxt xs 6 = (i : Nat)) (hq : (szD.take 6)[i]? = some (.tup [.int (p : Nat), .int (n : Nat)])) (hp : 0 < p) (hv : nxt xs.tail (p : Nat) = v) (h1 : c.d.p = (p : Nat)) (hm : R_law_modulus [.int (p : Nat), .int (n : Nat), .int v] (tI c.d.m)) : R_law_field l xs [.adr l, .int 6] xs.tail.tail (.fld c.d)
section
variable {P : Program} {w : World} {K : PySem.W.Frag} {mg : Str → Option Value} {base : Heap} {L : Lc} {f : Addr} {fd : FuncData}
abbrev N_law_field : List Str := ["_law_numbers_here", "_law_most", "_law_sizes", "_law_p", "_law_n"]
theorem sc_law_field : FnScope N_law_field ["_law_numbers_here", "_law_most"] (defScope s__law_field) := ⟨rfl, rfl, rfl, by decide +kernel, rfl, by decide +kernel, by decide +kernel⟩
theorem ok_law_field (T : Txt K mg L) (C1 : FnN P w K mg base L "_law_next" 1 ["_law_numbers_here", "_law_many"] R_law_next) (C2 : FnC P w K mg base L "_law_modulus" 2 ["_law_p", "_law_n", "_law_number_here"] R_law_modulus) (MF : MkC P w K mg base L "Field" L.CF 6 ["self", "p", "modulus"] R_Field) (F : FunS K "_law_field" "_law_field" s__law_field f fd) : FnOk P w K mg base CX0 8 f fd ["_law_numbers_here", "_law_most"] (spN L R_law_field) := by
  refine fnN_ev F sc_law_field (fun l xs ds ys r h => by cases h; rfl) fun cdv A outer s H E hr l xs ds ys r h => ?_
  cases h with
  | mk c i p n v hi hq hp hv h1 hm =>
    have nd := sc_law_field.nd
    have hr1 : Room 1 _ := hr.mono (by decide)
    have hr2 : Room 2 _ := hr.mono (by decide)
    have hF := R_Field.mk c
    rw [h1] at hF
    have n1 := R_law_next.mk (l := l) xs 6 (by decide)
    rw [hi] at n1
    have n2 := R_law_next.mk (l := l) xs.tail (p : Nat) (by omega)
    rw [hv] at n2
    refine evbn_cons (evsn_pure (evs_set 2 (d := .lst (szD.take 6)) ((ev_new (evn_slice (evq_n (evn_lst (eva_cons (ev_tup (eva_cons ev_int (eva_cons ev_int eva_nil))) (eva_cons (ev_tup (eva_cons ev_int (eva_cons ev_int eva_nil))) (eva_cons (ev_tup (eva_cons ev_int (eva_cons ev_int eva_nil))) (eva_cons (ev_tup (eva_cons ev_int (eva_cons ev_int eva_nil))) (eva_cons (ev_tup (eva_cons ev_int (eva_cons ev_int eva_nil))) (eva_cons (ev_tup (eva_cons ev_int (eva_cons ev_int eva_nil))) (eva_cons (ev_tup (eva_cons ev_int (eva_cons ev_int eva_nil))) eva_nil))))))))) evo_none (evo_some (ev_var 1)))).is rfl) nd))
      (evbn_cons (evsn_unpack (t := .two 3 4) (evx_ixL (ev_var 2) (evx_callN C1 hr1 (evxa_cons (evx_pure (ev_var 0)) (evxa_cons (evx_pure ((ev_len T.len (evq_l (ev_var 2))).is (c := .int 6) rfl)) evxa_nil)) n1) (atN hq)) (evg_two 3 4 rfl nd)) (evbn_one (evsn_ret (evx_make MF hr (evxa_cons (evx_pure (ev_var 3)) (evxa_cons (evx_call C2 hr2 (evxa_cons (evx_pure (ev_var 3)) (evxa_cons (evx_pure (ev_var 4)) (evxa_cons (evx_callN C1 hr1 (evxa_cons (evx_pure (ev_var 0)) (evxa_cons (evx_pure (ev_var 3)) evxa_nil)) n2) evxa_nil))) hm) evxa_nil)) hF))))
end
end FM
set_option autoImplicit false
namespace FM
open PySem PySem.Spec PyProof.Rows L2 LamX Pol
/-! ## Field.members -/
abbrev N_members : List Str := ["self", "number"]
theorem sc_members : GSc N_members ["self"] (defScope s_Field_m_members) := ⟨⟨rfl, rfl, rfl, by decide +kernel, rfl, by decide +kernel, by decide +kernel⟩, by decide +kernel⟩
structure GnC (K : PySem.W.Frag) (L : Lc) : Prop where
  ex : ∃ f fd, Meth K L.CF "members" f ∧ L2.Binds K fd ["self"] [] ∧ FunS K "members" "Field.members" s_Field_m_members f fd
def FC.mem' (c : FC) (i : Nat) : D := if h : i < c.T.q then c.eK ⟨i, h⟩ else .non
theorem ev_members {L : Lc} {X : Cx} {S : SlS} {o : Expr} {apos pos : Pos} {pl : Sem Bool} {c : FC} (T : Txt X.K X.mg L) (M : GnC X.K L) (Cm : MtC X.prog X.w X.K X.mg X.base L L.CF "member" 2 ["self", "number"] R_F_member) (hr : Room 4 X.A) (hex : X.ex = []) (ho : EvE L X o S (.fld c.d))
    (ht : eval (.Call (.Attribute o "members" apos) [] [] pos) X.env = (do
      let ov ← eval o X.env
      standAt apos.atName
      let (f, first) ← holding [ov] (getMethod ov "members" pl)
      callWith pos f first (backTo pos (starEach [] X.env)) (backToKw pos (keywordEach [] X.env))) := by rfl) :
    EvGen L X (.Call (.Attribute o "members" apos) [] [] pos) S c.T.q c.mem' := by
  obtain ⟨f, fd, hm, hb, F⟩ := M.ex
  obtain ⟨oc, od, dV, kV, doc, pm, an, cdv, ct, osl, rfl, lk, hcd, _, _⟩ := F.ex
  intro pins s σ H G I R
  refine PySem.W.methodCall_KW (pl := pl) (thn (ho.run pins s σ H (fun v H' => ∃ G', Grow L G H G' H' ∧ Is L G' (.fld c.d) v) I ⟨G, R, fun G' H' v g i => ⟨G', g, i⟩⟩) fun u s1 ⟨x, H1, I1, rx, G1, g1, i1⟩ => ?_) ht
  cases i1 with
  | @fld a dx am _ e em =>
    obtain rfl : u = Value.ref a := rx
    refine getmeth_ok I1 (g1.gh _ _ e) T.cls.cF hm (lk_none (show (("members" : Str) ∉ fldN) by decide +kernel)) ?_
    refine PySem.W.callWith_K0 (first := [.ref a]) I1.kIn hm.kp ?_
    refine gen_made (us := [.ref a]) (vs := [.ref a]) lk hcd sc_members hb (hr.mono (by decide)) I1 (.cons rfl .nil) rfl fun s' ga g go oL mk => ?_
    have hr2 : Room 2 (X.A.in1.deeper (envOfC "Field.members" (defScope s_Field_m_members) s1.heap.objs.size f cdv)) := (Room.in1 (k := 3) hr).deeper _
    refine ⟨_, ga, g, go, H1, G1, [(ga, go), (s1.heap.objs.size, oL)], _, rfl, mk.env, mk.pins, mk.inv, g1, mk.isg, ⟨List.mem_cons_self .., fun p hp => ?_⟩, mk.fresh, ?_⟩
    · rcases List.mem_cons.mp hp with z | hp
      · subst z
        exact ⟨mk.at_, mk.na, Nat.le_of_lt mk.lt, mk.isg.nc⟩
      · rw [List.mem_singleton.mp hp]
        exact ⟨mk.loc, mk.nl, Nat.le_refl _, mk.nc⟩
    · refine gen_fresh (Sg := [.val (.fld c.d), .any]) (S1 := fun i => [.val (.fld c.d), .val (.int (0 + (i : Int) * 1))]) (en := fun i => .int (0 + (i : Int) * 1)) mk.env hr.hd hex rfl rfl (fun s0 H0 => evg_one 1 sc_members.s.nd) (fun _ => rfl) (fun _ => .same (.any .nil)) (fun _ => noOwn rfl) (fun s0 H0 i hi => ?_) mk.lt mk.isg.nc (fun s0 H0 => ?_) (fun _ => rfl) mk.gl rfl fun H' G' s1' s2' t => ?_
      · refine (ev_methF (X := gX X N_members _ s0 H0) T.cls Cm hr2 (ev_var 0) (eva_cons ((ev_var 1).is (c := .int (i : Nat)) (by congr 1; omega)) eva_nil) (.mk c i hi)).is ?_
        unfold FC.mem'
        rw [dif_pos hi]
      · have hq := c.g0
        exact (evi_range1 (X := gX X N_members _ s0 H0) T.range (ev_fld_q (F := c.d) T.cls (ev_var 0)) (by show -100000 ≤ ((c.T.q : Nat) : Int) ∧ ((c.T.q : Nat) : Int) ≤ 100000; omega)).is (by
          rw [irng_map]
          rfl)
      · exact (rep_start (N := N_members) s2' t (.cons (.fld (s1' _ _ e) (s1' _ _ em)) .nil)).r
end FM
set_option autoImplicit false
namespace FM
open PySem PySem.Spec PyProof.Rows L2 LamX
/-! ## a lambda with one parameter, called -/
structure Lam1 (q : Str) (params : Arguments) (body : Expr) (scope : Scope) (x : Str) : Prop where
  sc : FnScope [x] [x] scope
  bind : ∀ (cl : List (Str × Addr)) (pm cv ctv u : Value), bindArgs (PySem.W.kla_fn "<lambda>" q params body scope cl pm cv ctv) ⟨[u], []⟩ = pure [(x, u)]
theorem lam1_code {P : Program} {w : World} {K : PySem.W.Frag} {mg : Str → Option Value} {base : Heap} {L : Lc} {q : Str} {params : Arguments} {body : Expr} {scope : Scope} {x : Str} {k : Nat} {A : Around} {outer : List Env} {s : Shared} {H G : Hp} {f c' : Addr} {pm ctv u : Value} {v : V} {d r : D} {Q : VK} (La : Lam1 q params body scope x) (hr : Room (k + 1) A) (e0 : Env0 P w K mg base A outer s H)
    (hf : s.heap.get? f = some (PySem.W.kla_obj "<lambda>" q params body scope [] pm c' ctv)) (hc : s.heap.CodeRec (.ref c') q) (rv : RelV v u) (sb : Sub G H) (t : TbG L H G) (i : Is L G d v)
    (hb : ∀ (A : Around) (outer : List Env) (s : Shared) (H : Hp) (E : XK), Room k (A.deeper (envOfC q scope s.heap.objs.size f (.ref c'))) → EvE L (BodyX P w K mg base [x] q scope f (.ref c') A outer s H E) body [.val d] r)
    (hq : ∀ G' H' v, Grow L G H G' H' → Is L G' r v → Q v H') : codeAny (model P w) A (.call (.ref f) ⟨[u], []⟩) (CR CX0 outer P w H s Q E0) s := by
  have lim : s.heap.NoLimit := e0.mod.nolimit.keeps fun b o e => (e0.bs b o e).1
  have hkind : ∀ y ∈ [(x, u)], scope.names.lookup y.1 = some .local ∨ (scope.names.lookup y.1 = some .cell ∧ ((cellsFrom (s.heap.objs.size + 1) scope.names []).lookup y.1).isSome = true) := fun y hy => by
    rw [List.mem_singleton.mp hy]
    rcases La.sc.par x (List.mem_singleton.mpr rfl) with q | q
    · exact .inl q
    · exact .inr ⟨q, PySem.W.cellsFrom_some _ _ _ (.inl q)⟩
  refine PySem.W.kla_callFunE hr.depth hf rfl La.sc.co La.sc.gen rfl hc ?_
  rw [La.bind]
  refine wpAny_pure (wpAny_newFunctionEnv_cells La.sc.kind hkind fun env he s1 y => ?_)
  subst he
  refine ⟨lim.keeps y.toInCall.keep, ?_⟩
  show codeAny _ _ (.expr body (envOfC q scope s.heap.objs.size f (.ref c'))) _ _
  have J : Inv (cxOf CX0 P w K mg base [x] q scope f (.ref c') A outer s H E0) [] (L2.start [x] [v]) H s1 := inv_start (us := [u]) La.sc hr.hd e0 rfl (.cons rv .nil) y
  have R0 := (rep_start (N := [x]) sb t (.cons i .nil)).r
  refine PySem.W.kla_codeExpr (wpAny_mono ((hb A outer s H E0 (hr.deeper _)).run [] s1 (L2.start [x] [v]) H Q (J.wish _) ⟨G, R0, hq⟩) (fun z s' hz => ?_) fun e s' z => z.elim)
  obtain ⟨y', H', J', ry, q'⟩ := hz
  exact ⟨y', H', J'.os, J'.bare, J'.base, J'.hok, ry, q'⟩
/-! ## an untracked list is tracked -/
section
variable {X : Cx} {pins : List (Addr × Obj)} {σ : L2.St} {H : Hp} {s : Shared}
theorem Inv.track {a : Addr} {out : List V} {acc : List Value} {c : Nat} (I : Inv X pins σ H s) (hn : H a = none) (h1 : a ∈ X.ex ∨ X.s_0.heap.objs.size ≤ a) (hL : a ≠ X.env.locals) (h2 : ∀ x c, X.env.cells.lookup x = some c → c ≠ a) (h3 : ∀ p ∈ X.pn ++ pins, p.1 ≠ a)
    (e : s.heap.get? a = some (seqObj "list" acc.toArray c)) (r : Vals out acc) (hl : out.length ≤ sizeLine) : Inv X pins σ (upd H a (.lst out)) s := by
  have ne : ∀ b u, H b = some u → b ≠ a := fun b u q z => by
    rw [z, hn] at q
    cases q
  refine I.call' (ch := [a]) rfl ⟨fun b o q _ _ _ => q, fun b o q _ _ _ => ⟨o.slots, q⟩, fun b o q n hx => ?_, fun b o q _ => ⟨o, q⟩, fun b xs q => ?_, fun b o u q => ?_, fun b ps q => ⟨#[], ?_⟩⟩ (fun b u q => ?_) I.bare fun b hb => ?_
  · rw [upd_ne (fun z => hx (by rw [z]; exact List.mem_singleton.mpr rfl))]
    exact n
  · rw [upd_ne (ne b _ q)]
    exact q
  · rw [upd_ne (ne b _ q)]
    exact q
  · rw [upd_ne (ne b _ q), q]
    simp
  · by_cases z : b = a
    · rw [z, upd_same] at q
      cases q
      rw [z]
      exact ⟨hl, acc, c, r, e⟩
    · rw [upd_ne z] at q
      exact (I.hok b u q).stay (fun _ _ _ y => y) (fun d y => by rw [upd_ne (ne _ _ y)]; exact y) fun d xs y => by rw [upd_ne (ne _ _ y)]; exact y
  · rw [List.mem_singleton.mp hb]
    exact ⟨h1, hL, h2, h3⟩
/-- all but untracked records of ours stay -/
theorem Inv.butCh {h' : Heap} {t' : Nat} {ch : List Addr} (I : Inv X pins σ H s) (k : ∀ b o, b ∉ ch → s.heap.get? b = some o → h'.get? b = some o)
    (hch : ∀ b ∈ ch, H b = none ∧ (b ∈ X.ex ∨ X.s_0.heap.objs.size ≤ b) ∧ b ≠ X.env.locals ∧ (∀ x c, X.env.cells.lookup x = some c → c ≠ b) ∧ ∀ p ∈ X.pn ++ pins, p.1 ≠ b) : Inv X pins σ H { s with heap := h', toks := t' } := by
  have nc : ∀ b u, H b = some u → b ∉ ch := fun b u e z => by
    rw [(hch b z).1] at e
    cases e
  refine I.call' (s' := { s with heap := h', toks := t' }) (ch := ch) rfl ⟨fun b o e _ _ hc => k b o hc e, fun b o e _ _ hc => ⟨o.slots, k b o hc e⟩, fun _ _ _ n _ => n, fun b o e hc => ⟨o, k b o hc e⟩, fun _ _ e => e, fun _ _ _ e => e, fun b ps e => ⟨#[], by rw [e]; simp⟩⟩ (fun b u e => ?_) I.bare fun b hb => (hch b hb).2
  refine (I.hok b u e).stay (fun c v hc q => k c v ?_ q) (fun _ q => q) fun _ _ q => q
  rcases hc with z | z
  · rw [z]
    exact nc b u e
  · exact nc c _ z
end
/-! ## keys -/
def kd (ns : List Int) : PyData := .tuple (ns.map .int)
theorem kd_alike (a b : List Int) : PySem.W.alike (kd a) (kd b) = true := by
  unfold kd
  simp only [PySem.W.alike]
  exact PySem.W.alike_ints a b
theorem kd_depth (a : List Int) : (kd a).depth ≤ 1 := by
  unfold kd
  simp only [PyData.depth, PySem.W.depth_ints]
  decide
def leK {β : Type} (k : β → List Int) (a b : β) : Bool := decide (k a ≤ k b)
theorem kd_le {β : Type} (k : β → List Int) : PySem.W.dataLe false (fun b => kd (k b)) = leK k := by
  funext p q
  show (!PySem.W.dataLt (.tuple ((k q).map .int)) (.tuple ((k p).map .int))) = _
  rw [PySem.W.dataLt_tuple]
  show (!PySem.W.rowLt ((k q).map .int) ((k p).map .int)) = _
  rw [PySem.W.dataLt_ints]
  unfold leK
  by_cases h : k q < k p
  · have h' : ¬ k p ≤ k q := fun r => List.not_lt.mpr r h
    simp [h, h']
  · have h' : k p ≤ k q := List.not_lt.mp h
    simp [h, h']
theorem reads_ints (h : Heap) : ∀ {ns : List Int} {us : List Value}, Vals (ns.map V.int) us → ReadsAll h us (ns.map .int) []
  | [], _, .nil => .nil
  | n :: ns, _, .cons r t => by
    obtain ⟨tk, rfl⟩ := r
    exact .cons (as := []) (bs := []) (.int n tk) (reads_ints h t)
theorem reads_tI {L : Lc} {G H : Hp} {P : Program} {w : World} {h : Heap} (s : Sub G H) (hok : HOk P w H h) {ns : List Int} {v : V} {u : Value} (i : Is L G (tI ns) v) (r : RelV v u) : Reads h u (kd ns) [] := by
  cases i with
  | @tup a _ vs e q =>
    obtain rfl : u = Value.ref a := r
    rw [q.ints] at e
    obtain ⟨_, its, rv, o, ho, hc, n, hd⟩ := hok a _ (s _ _ e)
    exact .tuple ho hc hd (reads_ints h (by simpa using rv))
end FM
set_option autoImplicit false
namespace FM
open PySem PySem.Spec PyProof.Rows L2 LamX
/-! ## sorted(xs, key=lambda x: ..) -/
/-- an untracked record of ours -/
structure OwnR (X : Cx) (pins : List (Addr × Obj)) (a : Addr) : Prop where
  y : a ∈ X.ex ∨ X.s_0.heap.objs.size ≤ a
  l : a ≠ X.env.locals
  f : a ∉ X.fs
  c : ∀ x c, X.env.cells.lookup x = some c → c ≠ a
  p : ∀ p ∈ X.pn ++ pins, p.1 ≠ a
theorem isL_at {L : Lc} {G : Hp} {β : Type} {dd : β → D} {bs : List β} {vs : List V} {us : List Value} (i : IsL L G (bs.map dd) vs) (r : Vals vs us) {j : Nat} {x : Value} (h : us[j]? = some x) : ∃ b v, bs[j]? = some b ∧ Is L G (dd b) v ∧ RelV v x := by
  have hl := r.length
  have hj : j < us.length := (List.getElem?_eq_some_iff.mp h).1
  have hv : vs[j]? = some vs[j] := List.getElem?_eq_getElem (by omega)
  obtain ⟨u, hu, ru⟩ := r.get hv
  rw [h] at hu
  cases hu
  obtain ⟨d, hd, id⟩ := i.getV hv
  obtain ⟨b, hb, rfl⟩ := map_get hd
  exact ⟨b, _, hb, id, ru⟩
theorem each_of {L : Lc} {G : Hp} {β : Type} {dd : β → D} : ∀ {bs : List β} {vs : List V} {us : List Value}, IsL L G (bs.map dd) vs → Vals vs us → PySem.W.EachIs (fun (u : Value) (b : β) => ∃ v, RelV v u ∧ Is L G (dd b) v) us bs
  | [], _, _, .nil, .nil => .nil
  | b :: bs, _, _, .cons i is, .cons r rs => .cons ⟨_, r, i⟩ (each_of is rs)
theorem of_each {L : Lc} {G : Hp} {β : Type} {dd : β → D} : ∀ {us : List Value} {bs : List β}, PySem.W.EachIs (fun (u : Value) (b : β) => ∃ v, RelV v u ∧ Is L G (dd b) v) us bs → ∃ vs, Vals vs us ∧ IsL L G (bs.map dd) vs
  | _, _, .nil => ⟨[], .nil, .nil⟩
  | _, _, .cons ⟨v, r, i⟩ e => by
    obtain ⟨vs, h1, h2⟩ := of_each e
    exact ⟨v :: vs, .cons r h1, .cons i h2⟩
theorem each_kd {L : Lc} {G H : Hp} {P : Program} {w : World} {h : Heap} (s : Sub G H) (hok : HOk P w H h) {β : Type} {kk : β → List Int} : ∀ {bs : List β} {vs : List V} {us : List Value}, IsL L G (bs.map fun b => tI (kk b)) vs → Vals vs us → PySem.W.EachIs (fun v d => ∃ as, Reads h v d as) us (bs.map fun b => kd (kk b))
  | [], _, _, .nil, .nil => .nil
  | b :: bs, _, _, .cons i is, .cons r rs => .cons ⟨[], reads_tI s hok i r⟩ (each_kd s hok is rs)
section
variable {L : Lc} {X : Cx} {S : SlS} {pins : List (Addr × Obj)} {σ : L2.St} {β : Type} {bs : List β} {dd : β → D} {kk : β → List Int} {q : Str} {params : Arguments} {body : Expr} {scope : Scope} {x : Str} {k : Nat} {f c' : Addr} {pm ctv : Value} {a kS : Addr} {e1 : Nat} {P : PySem.Fin → Shared → Prop} {E : Value → Shared → Prop}
theorem keyI_rest {s : Shared} {H G : Hp} {vs : List V} {us : List Value} (La : Lam1 q params body scope x) (hr : Room (k + 1) X.A.in1.in1) (hb : ∀ b ∈ bs, ∀ (A : Around) (outer : List Env) (s : Shared) (H : Hp) (E : XK), Room k (A.deeper (envOfC q scope s.heap.objs.size f (.ref c'))) → EvE L (BodyX X.prog X.w X.K X.mg X.base [x] q scope f (.ref c') A outer s H E) body [.val (dd b)] (tI (kk b)))
    (hkk : ∀ b, kk b ≠ []) (hz : bs.length ≤ 100000) (oa : OwnR X pins a) (ok : OwnR X pins kS) (hfa : f ≠ a) (hfk : f ≠ kS) (hka : kS ≠ a)
    (I : Inv X (pins ++ [(f, PySem.W.kla_obj "<lambda>" q params body scope [] pm c' ctv), (a, seqObj "list" #[] e1), (kS, seqObj "list" #[] 0)]) σ H s) (hco : H c' = some (CodeO c' q)) (sb : Sub G H) (t : TbG L H G) (i : IsL L G (bs.map dd) vs) (rv : Vals vs us)
    (h : ∀ s' H' G' out outV c, Inv X pins σ H' s' → Grow L G H G' H' → H' a = none → s'.heap.get? a = some (seqObj "list" (List.toArray out) c) → Vals outV out → IsL L G' ((bs.mergeSort (leK kk)).map dd) outV → P (.done (.ret .none)) s') :
    wpAny (model X.prog X.w) X.A.in1.in1 (ksk_rest a (.ref f) false us.toArray e1 (.ref kS)) P E s := by
  let fo := PySem.W.kla_obj "<lambda>" q params body scope [] pm c' ctv
  have hul : us.length = bs.length := by
    have h1 := rv.length
    have h2 := i.length
    rw [List.length_map] at h2
    omega
  unfold ksk_rest
  refine wpAny_bind (wpAny_rule ?_)
  first
    | rw [List.forIn_toArray]
    | (rw [← Array.forIn_toList]; simp only [List.toList_toArray])
  refine wpAny_bind (ksk_fold (fun j s' => ∃ (kA : Array Value) (e : Nat) (H' G' : Hp) (ks : List V), Inv X (pins ++ [(f, fo), (a, seqObj "list" #[] e1), (kS, seqObj "list" kA e)]) σ H' s' ∧ Grow L G H G' H' ∧ Vals ks kA.toList ∧ IsL L G' ((bs.take j).map fun b => tI (kk b)) ks) us 0 s
    ⟨#[], 0, H, G, [], I, .refl sb, .nil, .nil⟩ ?_ ?_)
  · rintro j u s' hu ⟨kA, e, H1, G1, ks, I1, g1, rk, ik⟩
    rw [Nat.zero_add] at ik ⊢
    obtain ⟨b, v, hbj, ib, ru⟩ := isL_at i rv hu
    have hjl : j < bs.length := (List.getElem?_eq_some_iff.mp hbj).1
    have pf := I1.pin (f, fo) (List.mem_append_right _ (List.mem_append_right _ (List.mem_cons_self ..)))
    have pk := I1.pin (kS, seqObj "list" kA e) (List.mem_append_right _ (List.mem_append_right _ (List.mem_cons_of_mem _ (List.mem_cons_of_mem _ (List.mem_cons_self ..)))))
    have e2 : (s'.heap.get? f) = some fo := pf.1
    have hc1 : H1 c' = some (CodeO c' q) := g1.hh _ _ hco codeO_ne
    obtain ⟨⟨oc, ws, tt, hoc, hdc, hvc⟩, _, _⟩ := I1.hok c' _ hc1
    have e0 : Env0 X.prog X.w X.K X.mg X.base X.A.in1.in1 X.stack s' H1 := I1.env0.in1.in1
    refine wpAny_bind (wpAny_attempt (wpAny_call (codeAny_mono (lam1_code (Q := fun v' H' => ∃ G', Grow L G1 H1 G' H' ∧ Is L G' (tI (kk b)) v') La hr e0 e2 ⟨c', oc, ws, tt, rfl, hoc, hdc, hvc⟩ ru g1.gh (g1.tg t) (ib.mono g1.gg) (hb b (List.mem_of_getElem? hbj)) fun G' H' v' g i' => ⟨G', g, i'⟩) fun r s2 hq => ?_)))
    cases r with
    | error z => exact False.elim hq
    | ok fl =>
      cases fl with
      | next => exact False.elim hq
      | brk => exact False.elim hq
      | cont => exact False.elim hq
      | ret z =>
        obtain ⟨v', H2, I2, r2, G2, g2, i2⟩ := I1.after hq
        have pk2 := I2.pin (kS, seqObj "list" kA e) (List.mem_append_right _ (List.mem_append_right _ (List.mem_cons_of_mem _ (List.mem_cons_of_mem _ (List.mem_cons_self ..)))))
        have hks : kA.size = j := by
          have h1 := rk.length
          have h2 := ik.length
          rw [List.length_map, List.length_take] at h2
          have h3 : kA.toList.length = kA.size := Array.length_toList
          rw [h3] at h1
          rw [← h1, ← h2]
          omega
        have hzk : kA.size ≤ sizeLine := small_le (by omega)
        refine wpAny_bind (listUpdate_at pk2.1 rfl ?_ hzk (Nat.le_trans (Nat.le_of_eq (Array.size_push ..)) (Nat.succ_le_succ hzk)))
        obtain ⟨c2, hc2⟩ : ∃ c2, (s2.heap.update kS (Obj.mapSeq (·.push z))).get? kS = some (seqObj "list" (kA.push z) c2) := ⟨_, get?_update_seq pk2.1 (·.push z)⟩
        have sm := Heap.SameBut.update s2.heap kS (Obj.mapSeq (·.push z))
        have I2a : Inv X (pins ++ [(f, fo), (a, seqObj "list" #[] e1)]) σ H2 s2 := I2.pins_of fun p hp => by
          rcases List.mem_append.mp hp with y | y
          · exact I2.pin p (List.mem_append_right _ (List.mem_append_left _ y))
          · refine I2.pin p (List.mem_append_right _ (List.mem_append_right _ ?_))
            rcases List.mem_cons.mp y with y | y
            · rw [y]; exact List.mem_cons_self ..
            · rw [List.mem_singleton.mp y]; exact List.mem_cons_of_mem _ (List.mem_cons_self ..)
        have np : ∀ p ∈ X.pn ++ (pins ++ [(f, fo), (a, seqObj "list" #[] e1)]), p.1 ≠ kS := fun p hp => by
          rcases List.mem_append.mp hp with y | y
          · exact ok.p p (List.mem_append_left _ y)
          · rcases List.mem_append.mp y with y | y
            · exact ok.p p (List.mem_append_right _ y)
            · rcases List.mem_cons.mp y with y | y
              · rw [y]; exact hfk
              · rw [List.mem_singleton.mp y]; exact Ne.symm hka
        have I3 : Inv X (pins ++ [(f, fo), (a, seqObj "list" #[] e1)]) σ H2 { s2 with heap := s2.heap.update kS (Obj.mapSeq (·.push z)), toks := s2.toks } :=
          I2a.turned (it := kS) (fun b' o hb' eb => (sm.2 b' hb').trans eb) pk2.2.1 ok.l ok.y ok.c np
        refine wpAny_pure ⟨rfl, kA.push z, c2, H2, G2, ks ++ [v'], I3.pins_of fun p hp => ?_, g1.trans g2, ?_, ?_⟩
        · rcases List.mem_append.mp hp with y | y
          · exact I3.pin p (List.mem_append_right _ (List.mem_append_left _ y))
          · rcases List.mem_cons.mp y with y1 | y
            · exact I3.pin p (List.mem_append_right _ (List.mem_append_right _ (by rw [y1]; exact List.mem_cons_self ..)))
            · rcases List.mem_cons.mp y with y1 | y
              · exact I3.pin p (List.mem_append_right _ (List.mem_append_right _ (by rw [y1]; exact List.mem_cons_of_mem _ (List.mem_cons_self ..))))
              · rw [List.mem_singleton.mp y]
                exact ⟨hc2, pk2.2.1, ok.l, ok.f, fun w' yy => by cases yy⟩
        · rw [show (kA.push z).toList = kA.toList ++ [z] by simp]
          exact rk.append (.cons r2 .nil)
        · rw [take_succ_of hbj, List.map_append]
          exact (ik.mono g2.gg).append (.cons i2 .nil)
  · rintro s' ⟨kA, e, H1, G1, ks, I1, g1, rk, ik⟩
    rw [Nat.zero_add, hul, List.take_length] at ik
    have pa := I1.pin (a, seqObj "list" #[] e1) (List.mem_append_right _ (List.mem_append_right _ (List.mem_cons_of_mem _ (List.mem_cons_self ..))))
    have pk := I1.pin (kS, seqObj "list" kA e) (List.mem_append_right _ (List.mem_append_right _ (List.mem_cons_of_mem _ (List.mem_cons_of_mem _ (List.mem_cons_self ..)))))
    have ek := each_kd (kk := kk) g1.gh I1.hok ik rk
    have hal : PySem.W.AllAlike (bs.map fun b => kd (kk b)) := PySem.W.AllAlike.of (enc := fun b => kd (kk b)) fun b b' => kd_alike _ _
    have hsk : PySem.W.Sortable (bs.map fun b => kd (kk b)) := PySem.W.Sortable.tuples (enc := fun b => kd (kk b)) fun b => by
      cases e : kk b with
      | nil => exact absurd e (hkk b)
      | cons n ns =>
        refine ⟨.int n, ns.map .int, ?_⟩
        unfold kd
        rfl
    have hsz : kA.size = us.length := by
      have h1 := ek.length
      rw [Array.length_toList, List.length_map] at h1
      omega
    refine wpAny_bind (listItems_at pk.1 rfl ?_)
    have hun : X.A.in1.in1.units + 64 < cLine := hr.units
    have sd := PySem.W.SortsAt.data (prog := X.prog) (w := X.w) (A := X.A.in1.in1) (s := s') ek hal hsk (fun d hd => by
      obtain ⟨b, _, rfl⟩ := List.mem_map.mp hd
      have := kd_depth (kk b)
      omega)
    refine PySem.W.keyH_end (h₁ := PySem.W.hideAll s'.heap [kS]) (fun b o _ eb => PySem.W.of_hideAll _ eb) (PySem.W.hideAll_none _ (List.mem_cons_self ..)) pk.1 pa.1 hka sd hsz (by rw [hul]; exact small_le hz) fun h' tk c kp na => ?_
    have ko : PySem.W.KeyedOut false (bs.map fun b => kd (kk b)) us (PySem.W.sortVals (PySem.W.dataKind s'.heap (bs.map fun b => kd (kk b))) false kA.toList us) := ⟨s'.heap, kA.toList, hal, rfl, ek⟩
    have eo := PySem.W.keyedOut_each (fun b => kd (kk b)) ko (each_of i rv)
    rw [kd_le kk] at eo
    obtain ⟨outV, ro, io⟩ := of_each eo
    have I1a : Inv X pins σ H1 s' := I1.pins_of fun p hp => I1.pin p (List.mem_append_right _ (List.mem_append_left _ hp))
    have I4 : Inv X pins σ H1 { s' with heap := h', toks := tk } := FM.Inv.butCh I1a (ch := [a, kS]) (fun b o hb' eb => kp b o (fun y => hb' (by rw [y]; exact List.mem_cons_self ..)) (PySem.W.hideAll_get _ eb fun y => hb' (by rw [List.mem_singleton.mp y]; exact List.mem_cons_of_mem _ (List.mem_cons_self ..)))) fun b hb' => by
      rcases List.mem_cons.mp hb' with y | y
      · rw [y]
        exact ⟨pa.2.1, oa.y, oa.l, oa.c, oa.p⟩
      · rw [List.mem_singleton.mp y]
        exact ⟨pk.2.1, ok.y, ok.l, ok.c, ok.p⟩
    exact h _ H1 G1 _ outV c I4 g1 pa.2.1 na ro (io.mono g1.gg)
end
end FM
set_option autoImplicit false
namespace FM
open PySem PySem.Spec PyProof.Rows L2 LamX
section
variable {L : Lc} {X : Cx} {S : SlS} {pins : List (Addr × Obj)} {σ : L2.St} {β : Type} {bs : List β} {dd : β → D} {kk : β → List Int} {q : Str} {params : Arguments} {body : Expr} {scope : Scope} {x : Str} {k : Nat} {f c' : Addr} {pm ctv : Value}
theorem OwnR.mk' {H : Hp} {s : Shared} {a : Addr} (I : Inv X pins σ H s) (h : s.heap.objs.size ≤ a) : OwnR X pins a := by
  obtain ⟨_, h1, h2, h3, h4, h5⟩ := I.fpOk (H' := H) h (I.hok.fresh h)
  exact ⟨h3, h1, h2, h4, h5⟩
/-- sorted(xs, key=f), f such a lambda -/
theorem sorted_keyI {s : Shared} {H G : Hp} {l : Addr} {vs : List V} {Q : VK} (La : Lam1 q params body scope x) (hr : Room (k + 3) X.A) (hb : ∀ b ∈ bs, ∀ (A : Around) (outer : List Env) (s : Shared) (H : Hp) (E : XK), Room k (A.deeper (envOfC q scope s.heap.objs.size f (.ref c'))) → EvE L (BodyX X.prog X.w X.K X.mg X.base [x] q scope f (.ref c') A outer s H E) body [.val (dd b)] (tI (kk b)))
    (hkk : ∀ b, kk b ≠ []) (hz : bs.length ≤ 100000) (I : Inv X pins σ H s) (hf : s.heap.get? f = some (PySem.W.kla_obj "<lambda>" q params body scope [] pm c' ctv)) (hfn : H f = none) (hff : f ∉ frs X.stack) (hco : H c' = some (CodeO c' q)) (sb : Sub G H) (t : TbG L H G)
    (hl : H l = some (.lst vs)) (i : IsL L G (bs.map dd) vs)
    (hq : ∀ G' H' p vs, Grow L G H G' H' → H p = none → H' p = some (.lst vs) → G' p = none → IsL L G' ((bs.mergeSort (leK kk)).map dd) vs → Q (.ref p) H') :
    wpAny (model X.prog X.w) X.A (call (.builtin "sorted") [.ref l] [(Str.ofString "key", .ref f)]) (EP X pins σ Q) X.xe s := by
  obtain ⟨hlen, us, cl, rv, el⟩ := I.hok l _ hl
  have hul : us.length = bs.length := by
    have h1 := rv.length
    have h2 := i.length
    rw [List.length_map] at h2
    omega
  have hIs : s.heap.IsList l us.toArray := ⟨_, el, rfl, cl, rfl⟩
  have fl : f < s.heap.objs.size := Heap.lt_size hf
  have fL : f ≠ X.env.locals := fun z => by
    obtain ⟨m, ⟨o, es, ep, ho, hd, _⟩, _⟩ := I.loc
    rw [← z, hf] at ho
    cases ho
    cases hd
  have fF : f ∉ X.fs := fun z => by
    rcases I.ok.stk with e | ⟨e, hfr⟩
    · rw [e] at hff
      exact hff z
    · rw [e] at hff
      unfold frs at hff
      rw [List.filterMap_cons, hfr] at hff
      exact hff (List.mem_cons_of_mem _ z)
  have hr2 : Room (k + 1) X.A.in1.in1 := Room.in1 (Room.in1 hr)
  refine PySem.W.sorted_of_sort hIs (by rw [hul]; exact small_le hz) (ksk_s1 _ _) (fun y => ksk_l1 _ _) fun E' => ?_
  rw [ksk_t1]
  have ho : (PySem.W.copyHeap s.heap us).get? (s.heap.objs.size + 1) = some (seqObj "list" us.toArray 0) := PySem.W.copyHeap_at s.heap us
  have hcs : (PySem.W.copyHeap s.heap us).objs.size = s.heap.objs.size + 2 := by
    unfold PySem.W.copyHeap
    rw [size_push', Heap.size_update, size_push']
  obtain ⟨e1, ho1⟩ : ∃ e1, ((PySem.W.copyHeap s.heap us).update (s.heap.objs.size + 1) (Obj.mapSeq fun _ => (#[] : Array Value))).get? (s.heap.objs.size + 1) = some (seqObj "list" #[] e1) := ⟨_, get?_update_seq ho fun _ => #[]⟩
  unfold ksk_tree
  refine wpAny_bind (listItems_at ho rfl ?_)
  refine wpAny_bind (listUpdate_at ho rfl ?_ (by rw [List.size_toArray, hul]; exact small_le hz) (Nat.zero_le _))
  refine wpAny_bind (seqEpoch_at ho1 rfl ?_)
  refine wpAny_bind (wpAny_newTuple ?_ (by show us.length ≤ _; rw [hul]; exact small_le hz))
  refine wpAny_bind (wpAny_newList ?_ (Nat.zero_le _))
  refine wpAny_holding ?_
  have hsz : (((PySem.W.copyHeap s.heap us).update (s.heap.objs.size + 1) (Obj.mapSeq fun _ => (#[] : Array Value))).push (seqObj "tuple" us.toArray 0)).objs.size = s.heap.objs.size + 3 := by
    rw [size_push', Heap.size_update, hcs]
  show wpAny _ _ (ksk_rest (s.heap.objs.size + 1) (.ref f) false us.toArray e1 (.ref (((PySem.W.copyHeap s.heap us).update (s.heap.objs.size + 1) (Obj.mapSeq fun _ => (#[] : Array Value))).push (seqObj "tuple" us.toArray 0)).objs.size)) _ _
    { s with heap := (((PySem.W.copyHeap s.heap us).update (s.heap.objs.size + 1) (Obj.mapSeq fun _ => (#[] : Array Value))).push (seqObj "tuple" us.toArray 0)).push (seqObj "list" #[] 0) }
  rw [hsz]
  have hk4 : ((((PySem.W.copyHeap s.heap us).update (s.heap.objs.size + 1) (Obj.mapSeq fun _ => (#[] : Array Value))).push (seqObj "tuple" us.toArray 0)).push (seqObj "list" #[] 0)).get? (s.heap.objs.size + 3) = some (seqObj "list" #[] 0) := by
    rw [← hsz]
    exact Heap.get?_push_size _ rfl
  have ha4 : ((((PySem.W.copyHeap s.heap us).update (s.heap.objs.size + 1) (Obj.mapSeq fun _ => (#[] : Array Value))).push (seqObj "tuple" us.toArray 0)).push (seqObj "list" #[] 0)).get? (s.heap.objs.size + 1) = some (seqObj "list" #[] e1) := Heap.get?_push_of_some _ (Heap.get?_push_of_some _ ho1)
  have keep : ∀ b o, s.heap.get? b = some o → ((((PySem.W.copyHeap s.heap us).update (s.heap.objs.size + 1) (Obj.mapSeq fun _ => (#[] : Array Value))).push (seqObj "tuple" us.toArray 0)).push (seqObj "list" #[] 0)).get? b = some o := fun b o eb => by
    have hlt := Heap.lt_size eb
    refine Heap.get?_push_of_some _ (Heap.get?_push_of_some _ ?_)
    exact (Heap.get?_update_ne _ _ _ _ (Nat.ne_of_lt (Nat.lt_succ_of_lt hlt))).trans (PySem.W.copyHeap_old eb)
  have oa : OwnR X pins (s.heap.objs.size + 1) := OwnR.mk' I (Nat.le_succ _)
  have ok : OwnR X pins (s.heap.objs.size + 3) := OwnR.mk' I (by omega)
  have ne1 : f ≠ s.heap.objs.size + 1 := Nat.ne_of_lt (Nat.lt_succ_of_lt fl)
  have ne3 : f ≠ s.heap.objs.size + 3 := Nat.ne_of_lt (Nat.lt_of_lt_of_le fl (Nat.le_add_right _ 3))
  have ne2 : s.heap.objs.size + 3 ≠ s.heap.objs.size + 1 := fun z => by
    have : 3 = 1 := Nat.add_left_cancel z
    cases this
  have na : H (s.heap.objs.size + 1) = none := I.hok.fresh (Nat.le_succ _)
  have nk : H (s.heap.objs.size + 3) = none := I.hok.fresh (by omega)
  have I1 : Inv X pins σ H { s with heap := (((PySem.W.copyHeap s.heap us).update (s.heap.objs.size + 1) (Obj.mapSeq fun _ => (#[] : Array Value))).push (seqObj "tuple" us.toArray 0)).push (seqObj "list" #[] 0), toks := s.toks } := I.kept keep
  refine keyI_rest (k := k) (kk := kk) (pm := pm) (ctv := ctv) La hr2 hb hkk hz oa ok ne1 ne3 ne2 (I1.pins_of fun p hp => ?_) hco sb t i rv fun s' H' G' out outV c I' g hn hs ro io => ⟨rfl, ?_⟩
  · rcases List.mem_append.mp hp with y | y
    · exact I1.pin p (List.mem_append_right _ y)
    · rcases List.mem_cons.mp y with y1 | y
      · rw [y1]
        exact ⟨keep _ _ hf, hfn, fL, fF, fun v z => by cases z⟩
      · rcases List.mem_cons.mp y with y1 | y
        · rw [y1]
          exact ⟨ha4, na, oa.l, oa.f, fun v z => by cases z⟩
        · rw [List.mem_singleton.mp y]
          exact ⟨hk4, nk, ok.l, ok.f, fun v z => by cases z⟩
  · have hol : outV.length ≤ sizeLine := by
      have h1 := io.length
      rw [List.length_map, List.length_mergeSort] at h1
      exact small_le (by omega)
    exact ⟨.ref _, _, FM.Inv.track I' hn oa.y oa.l oa.c oa.p hs ro hol, rfl, hq G' _ _ outV (g.trans (Grow.more g.gh hn)) na upd_same (sub_none g.gh hn) io⟩
end
/-! ### a lambda made: what is tracked then -/
/-- nothing new; or a code object, told in the table at P -/
def LamSt (P : Addr) (q : Str) (H H1 : Hp) : Prop := H1 = H ∨ ∃ ps ps' c, H P = some (.tbl ps) ∧ H c = none ∧ H1 = upd (upd H P (.tbl ps')) c (CodeO c q)
theorem LamSt.keep {P : Addr} {q : Str} {H H1 : Hp} (l : LamSt P q H H1) : ExtN H H1 ∧ ∀ y ps, H y = some (.tbl ps) → ∃ ps', H1 y = some (.tbl ps') := by
  rcases l with rfl | ⟨ps, ps', c, hP, hc, rfl⟩
  · exact ⟨ExtN.refl _, fun y ps e => ⟨ps, e⟩⟩
  · refine ⟨fun b o e n => ?_, fun y qs e => ?_⟩
    · rw [upd_ne (ne_of_none e hc), upd_ne]
      · exact e
      · rintro rfl
        rw [hP] at e
        exact n ps (Option.some.inj e).symm
    · rw [upd_ne (ne_of_none e hc)]
      by_cases z : y = P
      · rw [z, upd_same]
        exact ⟨ps', rfl⟩
      · rw [upd_ne z]
        exact ⟨qs, e⟩
theorem lam_make3 {X : Cx} {pins : List (Addr × Obj)} {σ : L2.St} {H : Hp} {s : Shared} {T : List (Addr × Str)} {c P : Addr} {params : Arguments} {body : Expr} {scope : Scope} {pos : Pos} {E : Value → Shared → Prop} {Q : Value → Shared → Prop} (I : Inv X pins σ H s) (TB : TabB X.base X.mg c P) (hcode : X.env.code = .ref c)
    (hm : (P, X.env.qual ++ "<lambda>") ∈ T) (hu : ∀ p ∈ T, p.1 = P → p.2 = X.env.qual ++ "<lambda>") (hT : Tabs T H) (hdef : defaultsOf params X.env = ([], [])) (hfree : ∀ y ∈ scope.names, y.2 = .free → ∃ c, X.env.cells.lookup y.1 = some c)
    (h : ∀ (f c' : Addr) (pm ctv : Value) (H1 : Hp) (s' : Shared), Inv X pins σ H1 s' → LamSt P (X.env.qual ++ "<lambda>") H H1 → Tabs T H1 →
      s'.heap.get? f = some (PySem.W.kla_obj "<lambda>" (X.env.qual ++ "<lambda>") params body scope (cloFrom X.env.cells scope.names []) pm c' ctv) → H1 f = none → f ∉ frs X.stack → H1 c' = some (CodeO c' (X.env.qual ++ "<lambda>")) → Q (.ref f) s') :
    wpAny (model X.prog X.w) X.A (eval (.Lambda params body scope pos) X.env) Q E s := by
  obtain ⟨ps, hP, ht, ha⟩ := hT _ hm
  have bP : s.heap.BuiltinsAt X.mg P := TB.bm.keeps I.bk
  have hP' : s.heap.get? P = some { cls := .none, data := .fields ps } := I.hok P _ hP
  have young : ∀ f, s.heap.objs.size ≤ f → f ∉ frs X.stack := fun f hf z => by
    rcases List.mem_cons.mp (I.stkSub _ z) with e | e
    · exact absurd (Nat.lt_of_lt_of_le I.lt (e ▸ hf)) (Nat.lt_irrefl _)
    · exact I.nofs hf e
  refine PySem.W.kla_eval hdef ?_
  by_cases hc : codeAmong pos ps.toList = none
  · refine PySem.W.kla_makeFunction (mg := X.mg) (P := P) (ps := ps) (closure_ok hfree) I.ok.glob (I.mod.glob.keeps I.bk) hcode (TB.code.keeps I.bk) hP' ht hc TB.gP bP fun c' ctv h' tk hx hge hlt hrec htb => ?_
    obtain ⟨c2, oc, vs, t, e2, hoc, hd, hv⟩ := hrec
    cases e2
    have nC : H c' = none := I.hok.fresh hge
    have hsz : s.heap.objs.size ≤ h'.objs.size := Nat.le_trans hge (Nat.le_of_lt hlt)
    have J := inv_table (t' := tk) (q := X.env.qual ++ "<lambda>") (more := #[rawInt pos.line, rawInt pos.col, .ref c']) (h' := h'.push (PySem.W.kla_obj "<lambda>" (X.env.qual ++ "<lambda>") params body scope (cloFrom X.env.cells scope.names []) ((X.mg "__name__").getD .none) c' ctv)) I hP
      (fun b o hb e => Heap.get?_push_of_some _ (hx b o hb e)) (Heap.get?_push_of_some _ htb) hge ⟨oc, vs, t, Heap.get?_push_of_some _ hoc, hd, hv⟩
    have st : LamSt P (X.env.qual ++ "<lambda>") H (upd (upd H P (.tbl (ps ++ #[rawInt pos.line, rawInt pos.col, .ref c']))) c' (CodeO c' (X.env.qual ++ "<lambda>"))) := .inr ⟨ps, _, c', hP, nC, rfl⟩
    have ek := st.keep.1
    have el : (ps ++ #[rawInt pos.line, rawInt pos.col, .ref c']).toList = ps.toList ++ [rawInt pos.line, rawInt pos.col, .ref c'] := by simp
    refine h h'.objs.size c' ((X.mg "__name__").getD .none) ctv _ _ J st (fun p hp => ?_) (Heap.get?_push_size _ rfl) ?_ (young _ hsz) upd_same
    · by_cases hb : p.1 = P
      · rw [hu p hp hb, hb]
        refine ⟨_, by rw [upd_ne (ne_of_none hP nC), upd_same], by rw [el]; exact PySem.TriplesOk_snoc _ _ _ _ ht, fun pz cv hz => ?_⟩
        rw [el] at hz
        rcases among_app _ ht hz with z | z
        · obtain ⟨c0, z1, z2⟩ := ha pz cv z
          exact ⟨c0, z1, ek _ _ z2 codeO_ne⟩
        · exact ⟨c', z, upd_same⟩
      · obtain ⟨qs, a1, a2, a3⟩ := hT p hp
        refine ⟨qs, by rw [upd_ne (ne_of_none a1 nC), upd_ne hb]; exact a1, a2, fun pz cv hz => ?_⟩
        obtain ⟨c0, z1, z2⟩ := a3 pz cv hz
        exact ⟨c0, z1, ek _ _ z2 codeO_ne⟩
    · rw [upd_ne (Nat.ne_of_gt hlt), upd_ne (Nat.ne_of_gt (Nat.lt_of_lt_of_le (Heap.lt_size hP') hsz))]
      exact I.hok.fresh hsz
  · obtain ⟨cv, hcv⟩ := Option.ne_none_iff_exists'.mp hc
    obtain ⟨c', rfl, hco⟩ := ha pos cv hcv
    refine PySem.W.kla_makeFunctionHit (mg := X.mg) (P := P) (ps := ps) (closure_ok hfree) I.ok.glob (I.mod.glob.keeps I.bk) hcode (TB.code.keeps I.bk) hP' ht hcv bP fun ctv h' tk hx hsz => ?_
    have J : Inv X pins σ H { s with heap := h'.push (PySem.W.kla_obj "<lambda>" (X.env.qual ++ "<lambda>") params body scope (cloFrom X.env.cells scope.names []) ((X.mg "__name__").getD .none) c' ctv), toks := tk } := I.kept fun b o e => Heap.get?_push_of_some _ (hx b o e)
    exact h h'.objs.size c' ((X.mg "__name__").getD .none) ctv H _ J (.inl rfl) hT (Heap.get?_push_size _ rfl) (I.hok.fresh hsz) (young _ hsz) hco
/-- what the def's own code object must have -/
structure CodeT (base : Heap) (mg : Str → Option Value) (L : Lc) (cdv : Value) (q : Str) : Prop where
  ex : ∃ c P, cdv = .ref c ∧ TabB base mg c P ∧ (P, q) ∈ L.T ∧ ∀ p ∈ L.T, p.1 = P → p.2 = q
section
variable {L : Lc} {X : Cx} {S : SlS} {β : Type} {bs : List β} {dd : β → D} {kk : β → List Int} {params : Arguments} {body e : Expr} {scope : Scope} {x : Str} {k : Nat} {p lpos pos kpos : Pos}
theorem evn_sortKey (T : CodeT X.base X.mg L X.env.code (X.env.qual ++ "<lambda>")) (hm : X.mg "sorted" = none) (h : EvQ L X e S true (bs.map dd)) (La : Lam1 (X.env.qual ++ "<lambda>") params body scope x) (hr : Room (k + 3) X.A) (hkk : ∀ b, kk b ≠ []) (hz : bs.length ≤ 100000)
    (hb : ∀ b ∈ bs, ∀ (f c' : Addr) (A : Around) (outer : List Env) (s : Shared) (H : Hp) (E : XK), Room k (A.deeper (envOfC (X.env.qual ++ "<lambda>") scope s.heap.objs.size f (.ref c'))) → EvE L (BodyX X.prog X.w X.K X.mg X.base [x] (X.env.qual ++ "<lambda>") scope f (.ref c') A outer s H E) body [.val (dd b)] (tI (kk b)))
    (hdef : defaultsOf params X.env = ([], [])) (hnf : ∀ y ∈ scope.names, y.2 ≠ .free) (hcl : cloFrom X.env.cells scope.names [] = []) (hg : Gl X "sorted" := by rfl) (hs : starEach [e] X.env = (false, eval e X.env) :: starEach [] X.env := by rfl) :
    EvN L X (.Call (.Name "sorted" p) [e] [⟨some "key", .Lambda params body scope lpos, kpos⟩] pos) S ((bs.mergeSort (leK kk)).map dd) := by
  obtain ⟨c, P, hcode, TB, hmT, hu⟩ := T.ex
  refine ⟨fun pins s σ H Q I ⟨G, R, q⟩ => ?_⟩
  refine wpAny_Call_Name_kw (ld_blt I hg hm boot_sorted ?_ (by decide) (by decide))
  refine PyProof.Rows.callWith_kw (thn ((pa_cons h pa_nil hs).run pos pins s σ H (fun vs H' => ∃ l G' ws, vs = [.ref l] ∧ Grow L G H G' H' ∧ H' l = some (.lst ws) ∧ IsL L G' (bs.map dd) ws) I ⟨G, R, fun G' H' a vs g ha i => ⟨a, G', vs, rfl, g, ha, i⟩⟩) fun us s1 ⟨vs, H1, I1, r1, l, G1, ws, ev, g1, hl, i1⟩ => ?_) (by rw [hs]; rfl) (by rw [hs]; rfl) rfl rfl
  subst ev
  cases r1 with
  | cons r rr =>
    cases rr
    cases r
    show wpAny _ _ (evalAll ((do let v ← eval (.Lambda params body scope lpos) X.env; standAt pos; pure v) :: (backToKw pos (keywordEach [] X.env)).map (·.2))) _ _ s1
    refine wpAny_evalAll_cons (wpAny_bind ?_)
    refine lam_make3 (T := L.T) I1 TB hcode hmT hu (g1.tg R.tabs).t hdef (fun y hy z => absurd z (hnf y hy)) fun f c' pm ctv H2 s2 I2 lst T2 hf hfn hff hco => ?_
    refine wpAny_bind (wpAny_standAt (wpAny_pure ?_))
    refine wpAny_evalAll_nil ?_
    rw [hcl] at hf
    have eN := lst.keep.1
    have t1 := g1.tg R.tabs
    have sb2 : Sub G1 H2 := fun a o eo => eN a o (g1.gh a o eo) fun ps z => t1.n a ps (by rw [eo, z])
    have g2 : Grow L G1 H1 G1 H2 := ⟨fun _ _ eo => eo, fun a o eo nt => eN a o eo nt, sb2, fun _ n _ => n, fun _ => T2, fun n => n, lst.keep.2⟩
    exact sorted_keyI (k := k) (kk := kk) (bs := bs) (dd := dd) La hr (fun b hbm A outer s H E hr' => hb b hbm f c' A outer s H E hr') hkk hz I2 hf hfn hff hco sb2 (g2.tg t1) (eN l _ hl fun ps z => by cases z) i1 fun G' H' p' vs' g hp hp' gp i' => q G' H' p' vs' (g1.trans (g2.trans g)) (g1.back (g2.back hp)) hp' gp i'
end
end FM
set_option autoImplicit false
namespace FM
open PySem PySem.Spec PyProof.Rows L2 LamX Pol
/-! ## parted -/
section
variable {K : Type} [Fd K]
theorem prodP_len_le {gs hs : List (Pol K)} (w : WG gs) (h : hs.Sublist gs) : (prodP hs).len ≤ (prodP gs).len := by
  induction h with
  | slnil => exact Nat.le_refl _
  | @cons l1 l2 g _ ih =>
    have ih := ih w.tail
    have m := w.mo g (List.mem_cons_self ..)
    have m2 := prodP_mo w.tail.mo
    have := len_mul m.ne m2.ne
    have := len_pos m.ne
    rw [prodP]
    omega
  | @cons_cons l1 l2 g hs ih =>
    have ih := ih w.tail
    have m := w.mo g (List.mem_cons_self ..)
    have m2 := prodP_mo w.tail.mo
    have m3 := prodP_mo (w.tail.sub hs).mo
    have := len_mul m.ne m2.ne
    have := len_mul m.ne m3.ne
    rw [prodP, prodP]
    omega
noncomputable def prtI (b : Pol K) (ps : List (Pol K)) (cs : List K) : List (List (Pol K)) := (cs.map fun c => fil b c ps).filter fun l => !l.isEmpty
theorem prtI_snoc (b : Pol K) (ps : List (Pol K)) (cs : List K) (x : K) : prtI b ps (cs ++ [x]) = prtI b ps cs ++ if (fil b x ps).isEmpty = true then [] else [fil b x ps] := by
  unfold prtI
  rw [List.map_append, List.filter_append]
  congr 1
  rw [List.map_singleton, List.filter_cons]
  cases (fil b x ps).isEmpty <;> rfl
theorem prtI_len (b : Pol K) (ps : List (Pol K)) (cs : List K) : (prtI b ps cs).length ≤ cs.length := by
  unfold prtI
  refine Nat.le_trans (List.length_filter_le _ _) ?_
  rw [List.length_map]
  exact Nat.le_refl _
end
inductive R_parted : List D → D → Prop
  | mk (c : FC) (ps : List (Pol (Kq c))) (b : Pol (Kq c)) (w : WG ps) (h : ∀ g ∈ ps, ∃ x, Dv g (b - C x)) (hl : (prodP ps).len ≤ 30) (hb : b.len ≤ 30) : R_parted [c.P (prodP ps), c.P b] (.lst ((prt c.all b ps).map fun l => c.P (prodP l)))
section
variable {P : Program} {w : World} {K : PySem.W.Frag} {mg : Str → Option Value} {base : Heap} {L : Lc} {f : Addr} {fd : FuncData}
abbrev N_parted : List Str := ["f", "b", "found", "c", "part"]
theorem sc_parted : FnScope N_parted ["f", "b"] (defScope s_parted) := ⟨rfl, rfl, rfl, by decide +kernel, rfl, by decide +kernel, by decide +kernel⟩
theorem ok_parted (T : Txt K mg L) (M : GnC K L) (Cm : MtC P w K mg base L L.CF "member" 2 ["self", "number"] R_F_member) (C1 : FnC P w K mg base L "common_divisor" 7 ["f", "g"] R_common_divisor) (C2 : FnC P w K mg base L "constant" 5 ["field", "a"] R_constant) (C3 : MtC P w K mg base L L.CP "degree" 1 ["self"] R_P_degree) (O1 : OpC P w K mg base L .Sub 5 ["self", "other"] R_P_sub)
    (F : FunS K "parted" "parted" s_parted f fd) : FnOk P w K mg base CX0 8 f fd ["f", "b"] (spD L R_parted) := by
  refine fn_ev F sc_parted (fun ds r h => by cases h <;> rfl) fun cdv A outer s H E hr ds r h => ?_
  cases h with
  | mk c ps b wg h hl hb =>
    have nd := sc_parted.nd
    have hr1 : Room 1 _ := hr.mono (by decide)
    have hr4 : Room 4 _ := hr.mono (by decide)
    have hr5 : Room 5 _ := hr.mono (by decide)
    have q9 := c.g0.2.2.2.2.1
    let W : Nat → SlS := fun i => [.val (c.P (prodP ps)), .val (c.P b), .own ((prtI b ps (c.all.take i)).map fun l => c.P (prodP l)), .any, .any]
    refine .ret (evb_cons (evs_setn 2 (evn_lst eva_nil) nd) (evb_cons (evs_forG (q := c.T.q) (ds := c.mem') (t := .one 3) (W := W) (ev_members T M Cm hr4 rfl (ev_pol_f T.cls (ev_var 0))) (evg_one 3 nd) PassesOwn.never (fun _ _ z => z) hr1 fun i hi => ?_) (evb_one (evs_frz 2 rfl (evs_ret ((ev_var 2).is ?_))))))
    · have hx := c.all_get hi
      generalize hxe : (⟨i, hi⟩ : Kq c) = x at hx
      have em : c.mem' i = c.eK x := by
        unfold FC.mem'
        rw [dif_pos hi, hxe]
      rw [em]
      have g := split_gcd wg h x
      have lC : (C x : Pol (Kq c)).len ≤ 30 := by
        by_cases z : x = 0
        · rw [z, C_zero, len_zero]; omega
        · rw [len_C z]; omega
      have ls := len_sub_le b (C x) (n := 30) hb lC
      have wf := wg.sub (qs := fil b x ps) List.filter_sublist
      have l1 := len_pos (prodP_mo wf.mo).ne
      have fl := fil_len wf
      refine ⟨_, _, rfl, evb_weak (S1 := [.val (c.P (prodP ps)), .val (c.P b), .own ((prtI b ps (c.all.take (i + 1))).map fun l => c.P (prodP l)), .val (c.eK x), .val (c.P (prodP (fil b x ps)))]) (evb_cons (evs_set 4 (d := c.P (prodP (fil b x ps))) (ev_call C1 hr (eva_cons (ev_var 0) (eva_cons (ev_opP O1 hr5 (ev_var 1) (ev_call C2 hr5 (eva_cons (ev_pol_f T.cls (ev_var 0)) (eva_cons (ev_var 3) eva_nil)) (.mk c x)) (.mk c _ _ (by omega) (by omega))) eva_nil)) (.mk c _ _ _ (by omega) (by omega) g)) nd)
        (evb_one (evs_if (evt_gt (ev_methP0 T.cls C3 hr1 (ev_var 4) (.mk c _)) ev_int) (fun z => ?_) (fun z => ?_)))) ?_, .inl rfl⟩
      · have z' := of_decide_eq_true z
        have ne : (fil b x ps).isEmpty = false := by
          cases e : fil b x ps with
          | nil => rw [e] at z'; exact absurd z' (by show ¬ (0 : Int) < ((1 : Pol (Kq c)).len : Int) - 1; rw [len_one]; decide)
          | cons g gs => rfl
        have hap := prtI_snoc b ps (c.all.take i) x
        rw [← take_succ_of hx, ne, if_neg (by decide)] at hap
        rw [hap, List.map_append]
        refine evb_one (evs_append 2 (ev_var 4) rfl ?_)
        have := prtI_len b ps (c.all.take i)
        rw [List.length_map]
        rw [List.length_take] at this
        omega
      · have z' := of_decide_eq_false z
        have e0 : fil b x ps = [] := fl.mp (by omega)
        have hap := prtI_snoc b ps (c.all.take i) x
        rw [← take_succ_of hx, e0, if_pos (show ([] : List (Pol (Kq c))).isEmpty = true from rfl), List.append_nil] at hap
        rw [hap]
        exact evb_nil
      · exact .same (.same (.same (.any (.any .nil))))
    · show D.lst ((prtI b ps (c.all.take c.T.q)).map _) = _
      rw [show c.all.take c.T.q = c.all from List.take_of_length_le (by rw [c.all_len]; exact Nat.le_refl _)]
      rfl
end
end FM
set_option autoImplicit false
namespace FM
open PySem PySem.Spec PyProof.Rows L2 LamX Pol
/-- a def that makes lambdas: its code object is known -/
theorem fn_evC {P : Program} {w : World} {K : PySem.W.Frag} {mg : Str → Option Value} {base : Heap} {L : Lc} {x qual : Str} {st : Stmt} {dvs : List V} {kws : List (Str × V)} {f : Addr} {fd : FuncData} {N ps : List Str} {k : Nat} {q : Str} {R : List D → D → Prop} (F : FunD K x qual (defArgs st) (defBody st) (defScope st) dvs kws f fd) (CT : CodeT base mg L fd.code q) (Sc : FnScope N ps (defScope st))
    (hl : ∀ ds r, R ds r → ds.length = ps.length)
    (body : ∀ (cdv : Value) (A : Around) (outer : List Env) (s : Shared) (H : Hp) (E : XK), CodeT base mg L cdv q → Room k (A.deeper (envOfC qual (defScope st) s.heap.objs.size f cdv)) → ∀ ds r, R ds r → EvF L (BodyX P w K mg base N qual (defScope st) f cdv A outer s H E) (defBody st) (stS N ds) r) :
    FnOk P w K mg base CX0 (k + 1) f fd ps (spD L R) := by
  obtain ⟨oc, od, dV, kV, doc, pm, an, cdv, ct, osl, rfl, lk, hcd, _, _⟩ := F.ex
  refine fn_of lk hcd Sc (fun vs H Q E ⟨G, ds, r, s, t, i, hR, q⟩ => by rw [← i.length]; exact hl ds r hR) fun A outer s H vs Q E hr ⟨G, ds, r, sb, t, i, hR, q⟩ => ?_
  cases body cdv A outer s H E CT hr ds r hR with
  | ret h => exact ⟨_, h.nox, ⟨H, G⟩, G, rep_start sb t i, fun G' H' v g j => q G' H' v g j⟩
  | fall h => exact ⟨_, h.nox, ⟨H, G⟩, G, rep_start sb t i, fun σ' H' G' _ R' => q G' H' .non R'.g .non⟩
/-! ## the order of polynomials -/
theorem pkey_inj {c : FC} {a b : Pol (Kq c)} (h : pkey a = pkey b) : a = b := by
  unfold pkey at h
  injection h with _ h
  have e : ∀ {l m : List (Kq c)}, (l.map fun x => (x.v : Int)) = (m.map fun x => (x.v : Int)) → l = m := fun {l} => by
    induction l with
    | nil =>
      intro m h
      cases m with
      | nil => rfl
      | cons y m => cases h
    | cons x l ih =>
      intro m h
      cases m with
      | nil => cases h
      | cons y m =>
        rw [List.map_cons, List.map_cons] at h
        injection h with h1 h2
        rw [ih h2, Kq.ext (a := x) (b := y) (by omega)]
  have h2 := List.reverse_inj.mp (e h)
  cases a
  cases b
  cases h2
  rfl
theorem leK_trans {β : Type} (k : β → List Int) (a b c : β) (h1 : leK k a b = true) (h2 : leK k b c = true) : leK k a c = true := decide_eq_true (List.le_trans (of_decide_eq_true h1) (of_decide_eq_true h2))
theorem leK_total {β : Type} (k : β → List Int) (a b : β) : (leK k a b || leK k b a) = true := by
  unfold leK
  rcases List.le_total (k a) (k b) with h | h
  · rw [decide_eq_true h]; rfl
  · rw [decide_eq_true h, Bool.or_true]
theorem sort_perm {β : Type} {k : β → List Int} (inj : ∀ a b, k a = k b → a = b) {xs ys : List β} (h : xs.Perm ys) : xs.mergeSort (leK k) = ys.mergeSort (leK k) := by
  refine List.Perm.eq_of_pairwise (le := fun a b => leK k a b = true) (fun a b _ _ h1 h2 => inj a b (List.le_antisymm (of_decide_eq_true h1) (of_decide_eq_true h2))) (List.pairwise_mergeSort (leK_trans k) (leK_total k) xs) (List.pairwise_mergeSort (leK_trans k) (leK_total k) ys) ?_
  exact ((List.mergeSort_perm xs _).trans h).trans (List.mergeSort_perm ys _).symm
def srtP {c : FC} (gs : List (Pol (Kq c))) : List (Pol (Kq c)) := gs.mergeSort (leK pkey)
section
variable {K : Type} [Fd K]
theorem prodP_len_ge {gs : List (Pol K)} (w : WG gs) : gs.length + 1 ≤ (prodP gs).len := by
  induction gs with
  | nil => rw [show prodP ([] : List (Pol K)) = 1 from rfl, len_one]; exact Nat.le_refl _
  | cons g gs ih =>
    have ih := ih w.tail
    have m := w.mo g (List.mem_cons_self ..)
    have m2 := prodP_mo w.tail.mo
    have := len_mul m.ne m2.ne
    have := (w.irr g (List.mem_cons_self ..)).1
    rw [prodP, List.length_cons]
    omega
theorem prodP_one (g : Pol K) : prodP [g] = g := by
  rw [prodP, prodP]
  grind
end
inductive R_divided : List D → D → Prop
  | mk (c : FC) (gs : List (Pol (Kq c))) (w : WG gs) (h : gs ≠ []) (hl : (prodP gs).len ≤ 30) : R_divided [c.P (prodP gs)] (.tup ((srtP gs).map c.P))
section
variable {P : Program} {w : World} {K : PySem.W.Frag} {mg : Str → Option Value} {base : Heap} {L : Lc} {f : Addr} {fd : FuncData}
abbrev N_divided : List Str := ["f", "basis", "found", "b", "finer", "part"]
theorem sc_divided : FnScope N_divided ["f"] (defScope s_divided) := ⟨rfl, rfl, rfl, by decide +kernel, rfl, by decide +kernel, by decide +kernel⟩
theorem ok_divided (T : Txt K mg L) (CT : CodeT base mg L fd.code ("divided" ++ ".<locals>." ++ "<lambda>")) (C1 : FnC P w K mg base L "fixed_space" 10 ["f"] R_fixed_space) (C2 : FnC P w K mg base L "parted" 8 ["f", "b"] R_parted) (C3 : MtC P w K mg base L L.CP "key" 1 ["self"] R_P_key)
    (F : FunS K "divided" "divided" s_divided f fd) : FnOk P w K mg base CX0 11 f fd ["f"] (spD L R_divided) := by
  refine fn_evC F CT sc_divided (fun ds r h => by cases h <;> rfl) fun cdv A outer s H E ct hr ds r h => ?_
  cases h with
  | mk c gs wg hne hl =>
    have nd := sc_divided.nd
    have hr1 : Room 1 _ := hr.mono (by decide)
    have hr4 : Room 4 _ := hr.mono (by decide)
    have hr8 : Room 8 _ := hr.mono (by decide)
    have lge := prodP_len_ge wg
    obtain ⟨m, hm⟩ : ∃ m, (prodP gs).len = m + 1 := ⟨(prodP gs).len - 1, by omega⟩
    have fin := c.fin
    obtain ⟨b1, b2⟩ := basis_ok c.chp fin wg hm
    rw [c.all_len] at b1 b2
    generalize hB : basisP (prodP gs) c.T.q m = B at b1 b2
    have lB : ∀ b ∈ B, b.len ≤ m := fun b hb => by
      have kl : ∀ r ∈ kerL (colB (prodP gs) c.T.q m) m, r.length = m := fun r hr => (ker_sol (colB_len _ _ _) r hr).1
      rw [← hB] at hb
      obtain ⟨r, hr', rfl⟩ := List.mem_map.mp hb
      have := (redS_I kl m (Nat.le_refl _)).ld r hr'
      have := mk_len r
      omega
    have nB : B.length ≤ m := by
      have kl : ∀ r ∈ kerL (colB (prodP gs) c.T.q m) m, r.length = m := fun r hr => (ker_sol (colB_len _ _ _) r hr).1
      have lk : (kerL (colB (prodP gs) c.T.q m) m).length ≤ m := by
        unfold kerL free
        rw [List.length_map]
        have := List.length_filter_le (fun c' => !decide (c' ∈ (redS (colB (prodP gs) c.T.q m) m).piv)) (List.range m)
        rwa [List.length_range] at this
      have I := redS_I kl m (Nat.le_refl _)
      have := I.cnt
      rw [← hB]
      unfold basisP basisL
      rw [List.length_map]
      omega
    have DIi := fun i hi => dS_I fin (B := B) (gs := gs) hne i hi
    have lD : ∀ i, i ≤ B.length → (dS c.all B gs i).length ≤ gs.length := fun i hi => by
      have I := DIi i hi
      have := (flat_ones _ fun l hl => (I.ne l hl).1).1
      have := I.perm.length_eq
      omega
    obtain ⟨hs, pm, dE⟩ := dS_end fin wg hne b1 b2
    let pp : List (Pol (Kq c)) → D := fun l => c.P (prodP l)
    let W : Nat → SlS := fun i => [.val (c.P (prodP gs)), .val (.tup (B.map c.P)), .val (.lst ((dS c.all B gs i).map pp)), .any, .any, .any]
    have h1 := R_fixed_space.mk c gs m wg hne hm (by omega)
    rw [hB] at h1
    refine .ret (evb_cons (evs_set 1 (ev_call C1 hr (eva_cons (ev_var 0) eva_nil) h1) nd) (evb_cons (evs_set 2 (d := .lst ((dS c.all B gs 0).map pp)) ((ev_new (evn_lst (eva_cons (ev_var 0) eva_nil))).is rfl) nd) (evb_cons (evs_forT (xs := B) (en := c.P) (t := .one 3) (W := W) (evi_tup (ev_var 1)) (evg_one 3 nd) PassesOwn.never rfl fun i b hb => ?_) (evb_one (evs_ret ((ev_tupleL T.tuple (evq_n (evn_sortKey (k := 1) (bs := hs) (dd := c.P) (kk := pkey) ct T.sorted (evq_l (ev_var 2 (d := .lst (hs.map c.P)) (hs := ?_))) ⟨⟨rfl, rfl, rfl, by decide +kernel, rfl, by decide +kernel, by decide +kernel⟩, fun _ _ _ _ _ => rfl⟩ hr4 (fun b => by unfold pkey; exact fun z => by cases z) ?_ ?_ rfl ?_ rfl))).is ?_))))))
    · have bi : i < B.length := (List.getElem?_eq_some_iff.mp hb).1
      have hbm := List.mem_of_getElem? hb
      have hbl := lB b hbm
      have l1 := lD i (by omega)
      have l2 := lD (i + 1) (by omega)
      have I := DIi i (by omega)
      have eb : B.getD i 0 = b := by rw [List.getD_eq_getElem?_getD, hb]; rfl
      refine ⟨_, _, rfl, evb_weak (S1 := [.val (c.P (prodP gs)), .val (.tup (B.map c.P)), .val (.lst ((dS c.all B gs (i + 1)).map pp)), .val (c.P b), .any, .any]) (evb_one (evs_if (evt_lt (ev_len T.len (evq_l (ev_var 2))) (ev_len T.len (evq_t (ev_var 1)))) (fun z => ?_) (fun z => ?_))) (.same (.same (.same (.any (.any (.any .nil)))))), .inl rfl⟩
      · have z' := of_decide_eq_true z
        rw [List.length_map, List.length_map] at z'
        have z2 : (dS c.all B gs i).length < B.length := by omega
        have eD : dS c.all B gs (i + 1) = (dS c.all B gs i).flatMap (prt c.all b) := by
          rw [dS, if_pos z2, eb]
        rw [eD] at l2 ⊢
        let V : Nat → SlS := fun j => [.val (c.P (prodP gs)), .val (.tup (B.map c.P)), .val (.lst ((dS c.all B gs i).map pp)), .val (c.P b), .own ((((dS c.all B gs i).take j).flatMap (prt c.all b)).map pp), .any]
        refine evb_cons (evs_setn 4 (evn_lst eva_nil) nd) (evb_cons (evs_pre (S1 := V 0) (.same (.same (.same (.same (.same (.any .nil)))))) (evs_forT (xs := dS c.all B gs i) (en := pp) (t := .one 5) (W := V) (evi_list (ev_new (evn_list T.list (evq_l (ev_var 2))))) (evg_one 5 nd) PassesOwn.never rfl fun j l hj => ?_)) (evb_frz 4 rfl (evb_weak (evb_one (evs_set 2 (ev_var 4) nd)) ?_)))
        · have hlm := List.mem_of_getElem? hj
          obtain ⟨ln, ls⟩ := I.ne l hlm
          have wl := wg.sub ls
          have ll := prodP_len_le wg ls
          have sz : (((dS c.all B gs i).take (j + 1)).flatMap (prt c.all b)).length ≤ ((dS c.all B gs i).flatMap (prt c.all b)).length := by
            conv => rhs; rw [← List.take_append_drop (j + 1) (dS c.all B gs i), List.flatMap_append, List.length_append]
            omega
          rw [take_succ_of hj, List.flatMap_append, List.flatMap_singleton, List.length_append] at sz
          refine ⟨_, _, rfl, evb_weak (evb_one (evs_setn 4 (evn_cat (evq_own 4) (evq_l (ev_call C2 hr8 (eva_cons (ev_var 5) (eva_cons (ev_var 3) eva_nil)) (.mk c l b wl (fun g hg => b2 b hbm g (ls.subset hg)) (by omega) (by omega)))) ?_) nd)) ?_, .inl rfl⟩
          · rw [List.length_map, List.length_map]
            omega
          · show Weak [_, _, _, _, Sl.own _, _] [_, _, _, _, Sl.own ((((dS c.all B gs i).take (j + 1)).flatMap (prt c.all b)).map pp), _]
            rw [take_succ_of hj, List.flatMap_append, List.flatMap_singleton, List.map_append]
            exact .same (.same (.same (.same (.same (.any .nil)))))
        · show Weak [_, _, Sl.val (D.lst ((((dS c.all B gs i).take (dS c.all B gs i).length).flatMap (prt c.all b)).map pp)), _, _, _] [_, _, _, _, _, _]
          rw [List.take_length]
          exact .same (.same (.same (.same (.any (.any .nil)))))
      · have z' := of_decide_eq_false z
        rw [List.length_map, List.length_map] at z'
        have eD : dS c.all B gs (i + 1) = dS c.all B gs i := by
          rw [dS, if_neg (by omega)]
        rw [eD]
        exact evb_weak evb_nil (.same (.same (.same (.same (.any (.any .nil))))))
    · show some (Sl.val (D.lst ((dS c.all B gs B.length).map pp))) = _
      rw [dE, List.map_map]
      congr 3
      refine List.map_congr_left fun g _ => ?_
      show c.P (prodP [g]) = c.P g
      rw [prodP_one]
    · have := pm.length_eq
      omega
    · intro b hb f' c' A' outer' s' H' E' hr'
      refine ev_methP0 T.cls C3 hr' (ev_var 0) (.mk c b ?_)
      have hbg : b ∈ gs := pm.subset hb
      have h1 := prodP_len_le wg (List.singleton_sublist.mpr hbg)
      rw [prodP_one] at h1
      omega
    · intro y hy
      rw [List.mem_singleton.mp hy]
      exact fun z => by cases z
    · unfold srtP
      rw [sort_perm (fun a b h => pkey_inj h) pm]
end
end FM
set_option autoImplicit false
namespace FM
open PySem PySem.Spec PyProof.Rows L2 LamX Pol
theorem sort_permM {β : Type} {k : β → List Int} {xs ys : List β} (inj : ∀ a ∈ xs, ∀ b ∈ xs, k a = k b → a = b) (h : xs.Perm ys) : xs.mergeSort (leK k) = ys.mergeSort (leK k) := by
  refine List.Perm.eq_of_pairwise (le := fun a b => leK k a b = true) (fun a b ha hb h1 h2 => inj a ((List.mergeSort_perm xs _).mem_iff.mp ha) b (h.symm.mem_iff.mp ((List.mergeSort_perm ys _).mem_iff.mp hb)) (List.le_antisymm (of_decide_eq_true h1) (of_decide_eq_true h2))) (List.pairwise_mergeSort (leK_trans k) (leK_total k) xs) (List.pairwise_mergeSort (leK_trans k) (leK_total k) ys) ?_
  exact ((List.mergeSort_perm xs _).trans h).trans (List.mergeSort_perm ys _).symm
theorem flatMap_perm {α β : Type} {f g : α → List β} (h : ∀ a, (f a).Perm (g a)) : ∀ l : List α, (l.flatMap f).Perm (l.flatMap g)
  | [] => .refl _
  | a :: l => by
    rw [List.flatMap_cons, List.flatMap_cons]
    exact (h a).append (flatMap_perm h l)
theorem pw_eq {α β : Type} {l : List (α × β)} (h : l.Pairwise fun x y => x.1 ≠ y.1) : ∀ x ∈ l, ∀ y ∈ l, x.1 = y.1 → x = y := by
  induction l with
  | nil => intro x hx; cases hx
  | cons z l ih =>
    obtain ⟨h1, h2⟩ := List.pairwise_cons.mp h
    intro x hx y hy e
    rcases List.mem_cons.mp hx with a | a
    · rcases List.mem_cons.mp hy with b | b
      · rw [a, b]
      · rw [a] at e
        exact absurd e (h1 y b)
    · rcases List.mem_cons.mp hy with b | b
      · rw [b] at e
        exact absurd e.symm (h1 x a)
      · exact ih h2 x a y b e
section
variable {K : Type} [Fd K]
theorem gsk_mem {ps : Fac K} {k : Nat} {g : Pol K} (h : g ∈ gsk ps k) : (g, k) ∈ ps := by
  obtain ⟨⟨g', k'⟩, h1, rfl⟩ := List.mem_map.mp h
  obtain ⟨h2, h3⟩ := List.mem_filter.mp h1
  have : k' = k := of_decide_eq_true h3
  rw [← this]
  exact h2
theorem gsk_wg {ps : Fac K} (w : WF ps) (k : Nat) : WG (gsk ps k) where
  irr := fun g hg => w.irr _ (gsk_mem hg)
  mo := fun g hg => w.mo _ (gsk_mem hg)
  ne := by
    unfold gsk
    exact List.pairwise_map.mpr (List.Pairwise.filter _ w.ne)
theorem Mf_id_prod : ∀ ps : Fac K, Mf (fun e => e) ps = prodP ((ps.map fun x => List.replicate x.2 x.1).flatten)
  | [] => rfl
  | x :: ps => by
    rw [List.map_cons, List.flatten_cons, Mf, Mf_id_prod ps]
    generalize (ps.map fun x => List.replicate x.2 x.1).flatten = l
    generalize x.2 = n
    induction n with
    | zero => rw [List.replicate_zero, List.nil_append]; grind
    | succ n ih => rw [List.replicate_succ, List.cons_append, prodP, ← ih]; grind
/-- found by the two loops -/
def fnd (cs : List (Pol K) → List (Pol K)) (ps : Fac K) (ks : List Nat) : Fac K := ks.flatMap fun k => (cs (gsk ps k)).map fun g => (g, k)
theorem fnd_perm {cs : List (Pol K) → List (Pol K)} (hc : ∀ gs, (cs gs).Perm gs) {ps : Fac K} (h : ∀ x ∈ ps, 1 ≤ x.2 ∧ x.2 < 4) : (fnd cs ps (kS ps)).Perm ps := by
  have e : ∀ k, (gsk ps k).map (fun g => (g, k)) = ps.filter fun x => decide (x.2 = k) := fun k => by
    unfold gsk
    rw [List.map_map]
    have : ∀ l : Fac K, (∀ x ∈ l, x.2 = k) → l.map ((fun g => (g, k)) ∘ fun x => x.1) = l := fun l => by
      induction l with
      | nil => intro _; rfl
      | cons x l ih =>
        intro h
        rw [List.map_cons, ih fun y hy => h y (List.mem_cons_of_mem _ hy)]
        have := h x (List.mem_cons_self ..)
        show (x.1, k) :: l = x :: l
        rw [← this]
    exact this _ fun x hx => of_decide_eq_true (List.mem_filter.mp hx).2
  have p1 : (fnd cs ps (kS ps)).Perm ((kS ps).flatMap fun k => ps.filter fun x => decide (x.2 = k)) := by
    unfold fnd
    refine flatMap_perm (fun k => ?_) _
    rw [← e]
    exact (hc _).map _
  refine p1.trans ?_
  have ok := kS_ok h
  have q : ∀ {ks : List Nat}, ks.Nodup → (ks.flatMap fun k => ps.filter fun x => decide (x.2 = k)).Perm (ps.filter fun x => decide (x.2 ∈ ks)) := fun {ks} => by
    induction ks with
    | nil =>
      intro _
      rw [List.flatMap_nil]
      have : (ps.filter fun x => decide (x.2 ∈ ([] : List Nat))) = [] := List.filter_eq_nil_iff.mpr fun g _ => by simp
      rw [this]
    | cons k ks ih =>
      intro nd
      obtain ⟨h1, h2⟩ := List.nodup_cons.mp nd
      rw [List.flatMap_cons]
      refine ((ih h2).append_left _).trans ?_
      refine (perm_filter_or (fun x => decide (x.2 = k)) (fun x => decide (x.2 ∈ ks)) ps fun g _ hg => decide_eq_false fun z => h1 (by rw [← of_decide_eq_true hg]; exact z)).trans ?_
      refine List.Perm.of_eq (List.filter_congr fun g _ => ?_)
      by_cases q : g.2 = k
      · simp [q]
      · simp [q]
  refine (q ok.nd).trans (.of_eq ?_)
  exact List.filter_eq_self.mpr fun x hx => decide_eq_true ((ok.iff x.2).mpr ⟨(h x hx).1, x, hx, rfl⟩)
end
theorem srtP_perm {c : FC} (gs : List (Pol (Kq c))) : (srtP gs).Perm gs := List.mergeSort_perm gs _
/-- the factors, in order -/
def srtF {c : FC} (ps : Fac (Kq c)) : Fac (Kq c) := ps.mergeSort (leK fun x => pkey x.1)
inductive R_factors : List D → D → Prop
  | mk (c : FC) (a : Kq c) (ha : a ≠ 0) (ps : Fac (Kq c)) (w : WF ps) (h : ∀ x ∈ ps, 1 ≤ x.2 ∧ x.2 < 4) (hl : (Mf (fun e => e) ps).len ≤ 30) : R_factors [c.P (C a * Mf (fun e => e) ps)] (.tup ((srtF ps).map c.pr))
section
variable {K : Type} [Fd K]
/-- a part's divisors are fewer than the whole -/
theorem gsk_len {ps : Fac K} (w : WF ps) {k : Nat} (hk : 1 ≤ k) : (prodP (gsk ps k)).len ≤ (Mf (fun e => e) ps).len := by
  rw [← Mf_gsk]
  exact Mf_len_le w fun x _ => by
    unfold dA
    by_cases z : x.2 = k
    · rw [if_pos z]; omega
    · rw [if_neg z]; omega
theorem fac_len {ps : Fac K} (w : WF ps) (h : ∀ x ∈ ps, 1 ≤ x.2) : ps.length + 1 ≤ (Mf (fun e => e) ps).len := by
  have e : Mf (fun _ => 1) ps = prodP (ps.map (·.1)) := by
    have : ∀ l : Fac K, Mf (fun _ => 1) l = prodP (l.map (·.1)) := fun l => by
      induction l with
      | nil => rfl
      | cons x l ih =>
        rw [Mf, ih, List.map_cons, prodP]
        grind
    exact this ps
  have wg : WG (ps.map (·.1)) := ⟨fun g hg => by
    obtain ⟨x, hx, rfl⟩ := List.mem_map.mp hg
    exact w.irr x hx, fun g hg => by
    obtain ⟨x, hx, rfl⟩ := List.mem_map.mp hg
    exact w.mo x hx, List.pairwise_map.mpr w.ne⟩
  have h1 := prodP_len_ge wg
  have h2 := Mf_len_le (α := fun e => e) (β := fun _ => 1) w fun x hx => h x hx
  rw [List.length_map] at h1
  rw [e] at h2
  omega
end
section
variable {P : Program} {w : World} {K : PySem.W.Frag} {mg : Str → Option Value} {base : Heap} {L : Lc} {f : Addr} {fd : FuncData}
abbrev N_factors : List Str := ["f", "found", "part", "k", "g"]
theorem sc_factors : FnScope N_factors ["f"] (defScope s_factors) := ⟨rfl, rfl, rfl, by decide +kernel, rfl, by decide +kernel, by decide +kernel⟩
theorem ok_factors (T : Txt K mg L) (CT : CodeT base mg L fd.code ("factors" ++ ".<locals>." ++ "<lambda>")) (C1 : FnC P w K mg base L "squarefree_parts" 11 ["f"] R_squarefree_parts) (C2 : FnC P w K mg base L "divided" 11 ["f"] R_divided) (C3 : MtC P w K mg base L L.CP "key" 1 ["self"] R_P_key)
    (F : FunS K "factors" "factors" s_factors f fd) : FnOk P w K mg base CX0 12 f fd ["f"] (spD L R_factors) := by
  refine fn_evC F CT sc_factors (fun ds r h => by cases h <;> rfl) fun cdv A outer s H E ct hr ds r h => ?_
  cases h with
  | mk c a ha ps wf h hl =>
    have nd := sc_factors.nd
    have hr4 : Room 4 _ := hr.mono (by decide)
    have ok := kS_ok h
    have lps := fac_len wf fun x hx => (h x hx).1
    have pm := fnd_perm (cs := srtP) srtP_perm h
    have lk : (kS ps).length ≤ 3 := by
      unfold kS
      exact List.length_filter_le _ _
    let W : Nat → SlS := fun i => [.val (c.P (C a * Mf (fun e => e) ps)), .own ((fnd srtP ps ((kS ps).take i)).map c.pr), .any, .any, .any]
    have part_le : ∀ i, (fnd srtP ps ((kS ps).take i)).length ≤ ps.length := fun i => by
      rw [← pm.length_eq]
      unfold fnd
      conv => rhs; rw [← List.take_append_drop i (kS ps), List.flatMap_append, List.length_append]
      omega
    refine .ret (evb_cons (evs_setn 1 (evn_lst eva_nil) nd) (evb_cons (evs_forT (xs := kS ps) (en := fun k => c.pr (prodP (gsk ps k), k)) (t := .two 2 3) (W := W) (evi_tup (ev_call C1 hr (eva_cons (ev_var 0) eva_nil) (.mk c a ha ps wf h hl))) (evg_two 2 3 rfl nd) PassesOwn.never rfl fun i k hk => ?_) (evb_one (evs_ret ((ev_tupleL T.tuple (evq_n (evn_sortKey (k := 1) (bs := fnd srtP ps (kS ps)) (dd := c.pr) (kk := fun x => pkey x.1) ct T.sorted (evq_own 1 (hs := ?_)) ⟨⟨rfl, rfl, rfl, by decide +kernel, rfl, by decide +kernel, by decide +kernel⟩, fun _ _ _ _ _ => rfl⟩ hr4 (fun b => by unfold pkey; exact fun z => by cases z) ?_ ?_ rfl ?_ rfl))).is ?_)))))
    · have hkm := List.mem_of_getElem? hk
      obtain ⟨k1, x0, hx0, ek⟩ := (ok.iff k).mp hkm
      have wg := gsk_wg wf k
      have gl := gsk_len wf k1
      have gne : gsk ps k ≠ [] := fun z => by
        have : x0.1 ∈ gsk ps k := List.mem_map.mpr ⟨x0, List.mem_filter.mpr ⟨hx0, decide_eq_true ek⟩, rfl⟩
        rw [z] at this
        cases this
      let V : Nat → SlS := fun j => [.val (c.P (C a * Mf (fun e => e) ps)), .own ((fnd srtP ps ((kS ps).take i) ++ ((srtP (gsk ps k)).take j).map fun g => (g, k)).map c.pr), .val (c.P (prodP (gsk ps k))), .val (.int (k : Nat)), .any]
      have pl := part_le (i + 1)
      have efn : fnd srtP ps ((kS ps).take (i + 1)) = fnd srtP ps ((kS ps).take i) ++ (srtP (gsk ps k)).map fun g => (g, k) := by
        unfold fnd
        rw [take_succ_of hk, List.flatMap_append, List.flatMap_singleton]
      rw [efn, List.length_append, List.length_map] at pl
      refine ⟨_, _, rfl, evb_weak (evb_one (evs_pre (S1 := V 0) ?_ (evs_forT (xs := srtP (gsk ps k)) (en := c.P) (t := .one 4) (W := V) (evi_tup (ev_call C2 hr (eva_cons (ev_var 2) eva_nil) (.mk c _ wg gne (by omega)))) (evg_one 4 nd) PassesOwn.never rfl fun j g hg => ?_))) ?_, .inl rfl⟩
      · show Weak [_, _, _, _, _] [_, Sl.own ((fnd srtP ps ((kS ps).take i) ++ ((srtP (gsk ps k)).take 0).map fun g => (g, k)).map c.pr), _, _, _]
        rw [List.take_zero, List.map_nil, List.append_nil]
        exact .same (.same (.same (.same (.any .nil))))
      · have jl : j < (srtP (gsk ps k)).length := (List.getElem?_eq_some_iff.mp hg).1
        refine ⟨_, _, rfl, evb_weak (evb_one (evs_append 1 (d := c.pr (g, k)) (ev_tup (eva_cons (ev_var 4) (eva_cons (ev_var 3) eva_nil))) rfl ?_)) ?_, .inl rfl⟩
        · rw [List.length_map, List.length_append, List.length_map, List.length_take]
          omega
        · show Weak [_, Sl.own _, _, _, _] [_, Sl.own ((fnd srtP ps ((kS ps).take i) ++ ((srtP (gsk ps k)).take (j + 1)).map fun g => (g, k)).map c.pr), _, _, _]
          rw [take_succ_of hg, List.map_append (l₁ := (srtP (gsk ps k)).take j), ← List.append_assoc, List.map_append (l₂ := [g].map fun g => (g, k))]
          exact .same (.same (.same (.same (.any .nil))))
      · show Weak [_, Sl.own ((fnd srtP ps ((kS ps).take i) ++ ((srtP (gsk ps k)).take (srtP (gsk ps k)).length).map fun g => (g, k)).map c.pr), _, _, _] [_, Sl.own ((fnd srtP ps ((kS ps).take (i + 1))).map c.pr), _, _, _]
        rw [List.take_length, efn]
        exact .same (.same (.any (.any (.any .nil))))
    · show some (Sl.own ((fnd srtP ps ((kS ps).take (kS ps).length)).map c.pr)) = _
      rw [List.take_length]
    · have := pm.length_eq
      omega
    · intro b hb f' c' A' outer' s' H' E' hr'
      refine ev_methP0 T.cls C3 hr' (ev_ix (evq_t (xs := [c.P b.1, .int (b.2 : Nat)]) (ev_var 0)) ev_int (atN (i := 0) rfl)) (.mk c b.1 ?_)
      have hbp := pm.mem_iff.mp hb
      have wg := gsk_wg wf b.2
      have h1 := prodP_len_le wg (List.singleton_sublist.mpr (List.mem_map.mpr ⟨b, List.mem_filter.mpr ⟨hbp, decide_eq_true rfl⟩, rfl⟩))
      have h2 := gsk_len wf (k := b.2) (h b hbp).1
      rw [prodP_one] at h1
      omega
    · intro y hy
      rw [List.mem_singleton.mp hy]
      exact fun z => by cases z
    · congr 2
      unfold srtF
      refine sort_permM (fun x hx y hy e => ?_) pm
      have e1 := pkey_inj e
      have hx' := pm.mem_iff.mp hx
      have hy' := pm.mem_iff.mp hy
      exact pw_eq wf.ne x hx' y hy' e1
end
end FM
set_option autoImplicit false
namespace FM
open PySem PySem.Spec PyProof.Rows L2 LamX Pol
/-! ## defs that raise -/
/-- what the text says of ZeroDivisor -/
structure ZdT (K : PySem.W.Frag) (mg : Str → Option Value) (CZ : Addr) : Prop where
  g : mg "ZeroDivisor" = some (.ref CZ)
  k : PySem.W.keepIn K (.ref CZ) = true
  b : PySem.W.subIn K (.ref CZ) (.type "BaseException") = some true
  t : PySem.W.typeIn K (.ref CZ) = some (.type "type")
  m : PySem.W.exmOne K (.ref CZ) (.ref CZ) = some true
  x : ∃ bmB B newId initId, ExcBaseFacts B newId initId bmB ∧ PySem.W.excIn K CZ bmB newId = true
/-- always an exception of the class CZ -/
def spZ (L : Lc) (CZ : Addr) (R : List D → Prop) : L2.Sp := fun vs H _ E => ∃ G ds, Sub G H ∧ TbG L H G ∧ IsL L G ds vs ∧ R ds ∧ ∀ G' H', Grow L G H G' H' → E (.ref CZ) none H'
structure FnZ (P : Program) (w : World) (K : PySem.W.Frag) (mg : Str → Option Value) (base : Heap) (L : Lc) (CZ : Addr) (x : Str) (k : Nat) (ps : List Str) (R : List D → Prop) : Prop where
  ex : ∃ f fd, mg x = some (.ref f) ∧ PySem.W.keepIn K (.ref f) = true ∧ Binds K fd ps [] ∧ FnOk P w K mg base (L2.CX P w) k f fd ps (spZ L CZ R)
/-- a block that raises, wish W -/
def TZs (L : Lc) (CZ : Addr) (W : WX) (S : SlS) : TS := fun _ σ H => ∃ G, RepV L S σ H G ∧ ∀ G' H' σ', Grow L G H G' H' → W (.ref CZ) none σ' H'
abbrev BodyZ (P : Program) (w : World) (K : PySem.W.Frag) (mg : Str → Option Value) (base : Heap) (N : List Str) (qual : Str) (scope : Scope) (f : Addr) (cdv : Value) (A : Around) (outer : List Env) (s : Shared) (H : Hp) (E : XK) : Cx := cxOf (L2.CX P w) P w K mg base N qual scope f cdv A outer s H E
theorem bodyZ_takes {P : Program} {w : World} {K : PySem.W.Frag} {mg : Str → Option Value} {base : Heap} {N : List Str} {qual : Str} {scope : Scope} {f : Addr} {cdv : Value} {A : Around} {outer : List Env} {s : Shared} {H : Hp} {E : XK} :
    Takes (BodyZ P w K mg base N qual scope f cdv A outer s H E) (fun cls d _ H => E cls d H) := takes_of rfl rfl rfl rfl
theorem bodyZ_passes {P : Program} {w : World} {K : PySem.W.Frag} {mg : Str → Option Value} {base : Heap} {N : List Str} {qual : Str} {scope : Scope} {f : Addr} {cdv : Value} {A : Around} {outer : List Env} {s : Shared} {H : Hp} {E : XK} :
    PassesOwn (model P w) (BodyZ P w K mg base N qual scope f cdv A outer s H E).A (BodyZ P w K mg base N qual scope f cdv A outer s H E).env (BodyZ P w K mg base N qual scope f cdv A outer s H E).xe := passes_of rfl
theorem fnZ_ev {P : Program} {w : World} {K : PySem.W.Frag} {mg : Str → Option Value} {base : Heap} {L : Lc} {CZ : Addr} {x qual : Str} {st : Stmt} {dvs : List V} {kws : List (Str × V)} {f : Addr} {fd : FuncData} {N ps : List Str} {k : Nat} {R : List D → Prop} (F : FunD K x qual (defArgs st) (defBody st) (defScope st) dvs kws f fd) (Sc : FnScope N ps (defScope st))
    (hl : ∀ ds, R ds → ds.length = ps.length)
    (body : ∀ (cdv : Value) (A : Around) (outer : List Env) (s : Shared) (H : Hp) (E : XK), Room k (A.deeper (envOfC qual (defScope st) s.heap.objs.size f cdv)) → ∀ ds, R ds → PSs (BodyZ P w K mg base N qual (defScope st) f cdv A outer s H E) (defBody st) (TZs L CZ (fun cls d _ H => E cls d H) (stS N ds))) :
    FnOk P w K mg base (L2.CX P w) (k + 1) f fd ps (spZ L CZ R) := by
  refine F.ok Sc (fun vs H Q E ⟨G, ds, s, t, i, hR, q⟩ => by rw [← i.length]; exact hl ds hR) fun cdv A outer s H vs Q E hr ⟨G, ds, sb, t, i, hR, q⟩ => ?_
  exact ⟨_, body cdv A outer s H E hr ds hR, G, (rep_start sb t i).r, fun G' H' _ g => q G' H' g⟩
section
variable {L : Lc} {X : Cx} {CZ : Addr} {W : WX} {S S' : SlS}
/-- raise ZeroDivisor('..') -/
theorem evz_raise {m : Str} {j : Nat} {p p2 pos pos2 : Pos} (Z : ZdT X.K X.mg CZ) (hc : X.calm = true) (tk : Takes X W) (hg : Gl X "ZeroDivisor" := by rfl) : PS X (.Raise (some (.Call (.Name "ZeroDivisor" p) [.Constant (.str m) j p2] [] pos2)) none pos) (TZs L CZ W S) := by
  obtain ⟨bmB, B, newId, initId, F, q⟩ := Z.x
  exact PS.imp (ps_raise hc tk (pmk_own F q Z.g Z.k (raises_own Z.b Z.t) hg)) fun D σ H ⟨G, R, k⟩ => k G H σ (.refl R.sub)
theorem evz_cons {st : Stmt} {rest : List Stmt} (hS : ∀ i, ¬ Owns S i) (h : EvS L X st S (.nx S')) (hr : PSs X rest (TZs L CZ W S')) : PSs X (st :: rest) (TZs L CZ W S) :=
  PSs.imp (pss_cons h hr) fun D σ H ⟨G, R, q⟩ => ⟨⟨H, G⟩, G, ⟨R, .refl R.sub, fun i l ho => absurd ho (hS i)⟩, fun σ' H' G' s R' => ⟨G', R'.r, fun G2 H2 σ2 g2 => q G2 H2 σ2 (R'.g.trans g2)⟩⟩
theorem evz_one {st : Stmt} {rest : List Stmt} (h : PS X st (TZs L CZ W S)) : PSs X (st :: rest) (TZs L CZ W S) := PSs.imp (pss_cons h (never_ss rest)) fun D σ H q => q
theorem evz_ifT {c : Expr} {a b : List Stmt} {pos : Pos} (hc : EvT L X c S true) (h : PSs X a (TZs L CZ W S)) : PS X (.If c a b pos) (TZs L CZ W S) :=
  PS.imp (ps_if hc h (never_ss b)) fun D σ H ⟨G, R, q⟩ => ⟨G, R, fun G' H' g => iteT ⟨G', R.grow g, fun G2 H2 σ' g2 => q G2 H2 σ' (g.trans g2)⟩⟩
/-- a call of a def that raises -/
theorem evz_call {x : Str} {k : Nat} {ps : List Str} {R : List D → Prop} {e : Expr} {es : List Expr} {p pos : Pos} {ds : List D} (F : FnZ X.prog X.w X.K X.mg X.base L CZ x k ps R) (tk : Takes X W) (hr : Room k X.A) (ha : EvA L X (e :: es) S ds) (hR : R ds) (hg : Gl X x := by rfl)
    (hdb : (x == ("__debug__" : Str)) = false := by decide) (he : starEach (e :: es) X.env = (false, eval e X.env) :: starEach es X.env := by rfl) (hpl : (backTo pos (starEach es X.env)).any (·.1) = false := by rfl) :
    PE X (.Call (.Name x p) (e :: es) [] pos) (fun σ H _ => ∃ G, RepV L S σ H G ∧ ∀ G' H', Grow L G H G' H' → W (.ref CZ) none σ H') := by
  obtain ⟨f, fd, h1, h2, h3, h4⟩ := F.ex
  exact PE.imp (pe_callS h4 hr hg h1 h2 h3 (fun σ => passAt tk σ) ha hdb he hpl) fun σ H Q ⟨G, Rr, q⟩ => ⟨G, Rr, fun G1 H1 vs g1 i1 => ⟨G1, ds, g1.gh, g1.tg Rr.tabs, i1, hR, fun G2 H2 g2 => q G2 H2 (g1.trans g2)⟩⟩
/-- for .. in a call that raises -/
theorem evz_for {tg e : Expr} {body : List Stmt} {pos : Pos} {t : TG} (hp : PassesOwn (model X.prog X.w) X.A X.env X.xe) (hc : X.calm = true)
    (he : PE X e (fun σ H _ => ∃ G, RepV L S σ H G ∧ ∀ G' H', Grow L G H G' H' → W (.ref CZ) none σ H')) (hg : PG X tg t) (hs : ∀ x, foldedSetIterable e X.env x = pure x := by intro _; rfl) : PS X (.For tg e body [] pos) (TZs L CZ W S) :=
  PS.imp (ps_for hp hc (pi_tup he) hg (any_ss body) hs) fun D σ H ⟨G, R, q⟩ => ⟨G, R, fun G' H' g => q G' H' σ g⟩
end
inductive R_zero : List D → Prop
  | mk (c : FC) : R_zero [c.P (0 : Pol (Kq c))]
inductive R_law_refuses : List D → D → Prop
  | mk (c : FC) : R_law_refuses [.fld c.d] (.bl true)
section
variable {P : Program} {w : World} {K : PySem.W.Frag} {mg : Str → Option Value} {base : Heap} {L : Lc} {CZ : Addr} {f : Addr} {fd : FuncData}
theorem ok_squarefree_parts0 (T : Txt K mg L) (Z : ZdT K mg CZ) (C1 : MtC P w K mg base L L.CP "is_zero" 1 ["self"] R_P_is_zero) (F : FunS K "squarefree_parts" "squarefree_parts" s_squarefree_parts f fd) : FnOk P w K mg base (L2.CX P w) 2 f fd ["f"] (spZ L CZ R_zero) := by
  refine fnZ_ev F sc_squarefree_parts (fun ds h => by cases h; rfl) fun cdv A outer s H E hr ds h => ?_
  cases h with
  | mk c => exact evz_one (evz_ifT ((evt_val (ev_methP0 T.cls C1 hr (ev_var 0) (.mk c 0))).is (decide_eq_true rfl)) (evz_one (evz_raise Z rfl bodyZ_takes)))
theorem ok_factors0 (T : Txt K mg L) (C1 : FnZ P w K mg base L CZ "squarefree_parts" 2 ["f"] R_zero) (F : FunS K "factors" "factors" s_factors f fd) : FnOk P w K mg base (L2.CX P w) 3 f fd ["f"] (spZ L CZ R_zero) := by
  refine fnZ_ev F sc_factors (fun ds h => by cases h; rfl) fun cdv A outer s H E hr ds h => ?_
  have nd := sc_factors.nd
  cases h with
  | mk c => exact evz_cons (stS_noOwn _ _) (evs_setn 1 (evn_lst eva_nil) nd) (evz_one (evz_for bodyZ_passes rfl (evz_call C1 bodyZ_takes hr (eva_cons (ev_var 0) eva_nil) (.mk c)) (evg_two 2 3 rfl nd)))
theorem sc_law_refuses : FnScope ["_law_field_here"] ["_law_field_here"] (defScope s__law_refuses) := ⟨rfl, rfl, rfl, by decide +kernel, rfl, by decide +kernel, by decide +kernel⟩
theorem ok_law_refuses (T : Txt K mg L) (Z : ZdT K mg CZ) (MP : MkC P w K mg base L "Poly" L.CP 3 ["self", "field", "row"] R_Poly) (C1 : FnZ P w K mg base L CZ "factors" 3 ["f"] R_zero) (F : FunS K "_law_refuses" "_law_refuses" s__law_refuses f fd) : FnOk P w K mg base CX0 5 f fd ["_law_field_here"] (spD L R_law_refuses) := by
  refine F.ok sc_law_refuses (fun vs H Q E ⟨G, ds, r, s, t, i, hR, q⟩ => by rw [← i.length]; cases hR; rfl) fun cdv A outer s H vs Q E hr ⟨G, ds, r, sb, t, i, hR, q⟩ => ?_
  cases hR with
  | mk c =>
    have hr3 : Room 3 _ := hr.mono (by decide)
    have mk0 : R_Poly [.fld c.d, .lst []] (c.P (0 : Pol (Kq c))) := R_Poly.mk c true [] (Nat.zero_le _)
    refine ⟨_, pss_one (ps_try_only (X := cxOf CX0 P w K mg base ["_law_field_here"] "_law_refuses" (defScope s__law_refuses) f cdv A outer s H E) (c := .ref CZ) (ts := fun _ _ _ => TOs L (stS ["_law_field_here"] [.fld c.d]) (.ret (.bl true))) rfl rfl ⟨rfl, by decide, .inl Z.g⟩ L2.takes0 (fun W pn xe tk po => pss_cons (ps_expr (evz_call C1 tk hr3 (eva_cons (ev_make MP hr (eva_cons (ev_var 0 (S := stS ["_law_field_here"] [.fld c.d])) (eva_cons ((ev_new (evn_lst eva_nil)).is rfl) eva_nil)) mk0) eva_nil) (.mk c))) (never_ss _)) fun a oe cls d pn hz hd => evb_one (evs_ret ev_bl)), ?_⟩
    exact ⟨G, (rep_start sb t i).r, fun G' H' g => ⟨true, Z.m, fun _ a na => ⟨⟨H, G⟩, G', (rep_start sb t i).grow g, fun G2 H2 v g2 i2 => q G2 H2 v g2 i2⟩, fun z => by cases z⟩⟩
end
end FM
set_option autoImplicit false
namespace FM
open PySem PySem.Spec PyProof.Rows L2 LamX Pol
section
variable {L : Lc} {X : Cx} {l : Addr} {S : SlS} {ys zs ws : List Int}
/-- a == b, a pops -/
theorem evx_eq {a b : Expr} {pos : Pos} {i j : Int} (ha : EvX L X l a S ys (.int i) zs) (hb : EvE L X b S (.int j)) : EvX L X l (.Compare a [.Eq] [b] pos) S ys (.bl (decide (i = j))) zs :=
  PE.imp (pe_cmpR op_eq ha hb (nomark _)) fun σ H Q ⟨B, G, N, q⟩ => ⟨B, G, N, fun G1 H1 v1 s1 N1 i1 => ⟨G1, N1.r.r, fun G2 H2 v2 g2 i2 => by
    rw [is_int i1, is_int i2]
    exact ⟨rfl, by rw [dec_int]; exact q G2 H2 _ (fun a u e => g2.gg a u (s1 a u e)) (N1.grow g2) (.bl _)⟩⟩⟩
/-- int(e), e a truth value -/
theorem evx_int {e : Expr} {p pos : Pos} {k : Bool} (hm : X.mg "int" = none) (h : EvX L X l e S ys (.bl k) zs) (hg : Gl X "int" := by rfl) (he : starEach (e :: []) X.env = (false, eval e X.env) :: starEach [] X.env := by rfl) : EvX L X l (.Call (.Name "int" p) [e] [] pos) S ys (.int (if k then 1 else 0)) zs :=
  PE.imp (pe_callTy call_int1 hg hm PyProof.Rows.boot_int (pa_cons h pa_nil he) (by decide) (by decide) he (by rfl)) fun σ H Q ⟨B, G, N, q⟩ => ⟨B, G, N, fun G1 H1 v s1 N1 i1 => .inr ⟨k, by rw [is_bl i1], q G1 H1 _ s1 N1 (.int _)⟩⟩
theorem evx_add {a b : Expr} {pos : Pos} {i j : Int} (ha : EvX L X l a S ys (.int i) zs) (hb : EvX L X l b S zs (.int j) ws) : EvX L X l (.BinOp a .Add b pos) S ys (.int (i + j)) ws :=
  evx_op op_add ha hb fun G H v1 v2 Q s h1 h2 q => ⟨i, j, is_int h1, is_int h2, q G H _ (.refl s) (.int _)⟩
end
theorem EvX.is {L : Lc} {X : Cx} {l : Addr} {S : SlS} {ys zs : List Int} {e : Expr} {d c : D} (h : EvX L X l e S ys d zs) (q : d = c) : EvX L X l e S ys c zs := q ▸ h
theorem first_of {p : Nat → Bool} : ∀ n, (∃ t, t < n ∧ p t = true ∧ ∀ i, i < t → p i = false) ∨ ∀ i, i < n → p i = false
  | 0 => .inr fun i h => absurd h (Nat.not_lt_zero i)
  | n + 1 => by
    rcases first_of (p := p) n with ⟨t, h1, h2, h3⟩ | h
    · exact .inl ⟨t, by omega, h2, h3⟩
    · cases e : p n with
      | true => exact .inl ⟨n, by omega, e, h⟩
      | false =>
        refine .inr fun i hi => ?_
        by_cases q : i = n
        · rw [q]; exact e
        · exact h i (by omega)
def lgd (c : FC) (d v t : Nat) : Bool := decide (d = 1) || lirr c (lmon c d ((v + t) % c.T.q ^ d))
def IrrRow (c : FC) (d v : Nat) (row : List (Kq c)) : Prop :=
  (∃ t, t < c.T.q ^ d ∧ row = lmon c d ((v + t) % c.T.q ^ d) ∧ lgd c d v t = true ∧ ∀ i, i < t → lgd c d v i = false) ∨ ((∀ i, i < c.T.q ^ d → lgd c d v i = false) ∧ row = lmon c 1 0)
theorem irrRow_ex (c : FC) (d v : Nat) : ∃ row, IrrRow c d v row := by
  rcases first_of (p := lgd c d v) (c.T.q ^ d) with ⟨t, h1, h2, h3⟩ | h
  · exact ⟨_, .inl ⟨t, h1, rfl, h2, h3⟩⟩
  · exact ⟨_, .inr ⟨h, rfl⟩⟩
def ldeg (xs : List Int) : Nat := if nxt xs 3 = 0 then 2 else 1
theorem ldeg_le (xs : List Int) : 1 ≤ ldeg xs ∧ ldeg xs ≤ 2 := by
  unfold ldeg
  split <;> decide
inductive R_law_irreducible (l : Addr) : List Int → List D → List Int → D → Prop
  | mk (xs : List Int) (c : FC) (v : Nat) (hv : nxt xs.tail ((c.T.q ^ ldeg xs : Nat) : Int) = (v : Nat)) (row : List (Kq c)) (hr : IrrRow c (ldeg xs) v row) : R_law_irreducible l xs [.fld c.d, .adr l] xs.tail.tail (c.eL row)
section
variable {P : Program} {w : World} {K : PySem.W.Frag} {mg : Str → Option Value} {base : Heap} {L : Lc} {f : Addr} {fd : FuncData}
theorem lird (c : FC) (d v t : Nat) (hd : 1 ≤ d ∧ d ≤ 2) : R_law_is_irreducible [.fld c.d, c.eL (lmon c d ((v + t) % c.T.q ^ d))] (.bl (lgd c d v t)) := by
  obtain ⟨l1, _⟩ := lmon_ok c d ((v + t) % c.T.q ^ d)
  unfold lgd
  by_cases h : d = 1
  · rw [decide_eq_true h, Bool.true_or]
    exact .mk1 c _ (by rw [l1, h])
  · rw [decide_eq_false h, Bool.false_or]
    exact .mk2 c _ (by rw [l1]; omega)
abbrev N_law_irreducible : List Str := ["_law_field_here", "_law_numbers_here", "_law_degree", "_law_number_here", "_law_turn", "_law_row"]
theorem sc_law_irreducible : FnScope N_law_irreducible ["_law_field_here", "_law_numbers_here"] (defScope s__law_irreducible) := ⟨rfl, rfl, rfl, by decide +kernel, rfl, by decide +kernel, by decide +kernel⟩
theorem ok_law_irreducible (T : Txt K mg L) (C1 : FnN P w K mg base L "_law_next" 1 ["_law_numbers_here", "_law_many"] R_law_next) (C2 : FnC P w K mg base L "_law_count" 1 ["_law_field_here", "_law_degree"] R_law_count) (C3 : FnC P w K mg base L "_law_monic" 3 ["_law_field_here", "_law_degree", "_law_number_here"] R_law_monic) (C4 : FnC P w K mg base L "_law_is_irreducible" 5 ["_law_field_here", "_law_f"] R_law_is_irreducible)
    (F : FunS K "_law_irreducible" "_law_irreducible" s__law_irreducible f fd) : FnOk P w K mg base CX0 6 f fd ["_law_field_here", "_law_numbers_here"] (spN L R_law_irreducible) := by
  refine fnN_ev F sc_law_irreducible (fun l xs ds ys r h => by cases h; rfl) fun cdv A outer s H E hr l xs ds ys r h => ?_
  cases h with
  | mk c v hv row hrow =>
    have nd := sc_law_irreducible.nd
    have hr1 : Room 1 _ := hr.mono (by decide)
    have hr3 : Room 3 _ := hr.mono (by decide)
    have hd := ldeg_le xs
    have q2 := c.q2
    have q9 := c.g0.2.2.2.2.1
    have n1 := R_law_next.mk (l := l) xs 3 (by decide)
    have qd : 0 < c.T.q ^ ldeg xs := Nat.pow_pos (by omega)
    have n2 := R_law_next.mk (l := l) xs.tail ((c.T.q ^ ldeg xs : Nat) : Int) (by omega)
    rw [hv] at n2
    have qle : c.T.q ^ ldeg xs ≤ 100000 := by
      rcases (by omega : ldeg xs = 1 ∨ ldeg xs = 2) with e | e <;> rw [e]
      · rw [Nat.pow_one]; omega
      · rw [Nat.pow_two]
        have := Nat.mul_le_mul (show c.T.q ≤ 100 by omega) (show c.T.q ≤ 100 by omega)
        omega
    let W : Nat → SlS := fun t => [.val (.fld c.d), .val (.adr l), .val (.int (ldeg xs : Nat)), .val (.int (v : Nat)), .any, .any]
    have cnt : R_law_count [.fld c.d, .int (ldeg xs : Nat)] (.int ((c.T.q ^ ldeg xs : Nat) : Int)) := .mk c _ (by omega)
    refine evbn_cons (evsn_set 2 (d := .int (ldeg xs : Nat)) ((evx_add (evx_pure ev_int) (evx_int T.int (evx_eq (evx_callN C1 hr1 (evxa_cons (evx_pure (ev_var 1)) (evxa_cons (evx_pure ev_int) evxa_nil)) n1) ev_int))).is ?_) nd)
      (evbn_cons (evsn_set 3 (evx_callN C1 hr1 (evxa_cons (evx_pure (ev_var 1)) (evxa_cons (evx_pure (ev_call C2 hr1 (eva_cons (ev_var 0) (eva_cons (ev_var 2) eva_nil)) cnt)) evxa_nil)) n2) nd) ?_)
    · unfold ldeg
      by_cases z : nxt xs 3 = 0
      · rw [if_pos z, decide_eq_true z]; rfl
      · rw [if_neg z, decide_eq_false z]; rfl
    · rcases hrow with ⟨t, ht, rfl, h1, h2⟩ | ⟨h1, rfl⟩
      · refine evbn_ret (evsn_pureR (evs_forR (ds := irng 0 1 (c.T.q ^ ldeg xs)) (dn := .int (t : Nat)) (t := .one 4) (W := W) t ?_ ((evi_range1 T.range (ev_call C2 hr1 (eva_cons (ev_var 0) (eva_cons (ev_var 2) eva_nil)) cnt) (by omega)).is (by rw [Int.toNat_natCast])) (evg_one 4 nd) PassesOwn.never rfl (fun i d hi hd' => ?_) ⟨_, rfl, ?_⟩))
        · rw [irng_map, List.getElem?_map, List.getElem?_range ht]
          show some (D.int _) = _
          congr 2
          omega
        · obtain ⟨_, rfl⟩ := irng_get hd'
          rw [show (0 : Int) + (i : Int) * 1 = (i : Int) by omega]
          exact ⟨_, _, rfl, evb_weak (evb_cons (evs_set 5 (ev_call C3 hr3 (eva_cons (ev_var 0) (eva_cons (ev_var 2) (eva_cons ((ev_mod (ev_add (ev_var 3) (ev_var 4)) (ev_call C2 hr1 (eva_cons (ev_var 0) (eva_cons (ev_var 2) eva_nil)) (.mk c _ (by omega))) (by omega)).is (c := .int (((v + i) % c.T.q ^ ldeg xs : Nat) : Int)) (by rw [Int.natCast_emod, Int.natCast_add])) eva_nil))) (.mk c _ _ (by omega))) nd) (evb_one (evs_ifF (evt_val ((ev_call C4 hr (eva_cons (ev_var 0) (eva_cons (ev_var 5) eva_nil)) (lird c _ v i hd)).is (by rw [h2 i hi]))) evb_nil))) (.same (.same (.same (.same (.any (.any .nil)))))), .inl rfl⟩
        · exact evb_cons (evs_set 5 (ev_call C3 hr3 (eva_cons (ev_var 0) (eva_cons (ev_var 2) (eva_cons ((ev_mod (ev_add (ev_var 3) (ev_var 4)) (ev_call C2 hr1 (eva_cons (ev_var 0) (eva_cons (ev_var 2) eva_nil)) (.mk c _ (by omega))) (by omega)).is (c := .int (((v + t) % c.T.q ^ ldeg xs : Nat) : Int)) (by rw [Int.natCast_emod, Int.natCast_add])) eva_nil))) (.mk c _ _ (by omega))) nd) (evb_one (evs_ifT (evt_val ((ev_call C4 hr (eva_cons (ev_var 0) (eva_cons (ev_var 5) eva_nil)) (lird c _ v t hd)).is (by rw [h1]))) (evb_ret (evs_ret (ev_var 5)))))
      · refine evbn_cons (evsn_pure (evs_forN (lo := 0) (c := 1) (n := c.T.q ^ ldeg xs) (t := .one 4) (W := W) ((evi_range1 T.range (ev_call C2 hr1 (eva_cons (ev_var 0) (eva_cons (ev_var 2) eva_nil)) cnt) (by omega)).is (by rw [Int.toNat_natCast])) (evg_one 4 nd) PassesOwn.never rfl fun i hi => ?_)) (evbn_one (evsn_ret (evx_pure (ev_call C3 hr3 (eva_cons (ev_var 0) (eva_cons ev_int (eva_cons ev_int eva_nil))) (.mk c 1 0 (by decide))))))
        rw [show (0 : Int) + (i : Int) * 1 = (i : Int) by omega]
        exact ⟨_, _, rfl, evb_weak (evb_cons (evs_set 5 (ev_call C3 hr3 (eva_cons (ev_var 0) (eva_cons (ev_var 2) (eva_cons ((ev_mod (ev_add (ev_var 3) (ev_var 4)) (ev_call C2 hr1 (eva_cons (ev_var 0) (eva_cons (ev_var 2) eva_nil)) (.mk c _ (by omega))) (by omega)).is (c := .int (((v + i) % c.T.q ^ ldeg xs : Nat) : Int)) (by rw [Int.natCast_emod, Int.natCast_add])) eva_nil))) (.mk c _ _ (by omega))) nd) (evb_one (evs_ifF (evt_val ((ev_call C4 hr (eva_cons (ev_var 0) (eva_cons (ev_var 5) eva_nil)) (lird c _ v i hd)).is (by rw [h1 i hi]))) evb_nil))) (.same (.same (.same (.same (.any (.any .nil)))))), .inl rfl⟩
end
end FM
set_option autoImplicit false
namespace FM
open PySem PySem.Spec PyProof.Rows L2 LamX Pol
/-! ## == of rows of members -/
theorem pdL_map {α : Type} (f : α → D) : ∀ l : List α, pdL (l.map f) = l.map fun x => pd (f x)
  | [] => by simp [pdL]
  | x :: l => by simp only [List.map_cons, pdL, pdL_map f l]
theorem pdOkL_map {α : Type} {f : α → D} (h : ∀ x, pdOk (f x) = true) : ∀ l : List α, pdOkL (l.map f) = true
  | [] => by simp [pdOkL]
  | x :: l => by simp only [List.map_cons, pdOkL, h x, pdOkL_map h l]; rfl
theorem depthAll_map {α : Type} {f : α → PyData} {n : Nat} (h : ∀ x, (f x).depth ≤ n) : ∀ l : List α, PyData.depthAll (l.map f) ≤ n
  | [] => by simp [PyData.depthAll]
  | x :: l => by
    simp only [List.map_cons, PyData.depthAll]
    have := h x
    have := depthAll_map h l
    omega
theorem eqvAll_map {α : Type} [DecidableEq α] {f : α → PyData} (h : ∀ x y, PyData.eqv (f x) (f y) = decide (x = y)) : ∀ l m : List α, PyData.eqvAll (l.map f) (m.map f) = decide (l = m)
  | [], [] => by simp [PyData.eqvAll]
  | [], y :: ys => by simp [PyData.eqvAll]
  | x :: xs, [] => by simp [PyData.eqvAll]
  | x :: xs, y :: ys => by
    simp only [List.map_cons, PyData.eqvAll, h, eqvAll_map h xs ys]
    by_cases h : x = y
    · subst h
      by_cases h2 : xs = ys <;> simp [h2]
    · simp [h]
theorem tI_depth (xs : List Int) : (pd (tI xs)).depth ≤ 1 := by
  unfold tI
  simp only [pd, pdL_ints, PyData.depth, depth_ints]
  decide
section
variable {c : FC}
theorem eqv_eK (a b : Kq c) : PyData.eqv (pd (c.eK a)) (pd (c.eK b)) = decide (a = b) := by
  show PyData.eqv (pd (tI (c.e a))) (pd (tI (c.e b))) = _
  rw [eqv_tI]
  by_cases h : a = b
  · rw [decide_eq_true h, decide_eq_true (congrArg _ h)]
  · rw [decide_eq_false h, decide_eq_false fun z => h (c.e_inj z)]
theorem eqv_eL (a b : List (Kq c)) : PyData.eqv (pd (c.eL a)) (pd (c.eL b)) = decide (a = b) := by
  show PyData.eqv (pd (.lst (a.map c.eK))) (pd (.lst (b.map c.eK))) = _
  simp only [pd, PyData.eqv, pdL_map]
  exact eqvAll_map eqv_eK a b
theorem ok_eL (a : List (Kq c)) : pdOk (c.eL a) = true := by
  show pdOk (.lst (a.map c.eK)) = true
  simp only [pdOk]
  exact pdOkL_map (fun x => ok_tI _) a
theorem depth_eL (a : List (Kq c)) : (pd (c.eL a)).depth ≤ 2 := by
  show (pd (.lst (a.map c.eK))).depth ≤ 2
  simp only [pd, pdL_map, PyData.depth]
  have := depthAll_map (f := fun x => pd (c.eK x)) (n := 1) (fun x => tI_depth _) a
  omega
end
section
variable {L : Lc} {X : Cx} {S : SlS} {a b e : Expr} {pos : Pos}
/-- row not in rows -/
theorem evt_notinL {c : FC} {r : List (Kq c)} {rs : List (List (Kq c))} (hu : X.A.units + 65 < cLine) (ha : EvE L X a S (c.eL r)) (hb : EvE L X b S (.lst (rs.map c.eL))) (hm : behindInMarks .NotIn b = false := by rfl) : EvT L X (.Compare a [.NotIn] [b] pos) S (!decide (r ∈ rs)) :=
  evt_cmp (op_notInD hu) ha hb hm fun G H v1 v2 Q s i1 i2 q => by
    have e1 : pd (.lst (rs.map c.eL)) = .list (rs.map fun x => pd (c.eL x)) := by simp only [pd, pdL_map]
    have o2 : pdOk (.lst (rs.map c.eL)) = true := by
      simp only [pdOk]
      exact pdOkL_map (fun x => ok_eL x) rs
    have d2 := is_dp (K := X.K) s i2 o2
    rw [e1] at d2
    have q2 := depthAll_map (f := fun x => pd (c.eL x)) (n := 2) (fun x => depth_eL _) rs
    have q3 := depth_eL r
    refine ⟨pd (c.eL r), _, is_dp s i1 (ok_eL r), d2, pd_shaped (by omega), ?_, ?_⟩
    · rw [← e1]
      refine pd_shaped ?_
      rw [e1]
      simp only [PyData.depth]
      omega
    · have e3 : ((rs.map fun x => pd (c.eL x)).any fun z => PyData.eqv z (pd (c.eL r))) = decide (r ∈ rs) := by
        rw [List.any_map]
        simp only [Function.comp_def, eqv_eL]
        by_cases z : r ∈ rs
        · rw [decide_eq_true z, List.any_eq_true]
          exact ⟨r, z, decide_eq_true rfl⟩
        · rw [decide_eq_false z, List.any_eq_false]
          intro x hx
          rw [decide_eq_true_eq]
          rintro rfl
          exact z hx
      rw [e3]
      exact q G H (.refl s)
/-- an own list is told for a test -/
theorem evt_frz (i : Nat) {xs : List D} {k : Bool} (h : EvT L X e (S.set i (.val (.lst xs))) k) (hs : S[i]? = some (.own xs) := by rfl) : EvT L X e S k :=
  PT.imp h fun σ H Q ⟨G, R, q⟩ => by
    obtain ⟨l, vs, h1, h2, h3, h4⟩ := R.own i xs hs
    have R0 : Rep L ⟨baseH S σ H, G⟩ S σ H G := ⟨R, ⟨fun _ _ e => e, fun a o e _ => (baseH_get e).1, R.sub, fun a h _ => h, fun _ => R.tabs.t, fun n => n, fun a ps e => ⟨ps, (baseH_get e).1⟩⟩, fun i l ho e => baseH_own ho e⟩
    refine ⟨_, (R0.frz hs h1 h2 h3 h4).r, fun G' H' g => q (dropH G' l) H' ⟨fun a o e => ?_, g.hh, fun a o e => ?_, fun a n1 n2 => ?_, g.tb, fun n a ps e => ?_, g.tt⟩⟩
    · rw [dropH_ne (ne_of_none e h3)]
      exact g.gg a o (upd_sub h3 a o e)
    · by_cases z : a = l
      · rw [z, dropH_same] at e
        cases e
      · rw [dropH_ne z] at e
        exact g.gh a o e
    · by_cases z : a = l
      · rw [z, dropH_same]
      · rw [dropH_ne z]
        exact g.fr a (by rw [upd_ne z]; exact n1) n2
    · by_cases z : a = l
      · rw [z, dropH_same] at e
        cases e
      · rw [dropH_ne z] at e
        exact g.nt (n.upd (fun ps z => by cases z)) a ps e
end
/-! ## for over range(e), e and the body pop -/
def TIn (L : Lc) (l : Addr) (S : SlS) (ys : List Int) (ds : List D) (zs : List Int) : TI := fun σ H R => ∃ B G, NR L B S l ys σ H G ∧ ∀ G' H' J, Sub G G' → NR L B S l zs σ H' G' → ItOk L J G' ds → R J H'
def EvIX (L : Lc) (X : Cx) (l : Addr) (tg iter : Expr) (S : SlS) (ys : List Int) (ds : List D) (zs : List Int) : Prop := PI X tg iter (TIn L l S ys ds zs)
section
variable {L : Lc} {X : Cx} {l : Addr} {tg iter a : Expr} {body : List Stmt} {p pos : Pos}
theorem evix_range1 {S : SlS} {ys zs : List Int} {j : Int} (hm : X.mg "range" = none) (h : EvX L X l a S ys (.int j) zs) (h1 : -100000 ≤ j ∧ j ≤ 100000) (hg : Gl X "range" := by rfl) (hs : starEach [a] X.env = [(false, eval a X.env)] := by rfl) : EvIX L X l tg (.Call (.Name "range" p) [a] [] pos) S ys (irng 0 1 j.toNat) zs :=
  PI.imp (pi_range1 hg hm (evxa_cons h evxa_nil hs) hs) fun σ H R ⟨B, G, N, q⟩ => ⟨B, G, N, fun G1 H1 vs s1 N1 i1 => by
    cases i1 with
    | cons h r =>
      cases r
      exact ⟨j, by rw [is_int h], by omega, by omega, q G1 H1 _ s1 N1 itok_r⟩⟩
theorem evsn_forX {ds : List D} {t : Tg} {ys : List Int} (W : Nat → SlS) (Y : Nat → List Int) (hi : EvIX L X l tg iter (W 0) ys ds (Y 0)) (hg : EvG X tg t) (hp : PassesOwn (model X.prog X.w) X.A X.env X.xe) (hc : X.calm = true)
    (hb : ∀ i d, ds[i]? = some d → ∃ S1, setT t d (W i) = some S1 ∧ EvBN L X l body S1 (Y i) (.nx (W (i + 1)) (Y (i + 1))))
    (hs : ∀ x, foldedSetIterable iter X.env x = pure x := by intro _; rfl) : EvSN L X l (.For tg iter body [] pos) (W 0) ys (.nx (W ds.length) (Y ds.length)) :=
  PS.imp (ps_for hp hc hi hg (any_ss body) hs) fun D σ H ⟨B, G, N, q⟩ => by
    refine ⟨B, G, N, fun G1 H1 J s0 N1 ok => ?_⟩
    refine ⟨fun i m σ' H' => m = ds.length - i ∧ i ≤ ds.length ∧ ∃ G', Sub G1 G' ∧ NR L B (W i) l (Y i) σ' H' G', ⟨ds.length, by simp, Nat.zero_le _, G1, fun _ _ e => e, N1⟩, ?_⟩
    rintro i m σ' H' ⟨rfl, hle, G', s1, N'⟩
    obtain ⟨o1, o2⟩ := ok i G' H' s1 N'.r.r.sub
    by_cases hlt : i < ds.length
    · refine .inr ?_
      obtain ⟨go, y⟩ := o1 ds[i] (List.getElem?_eq_getElem hlt)
      refine ⟨go, fun σ2 H2 => ∃ G2, Sub G1 G2 ∧ NR L B (W (i + 1)) l (Y (i + 1)) σ2 H2 G2, fun σ2 H2 ⟨G2, s2, R2⟩ => ⟨ds.length - (i + 1), by omega, rfl, hlt, G2, s2, R2⟩, fun x H'' hx => ?_⟩
      obtain ⟨G'', g2, ix⟩ := y x H'' hx
      obtain ⟨S1, e1, hB⟩ := hb i ds[i] (List.getElem?_eq_getElem hlt)
      have N2 := N'.grow g2
      refine tgG_run N2.r.fine ix e1 fun σ3 R3 => ⟨_, hB, B, G'', N2.after R3, ?_⟩
      exact fun σ4 H4 G4 s4 R4 => ⟨G4, fun a u e => s4 a u (g2.gg a u (s1 a u e)), R4⟩
    · have e : i = ds.length := by omega
      subst e
      exact .inl ⟨o2 (Nat.le_refl _), q σ' H' G' (fun a u e => s1 a u (s0 a u e)) N'⟩
theorem evbn_weak {sts : List Stmt} {S S1 S2 : SlS} {ys zs : List Int} (h : EvBN L X l sts S ys (.nx S1 zs)) (w : Weak S1 S2) : EvBN L X l sts S ys (.nx S2 zs) :=
  PSs.imp h fun D σ H ⟨B, G, N, q⟩ => ⟨B, G, N, fun σ' H' G' s N' => q σ' H' G' s ⟨N'.r.weak w, N'.b, N'.h, N'.g, fun i ho e => by
    obtain ⟨s0, e0, h0⟩ := ho
    rcases w.get e0 with rfl | e1
    · rcases h0 with ⟨xs, z⟩ | ⟨C, fs, z⟩ <;> cases z
    · exact N'.no i ⟨s0, e1, h0⟩ e⟩⟩
theorem evsn_frzR (i : Nat) {st : Stmt} {S : SlS} {ys zs : List Int} {xs : List D} {d : D} (h : EvS L X st (S.set i (.val (.lst xs))) (.ret d)) (hs : S[i]? = some (.own xs) := by rfl) : EvSN L X l st S ys (.ret d ys) := evsn_pureR (evs_frz i hs h)
end
end FM
set_option autoImplicit false
namespace FM
open PySem PySem.Spec PyProof.Rows L2 LamX Pol
theorem Room_u65 {k : Nat} {A : Around} (r : Room k A) : A.units + 65 < cLine := by have := r.un; omega
theorem nxt_nn (xs : List Int) {m : Int} (h : 0 < m) : 0 ≤ nxt xs m ∧ nxt xs m < m := by
  cases xs with
  | nil => exact ⟨Int.le_refl 0, h⟩
  | cons x xs => exact ⟨Int.emod_nonneg _ (by omega), Int.emod_lt_of_pos _ h⟩
noncomputable def irow (c : FC) (xs : List Int) : List (Kq c) := Classical.choose (irrRow_ex c (ldeg xs) (nxt xs.tail ((c.T.q ^ ldeg xs : Nat) : Int)).toNat)
theorem irow_ok (c : FC) (xs : List Int) : IrrRow c (ldeg xs) (nxt xs.tail ((c.T.q ^ ldeg xs : Nat) : Int)).toNat (irow c xs) := Classical.choose_spec (irrRow_ex c (ldeg xs) (nxt xs.tail ((c.T.q ^ ldeg xs : Nat) : Int)).toNat)
theorem irow_R (l : Addr) (xs : List Int) (c : FC) : R_law_irreducible l xs [.fld c.d, .adr l] xs.tail.tail (c.eL (irow c xs)) := by
  have qd : 0 < c.T.q ^ ldeg xs := Nat.pow_pos (by have := c.q2; omega)
  have := (nxt_nn xs.tail (m := ((c.T.q ^ ldeg xs : Nat) : Int)) (by omega)).1
  exact .mk xs c _ (by omega) _ (irow_ok c xs)
theorem irow_len (c : FC) (xs : List Int) : 2 ≤ (irow c xs).length ∧ (irow c xs).length ≤ 3 := by
  have h := ldeg_le xs
  rcases irow_ok c xs with ⟨t, _, e, _⟩ | ⟨_, e⟩ <;> rw [e, (lmon_ok c _ _).1] <;> omega
def dk (xs : List Int) : Nat := 1 + (nxt xs.tail.tail 3).toNat
theorem dk_le (xs : List Int) : 1 ≤ dk xs ∧ dk xs ≤ 3 := by
  have := nxt_nn xs.tail.tail (m := 3) (by decide)
  unfold dk
  omega
noncomputable def dtake (c : FC) (xs : List Int) (s : List (List (Kq c) × Nat) × Nat) : Bool := !decide (irow c xs ∈ s.1.map (·.1)) && decide (s.2 + dk xs * ((irow c xs).length - 1) ≤ 6)
noncomputable def dstep (c : FC) (xs : List Int) (s : List (List (Kq c) × Nat) × Nat) : List (List (Kq c) × Nat) × Nat :=
  if dtake c xs s = true then (s.1 ++ [(irow c xs, dk xs)], s.2 + dk xs * ((irow c xs).length - 1)) else s
def dY (xs : List Int) : Nat → List Int
  | 0 => xs
  | i + 1 => (dY xs i).tail.tail.tail
noncomputable def dSt (c : FC) (xs : List Int) : Nat → List (List (Kq c) × Nat) × Nat
  | 0 => ([], 0)
  | i + 1 => dstep c (dY xs i) (dSt c xs i)
theorem dSt_deg (c : FC) (xs : List Int) : ∀ i, (dSt c xs i).2 ≤ 6 ∧ (dSt c xs i).1.length ≤ i
  | 0 => ⟨Nat.zero_le _, Nat.le_refl _⟩
  | i + 1 => by
    obtain ⟨h1, h2⟩ := dSt_deg c xs i
    show (dstep c (dY xs i) (dSt c xs i)).2 ≤ 6 ∧ (dstep c (dY xs i) (dSt c xs i)).1.length ≤ i + 1
    unfold dstep
    by_cases h : dtake c (dY xs i) (dSt c xs i) = true
    · rw [if_pos h]
      unfold dtake at h
      rw [Bool.and_eq_true] at h
      have := of_decide_eq_true h.2
      refine ⟨this, ?_⟩
      rw [List.length_append]
      show _ + 1 ≤ _
      omega
    · rw [if_neg h]
      exact ⟨h1, by omega⟩
inductive R_law_drawn (l : Addr) : List Int → List D → List Int → D → Prop
  | mk (xs : List Int) (c : FC) (n : Nat) (hn : 1 + nxt xs 3 = (n : Nat)) : R_law_drawn l xs [.fld c.d, .adr l, .int 6] (dY xs.tail n) (.lst ((dSt c xs.tail n).1.map c.lpr))
section
variable {P : Program} {w : World} {K : PySem.W.Frag} {mg : Str → Option Value} {base : Heap} {L : Lc} {f : Addr} {fd : FuncData}
abbrev N_law_drawn : List Str := ["_law_field_here", "_law_numbers_here", "_law_most", "_law_found", "_law_degree", "_law_turn", "_law_row", "_law_k", "_law_pair"]
theorem sc_law_drawn : FnScope N_law_drawn ["_law_field_here", "_law_numbers_here", "_law_most"] (defScope s__law_drawn) := ⟨rfl, rfl, rfl, by decide +kernel, rfl, by decide +kernel, by decide +kernel⟩
theorem ok_law_drawn (T : Txt K mg L) (C1 : FnN P w K mg base L "_law_next" 1 ["_law_numbers_here", "_law_many"] R_law_next) (C2 : FnN P w K mg base L "_law_irreducible" 6 ["_law_field_here", "_law_numbers_here"] R_law_irreducible)
    (F : FunS K "_law_drawn" "_law_drawn" s__law_drawn f fd) : FnOk P w K mg base CX0 7 f fd ["_law_field_here", "_law_numbers_here", "_law_most"] (spN L R_law_drawn) := by
  refine fnN_ev F sc_law_drawn (fun l xs ds ys r h => by cases h; rfl) fun cdv A outer s H E hr l xs ds ys r h => ?_
  cases h with
  | mk c n hn =>
    have nd := sc_law_drawn.nd
    have hr1 : Room 1 _ := hr.mono (by decide)
    have hu := hr.un
    have n3 := nxt_nn xs (m := 3) (by decide)
    let W : Nat → SlS := fun i => [.val (.fld c.d), .val (.adr l), .val (.int 6), .own ((dSt c xs.tail i).1.map c.lpr), .val (.int ((dSt c xs.tail i).2 : Nat)), .any, .any, .any, .any]
    have lr : (irng 0 1 (1 + nxt xs 3).toNat).length = n := by rw [irng_len, hn, Int.toNat_natCast]
    refine evbn_cons (evsn_pure (evs_setn 3 (evn_lst eva_nil) nd)) (evbn_cons (evsn_pure (evs_set 4 ev_int nd)) (evbn_cons (S' := W n) (zs := dY xs.tail n) ?_ (evbn_one (evsn_pureR (evs_frz 3 rfl (evs_ret (ev_var 3)))))))
    rw [show NOut.nx (W n) (dY xs.tail n) = .nx (W (irng 0 1 (1 + nxt xs 3).toNat).length) (dY xs.tail (irng 0 1 (1 + nxt xs 3).toNat).length) by rw [lr]]
    refine evsn_forX (ds := irng 0 1 (1 + nxt xs 3).toNat) (t := .one 5) (ys := xs) W (dY xs.tail) (evix_range1 T.range (evx_add (evx_pure ev_int) (evx_callN C1 hr1 (evxa_cons (evx_pure (ev_var 1)) (evxa_cons (evx_pure ev_int) evxa_nil)) (.mk xs 3 (by decide)))) (by omega)) (evg_one 5 nd) PassesOwn.never rfl fun i d hd => ?_
    · obtain ⟨dg1, dg2⟩ := dSt_deg c xs.tail i
      obtain ⟨hi, rfl⟩ := irng_get hd
      obtain ⟨rl1, rl2⟩ := irow_len c (dY xs.tail i)
      obtain ⟨k1, k2⟩ := dk_le (dY xs.tail i)
      have dl : ((irow c (dY xs.tail i)).map c.eK).length = (irow c (dY xs.tail i)).length := List.length_map ..
      have em : (dk (dY xs.tail i) : Int) * (((irow c (dY xs.tail i)).length : Int) - 1) = ((dk (dY xs.tail i) * ((irow c (dY xs.tail i)).length - 1) : Nat) : Int) := by
        rw [Int.natCast_mul, Int.natCast_sub (by omega)]
        rfl
      refine ⟨_, rfl, evbn_weak (evbn_cons (evsn_set 6 (evx_callN C2 hr (evxa_cons (evx_pure (ev_var 0)) (evxa_cons (evx_pure (ev_var 1)) evxa_nil)) (irow_R l _ c)) nd) (evbn_cons (evsn_set 7 (d := .int (dk (dY xs.tail i) : Nat)) ((evx_add (evx_pure ev_int) (evx_callN C1 hr1 (evxa_cons (evx_pure (ev_var 1)) (evxa_cons (evx_pure ev_int) evxa_nil)) (.mk _ 3 (by decide)))).is ?_) nd)
        (evbn_one (evsn_pure (evs_if (k := dtake c (dY xs.tail i) (dSt c xs.tail i)) (o := .nx ((((W (i + 1)).set 5 (.val (.int (0 + (i : Int) * 1)))).set 6 (.val (c.eL (irow c (dY xs.tail i))))).set 7 (.val (.int (dk (dY xs.tail i) : Nat))))) ((EvW.t (evw_and (evt_frz 3 (evt_notinL (rs := (dSt c xs.tail i).1.map (·.1)) (Room_u65 hr) (ev_var 6) (ev_new ((evn_lc (own := [("_law_pair", 8)]) (t := .one 8) (xs := (dSt c xs.tail i).1) (en := c.lpr) (f := fun q => c.eL q.1) (evi_list (ev_var 3)) (lcb (fun _ _ _ _ _ => evg_one 8 nd) rfl fun j q hq => ⟨_, rfl, fun _ _ _ _ _ => ev_ix (evq_t (xs := [c.eL q.1, .int (q.2 : Nat)]) (ev_var 8)) ev_int (atN (i := 0) rfl)⟩) ?_ rfl nd (blkOk_by (N := N_law_drawn) (sc := defScope s__law_drawn) (by decide +kernel))).is ?_)))) fun _ => evw_and1 (evt_le (ev_add (ev_var 4) (ev_mul (ev_var 7) (ev_sub (ev_len T.len (evq_l (ev_var 6))) ev_int) ?_)) (ev_var 2)))).is ?_)
          (fun z => ?_) (fun z => ?_)))))) (.same (.same (.same (.same (.same (.any (.any (.any (.any .nil)))))))))⟩
      · unfold dk
        congr 1
        have := nxt_nn (dY xs.tail i).tail.tail (m := 3) (by decide)
        omega
      · omega
      · rw [List.map_map]
        rfl
      · rw [dl]
        exact .inl ⟨by omega, by omega⟩
      · unfold dtake
        rw [dl, em]
        congr 1
        by_cases z : (dSt c xs.tail i).2 + dk (dY xs.tail i) * ((irow c (dY xs.tail i)).length - 1) ≤ 6
        · rw [decide_eq_true z, decide_eq_true (by omega)]
        · rw [decide_eq_false z, decide_eq_false (by omega)]
      · have e1 : dSt c xs.tail (i + 1) = ((dSt c xs.tail i).1 ++ [(irow c (dY xs.tail i), dk (dY xs.tail i))], (dSt c xs.tail i).2 + dk (dY xs.tail i) * ((irow c (dY xs.tail i)).length - 1)) := by
          show dstep _ _ _ = _
          unfold dstep
          rw [if_pos z]
        show EvB _ _ _ _ (.nx [_, _, _, .own ((dSt c xs.tail (i + 1)).1.map c.lpr), .val (.int ((dSt c xs.tail (i + 1)).2 : Nat)), _, _, _, _])
        rw [e1, List.map_append]
        refine evb_cons (evs_append 3 (ev_tup (eva_cons (ev_var 6) (eva_cons (ev_var 7) eva_nil))) rfl ?_) (evb_one (evs_set 4 ((ev_add (ev_var 4) (ev_mul (ev_var 7) (ev_sub (ev_len T.len (evq_l (ev_var 6))) ev_int) ?_)).is ?_) nd))
        · rw [List.length_map]
          omega
        · rw [dl]
          exact .inl ⟨by omega, by omega⟩
        · rw [dl, em, Int.natCast_add]
      · have e1 : dSt c xs.tail (i + 1) = dSt c xs.tail i := by
          show dstep _ _ _ = _
          unfold dstep
          rw [if_neg (by rw [z]; exact fun q => by cases q)]
        show EvB _ _ _ _ (.nx [_, _, _, .own ((dSt c xs.tail (i + 1)).1.map c.lpr), .val (.int ((dSt c xs.tail (i + 1)).2 : Nat)), _, _, _, _])
        rw [e1]
        exact evb_nil
end
end FM
set_option autoImplicit false
namespace FM
open PySem PySem.Spec PyProof.Rows L2 LamX Pol
/-! ## defs that give a new list -/
def spW (L : Lc) (R : List D → List D → Prop) : L2.Sp := fun vs H Q _ => ∃ G ds ys, Sub G H ∧ TbG L H G ∧ IsL L G ds vs ∧ R ds ys ∧
  ∀ G' H' p ws, Grow L G H G' H' → H p = none → H' p = some (.lst ws) → G' p = none → IsL L G' ys ws → Q (.ref p) H'
structure FnW (P : Program) (w : World) (K : PySem.W.Frag) (mg : Str → Option Value) (base : Heap) (L : Lc) (x : Str) (k : Nat) (ps : List Str) (R : List D → List D → Prop) : Prop where
  ex : ∃ f fd, mg x = some (.ref f) ∧ PySem.W.keepIn K (.ref f) = true ∧ Binds K fd ps [] ∧ FnOk P w K mg base CX0 k f fd ps (spW L R)
def TWs (L : Lc) (S : SlS) (ys : List D) : TS := fun D σ H => ∃ B G, Rep L B S σ H G ∧ ∀ G' H' p ws, Grow L B.G B.H G' H' → B.H p = none → H' p = some (.lst ws) → G' p = none → IsL L G' ys ws → D.rt (.ref p) H'
def EvBW (L : Lc) (X : Cx) (sts : List Stmt) (S : SlS) (ys : List D) : Prop := PSs X sts (TWs L S ys)
section
variable {L : Lc} {X : Cx} {S S' : SlS} {st : Stmt} {rest : List Stmt} {ys : List D}
theorem evbw_cons (h : EvS L X st S (.nx S')) (hr : EvBW L X rest S' ys) : EvBW L X (st :: rest) S ys :=
  PSs.imp (pss_cons h hr) fun D σ H ⟨B, G, R, q⟩ => ⟨B, G, R, fun σ' H' G' s R' => ⟨B, G', R', q⟩⟩
theorem evbw_ret (i : Nat) {x : Str} {p1 pos : Pos} (hs : S[i]? = some (.own ys) := by rfl) (hN : X.N[i]? = some x := by rfl) (hv : Vis X.env.scope x := by first | exact Or.inl rfl | exact Or.inr (Or.inl rfl) | exact Or.inr (Or.inr rfl))
    (hd : (x == ("__debug__" : Str)) = false := by decide) (hcd : (x == ("__classdict__" : Str)) = false := by decide) : EvBW L X [.Return (some (.Name x p1)) pos] S ys :=
  pss_one (PS.imp (ps_ret (pe_var hN hv hd hcd)) fun D σ H ⟨B, G, R, q⟩ => by
    obtain ⟨l, vs, h1, h2, h3, h4⟩ := R.r.own i ys hs
    exact ⟨_, h1, q G H l vs R.g (R.o i l ⟨_, hs, .inl ⟨_, rfl⟩⟩ h1) h2 h3 h4⟩)
/-- such a def's call -/
theorem evn_callW {x : Str} {k : Nat} {ps : List Str} {R : List D → List D → Prop} {e : Expr} {es : List Expr} {p pos : Pos} {ds : List D} (F : FnW X.prog X.w X.K X.mg X.base L x k ps R) (hr : Room k X.A) (ha : EvA L X (e :: es) S ds) (hR : R ds ys) (hg : Gl X x := by rfl)
    (hdb : (x == ("__debug__" : Str)) = false := by decide) (he : starEach (e :: es) X.env = (false, eval e X.env) :: starEach es X.env := by rfl) (hpl : (backTo pos (starEach es X.env)).any (·.1) = false := by rfl) :
    EvN L X (.Call (.Name x p) (e :: es) [] pos) S ys := by
  obtain ⟨f, fd, h1, h2, h3, h4⟩ := F.ex
  refine PE.imp (pe_call h4 hr hg h1 h2 h3 .nil pass0 ha hdb he hpl) fun σ H Q ⟨G, Rr, q⟩ => ⟨G, Rr, fun G1 H1 vs g1 i1 => ?_⟩
  show spW L R (vs ++ []) H1 Q E0
  rw [List.append_nil]
  refine ⟨G1, ds, ys, g1.gh, g1.tg Rr.tabs, i1, hR, fun G2 H2 p ws g2 hp hp' gp i2 => q G2 H2 p ws (g1.trans g2) ?_ hp' gp i2⟩
  cases e : H p with
  | none => rfl
  | some o => exact absurd hp (g1.ne (by rw [e]; exact fun z => by cases z))
end
theorem fnW_ev {P : Program} {w : World} {K : PySem.W.Frag} {mg : Str → Option Value} {base : Heap} {L : Lc} {x qual : Str} {st : Stmt} {dvs : List V} {kws : List (Str × V)} {f : Addr} {fd : FuncData} {N ps : List Str} {k : Nat} {R : List D → List D → Prop} (F : FunD K x qual (defArgs st) (defBody st) (defScope st) dvs kws f fd) (Sc : FnScope N ps (defScope st))
    (hl : ∀ ds ys, R ds ys → ds.length = ps.length)
    (body : ∀ (cdv : Value) (A : Around) (outer : List Env) (s : Shared) (H : Hp) (E : XK), Room k (A.deeper (envOfC qual (defScope st) s.heap.objs.size f cdv)) → ∀ ds ys, R ds ys → EvBW L (BodyX P w K mg base N qual (defScope st) f cdv A outer s H E) (defBody st) (stS N ds) ys) :
    FnOk P w K mg base CX0 (k + 1) f fd ps (spW L R) := by
  refine F.ok Sc (fun vs H Q E ⟨G, ds, ys, s, t, i, hR, q⟩ => by rw [← i.length]; exact hl ds ys hR) fun cdv A outer s H vs Q E hr ⟨G, ds, ys, sb, t, i, hR, q⟩ => ?_
  exact ⟨_, PSs.nox (body cdv A outer s H E hr ds ys hR), ⟨H, G⟩, G, rep_start sb t i, fun G' H' p ws g h1 h2 h3 h4 => q G' H' p ws g h1 h2 h3 h4⟩
/-! ## numbers -/
section
variable {L : Lc} {X : Cx} {S : SlS} {a b e : Expr} {p pos : Pos}
theorem boot_min' : bootBuiltins "min" = some (.builtin "min") := by decide +kernel
theorem boot_abs' : bootBuiltins "abs" = some (.builtin "abs") := by decide +kernel
theorem ev_min2 {i j : Int} (hm : X.mg "min" = none) (hc : X.calm = true) (ha : EvE L X a S (.int i)) (hb : EvE L X b S (.int j)) (hg : Gl X "min" := by rfl)
    (hs : starEach [a, b] X.env = (false, eval a X.env) :: starEach [b] X.env := by rfl) (hs2 : starEach [b] X.env = (false, eval b X.env) :: starEach [] X.env := by rfl) (hpl : (backTo pos (starEach [b] X.env)).any (·.1) = false := by rfl) :
    EvE L X (.Call (.Name "min" p) [a, b] [] pos) S (.int (if j < i then j else i)) :=
  PE.imp (pe_callB (call_min2 hc) hg hm boot_min' (eva_cons ha (eva_cons hb eva_nil hs2) hs) (by decide) (by decide) hs hpl) fun σ H Q ⟨G, R, q⟩ => ⟨G, R, fun G1 H1 vs g1 i1 => by
    cases i1 with
    | cons h1 r =>
      cases r with
      | cons h2 r =>
        cases r
        exact ⟨i, j, by rw [is_int h1, is_int h2], q G1 H1 _ g1 (.int _)⟩⟩
theorem ev_abs {i : Int} (hm : X.mg "abs" = none) (ha : EvE L X a S (.int i)) (hg : Gl X "abs" := by rfl) (hs : starEach [a] X.env = (false, eval a X.env) :: starEach [] X.env := by rfl) (hpl : (backTo pos (starEach [] X.env)).any (·.1) = false := by rfl) :
    EvE L X (.Call (.Name "abs" p) [a] [] pos) S (.int (if i < 0 then -i else i)) :=
  PE.imp (pe_callB call_abs hg hm boot_abs' (eva_cons ha eva_nil hs) (by decide) (by decide) hs hpl) fun σ H Q ⟨G, R, q⟩ => ⟨G, R, fun G1 H1 vs g1 i1 => by
    cases i1 with
    | cons h1 r =>
      cases r
      exact ⟨i, by rw [is_int h1], q G1 H1 _ g1 (.int _)⟩⟩
theorem ev_powE {i j : Int} (ha : EvE L X a S (.int i)) (hb : EvE L X b S (.int j)) (hc : CPow i j) : EvE L X (.BinOp a .Pow b pos) S (.int (i ^ j.toNat)) :=
  ev_op op_pow ha hb fun G H v1 v2 Q s h1 h2 q => ⟨i, j, is_int h1, is_int h2, hc, q G H _ (.refl s) (.int _)⟩
end
/-! ## _law_numbers -/
def hiStep (s : List Int × Int) : List Int × Int := if 0 < s.2 then (s.1 ++ [s.2 % 1009], s.2 / 1009) else s
def hiSt (a : List Int) (x : Int) : Nat → List Int × Int
  | 0 => (a, x)
  | t + 1 => hiStep (hiSt a x t)
def loCell (k i : Nat) (x : Int) : Int := (x * 48271 + 69621 * (i + k) + 11) % 2147483647
def loSt (a : List Int) (k : Nat) (x : Int) : Nat → List Int × Int
  | 0 => (a, x)
  | i + 1 => ((loSt a k x i).1 ++ [((loCell k i (loSt a k x i).2) * 16807 + (loCell k i (loSt a k x i).2) / 65536) % 2147483629 % 1009], loCell k i (loSt a k x i).2)
def absI (x : Int) : Int := if x < 0 then -x else x
def nAt (a : List Int) (k : Nat) (x : Int) : List Int := if 10 ^ 18 ≤ absI x then (hiSt a (absI x) 60).1 else (loSt a k (absI x) 5).1
def nSt (xs : List Int) : Nat → List Int
  | 0 => []
  | k + 1 => nAt (nSt xs k) k (xs.getD k 0)
def numbers (xs : List Int) : List Int := nSt xs (min xs.length 63)
/-- the script, in the ways it may be given -/
inductive ScrD (K : PySem.W.Frag) : D → List Int → Prop
  | lst (xs : List Int) : ScrD K (.lst (xs.map .int)) xs
  | scr (xs : List Int) : ScrD K (.scr xs) xs
  | adr (a : Addr) (xs : List Int) (h : ∀ H : Hp, SqL K H a (xs.map V.int)) : ScrD K (.adr a) xs
theorem ScrD.sq {K : PySem.W.Frag} {L : Lc} {G H : Hp} {d : D} {xs : List Int} {v : V} (s : ScrD K d xs) (sb : Sub G H) (i : Is L G d v) : ∃ a, v = .ref a ∧ SqL K H a (xs.map V.int) := by
  cases s with
  | lst =>
    cases i with
    | lst e r =>
      rw [r.ints] at e
      exact ⟨_, rfl, .inl (.inl (sb _ _ e))⟩
  | scr =>
    cases i with
    | scr e => exact ⟨_, rfl, .inl (.inr ⟨_, sb _ _ e⟩)⟩
  | adr a xs h =>
    cases i
    exact ⟨_, rfl, h H⟩
section
variable {L : Lc} {X : Cx} {S : SlS} {a b e : Expr} {p pos : Pos} {d : D} {xs : List Int}
theorem ev_lenS (hm : X.mg "len" = none) (s : ScrD X.K d xs) (h : EvE L X e S d) (hg : Gl X "len" := by rfl) (he : starEach (e :: []) X.env = (false, eval e X.env) :: starEach [] X.env := by rfl) : EvE L X (.Call (.Name "len" p) [e] [] pos) S (.int xs.length) :=
  PE.imp (pe_callB call_len_seq hg hm PySem.boot_len (pa_cons h pa_nil he) (by decide) (by decide) he (by rfl)) fun σ H Q ⟨G, R, q⟩ => ⟨G, R, fun G' H' v g i => by
    obtain ⟨l, rfl, hl⟩ := s.sq g.gh i
    exact ⟨l, _, rfl, .inl hl, by rw [List.length_map]; exact q G' H' _ g (.int _)⟩⟩
theorem ev_ixS {i : Nat} {x : Int} (s : ScrD X.K d xs) (h : EvE L X a S d) (hb : EvE L X b S (.int (i : Nat))) (hd : xs[i]? = some x) (hs : PlainIx b := by exact fun _ _ => rfl) : EvE L X (.Subscript a b pos) S (.int x) :=
  PE.imp (pe_ix ix_seq h hb hs) fun σ H Q ⟨G, R, q⟩ => ⟨G, R, fun G1 H1 v1 g1 i1 => ⟨G1, R.grow g1, fun G2 H2 v2 g2 i2 => by
    obtain ⟨l, rfl, hl⟩ := s.sq g2.gh (i1.mono g2.gg)
    exact .inl ⟨l, _, _, .int x, rfl, is_int i2, hl, atN (by rw [List.getElem?_map, hd]; rfl), q G2 H2 _ (g1.trans g2) (.int _)⟩⟩⟩
end
inductive R_law_numbers (K : PySem.W.Frag) : List D → List D → Prop
  | mk (d : D) (xs : List Int) (s : ScrD K d xs) (h : xs.length ≤ 100000) : R_law_numbers K [d] ((numbers xs).map .int)
theorem hiSt_len (a : List Int) (x : Int) : ∀ t, (hiSt a x t).1.length ≤ a.length + t
  | 0 => Nat.le_refl _
  | t + 1 => by
    have := hiSt_len a x t
    show (hiStep (hiSt a x t)).1.length ≤ _
    unfold hiStep
    split
    · rw [List.length_append]
      show _ + 1 ≤ _
      omega
    · omega
theorem loSt_len (a : List Int) (k : Nat) (x : Int) : ∀ i, (loSt a k x i).1.length = a.length + i
  | 0 => rfl
  | i + 1 => by
    have := loSt_len a k x i
    show (_ ++ [_]).length = _
    rw [List.length_append]
    show _ + 1 = _
    omega
theorem nSt_len (xs : List Int) : ∀ k, (nSt xs k).length ≤ 60 * k
  | 0 => Nat.le_refl _
  | k + 1 => by
    have := nSt_len xs k
    show (nAt _ _ _).length ≤ _
    unfold nAt
    split
    · have := hiSt_len (nSt xs k) (absI (xs.getD k 0)) 60
      omega
    · have := loSt_len (nSt xs k) k (absI (xs.getD k 0)) 5
      omega
theorem absI_nn (x : Int) : 0 ≤ absI x := by unfold absI; split <;> omega
theorem loSt_cell (a : List Int) (k : Nat) {x : Int} (h0 : 0 ≤ x) (h1 : x < 10 ^ 18) : ∀ i, 0 ≤ (loSt a k x i).2 ∧ (loSt a k x i).2 < 10 ^ 18
  | 0 => ⟨h0, h1⟩
  | i + 1 => by
    show 0 ≤ loCell _ _ _ ∧ loCell _ _ _ < _
    unfold loCell
    omega
section
variable {P : Program} {w : World} {K : PySem.W.Frag} {mg : Str → Option Value} {base : Heap} {L : Lc} {f : Addr} {fd : FuncData}
abbrev N_law_numbers : List Str := ["_law_script", "_law_found", "_law_k", "_law_cell", "_law_turn", "_law_i", "_law_mixed"]
theorem sc_law_numbers : FnScope N_law_numbers ["_law_script"] (defScope s__law_numbers) := ⟨rfl, rfl, rfl, by decide +kernel, rfl, by decide +kernel, by decide +kernel⟩
theorem ok_law_numbers (T : Txt K mg L) (F : FunS K "_law_numbers" "_law_numbers" s__law_numbers f fd) : FnOk P w K mg base CX0 1 f fd ["_law_script"] (spW L (R_law_numbers K)) := by
  refine fnW_ev F sc_law_numbers (fun ds ys h => by cases h; rfl) fun cdv A outer s H E hr ds ys h => ?_
  cases h with
  | mk d0 xs sd hx =>
    have nd := sc_law_numbers.nd
    let W : Nat → SlS := fun k => [.val d0, .own ((nSt xs k).map .int), .any, .any, .any, .any, .any]
    refine evbw_cons (evs_setn 1 (evn_lst eva_nil) nd) (evbw_cons (S' := W (min xs.length 63)) (evs_forN (lo := 0) (c := 1) (n := min xs.length 63) (t := .one 2) (W := W) ((evi_range1 T.range (ev_min2 T.min rfl (ev_lenS T.len sd (ev_var 0)) ev_int) ?_).is ?_) (evg_one 2 nd) PassesOwn.never rfl fun k hk => ?_) (evbw_ret 1))
    · split <;> omega
    · congr 1
      split <;> omega
    · have hlen := nSt_len xs k
      have hk2 : k < xs.length := by omega
      rw [show (0 : Int) + (k : Int) * 1 = (k : Int) by omega]
      have hx0 : xs[k]? = some (xs.getD k 0) := get_of 0 hk2
      have a0 := absI_nn (xs.getD k 0)
      refine ⟨_, _, rfl, evb_weak (evb_cons (evs_set 3 (d := .int (absI (xs.getD k 0))) ((ev_abs T.abs (ev_ixS sd (ev_var 0) (ev_var 2) hx0)).is rfl) nd) (evb_one (evs_if (k := decide (10 ^ 18 ≤ absI (xs.getD k 0))) (o := .nx [.val d0, .own ((nSt xs (k + 1)).map .int), .any, .any, .any, .any, .any]) ((evt_ge (ev_var 3) (ev_powE (i := 10) (j := 18) ev_int ev_int ⟨by decide, by decide, by decide⟩)).is rfl) (fun z => ?_) (fun z => ?_)))) (.same (.same (.any (.any (.any (.any (.any .nil))))))), .inl rfl⟩
      · have z := of_decide_eq_true z
        have e1 : nSt xs (k + 1) = (hiSt (nSt xs k) (absI (xs.getD k 0)) 60).1 := by
          show nAt _ _ _ = _
          unfold nAt
          rw [if_pos z]
        rw [e1]
        refine evb_weak (evb_one (evs_forN (lo := 0) (c := 1) (n := 60) (t := .one 4) (W := fun t => [.val d0, .own ((hiSt (nSt xs k) (absI (xs.getD k 0)) t).1.map .int), .val (.int (k : Nat)), .val (.int (hiSt (nSt xs k) (absI (xs.getD k 0)) t).2), .any, .any, .any]) ((evi_range1 T.range ev_int (by decide)).is rfl) (evg_one 4 nd) PassesOwn.never rfl fun t ht => ?_)) (.same (.same (.any (.any (.any (.any (.any .nil)))))))
        have l1 := hiSt_len (nSt xs k) (absI (xs.getD k 0)) t
        refine ⟨_, _, rfl, evb_weak (evb_one (evs_if (k := decide (0 < (hiSt (nSt xs k) (absI (xs.getD k 0)) t).2)) (o := .nx [.val d0, .own ((hiSt (nSt xs k) (absI (xs.getD k 0)) (t + 1)).1.map .int), .val (.int (k : Nat)), .val (.int (hiSt (nSt xs k) (absI (xs.getD k 0)) (t + 1)).2), .val (.int (0 + (t : Int) * 1)), .any, .any]) (evt_gt (ev_var 3) ev_int) (fun q => ?_) (fun q => ?_))) (.same (.same (.same (.same (.any (.any (.any .nil))))))), .inl rfl⟩
        · have e2 : hiSt (nSt xs k) (absI (xs.getD k 0)) (t + 1) = ((hiSt (nSt xs k) (absI (xs.getD k 0)) t).1 ++ [(hiSt (nSt xs k) (absI (xs.getD k 0)) t).2 % 1009], (hiSt (nSt xs k) (absI (xs.getD k 0)) t).2 / 1009) := by
            show hiStep _ = _
            unfold hiStep
            rw [if_pos (of_decide_eq_true q)]
          rw [e2, List.map_append]
          exact evb_cons (evs_append 1 (ev_mod (ev_var 3) ev_int (by decide)) rfl (by rw [List.length_map]; omega)) (evb_one (evs_set 3 (ev_fdiv (ev_var 3) ev_int ⟨by decide, by decide⟩) nd))
        · have e2 : hiSt (nSt xs k) (absI (xs.getD k 0)) (t + 1) = hiSt (nSt xs k) (absI (xs.getD k 0)) t := by
            show hiStep _ = _
            unfold hiStep
            rw [if_neg (of_decide_eq_false q)]
          rw [e2]
          exact evb_nil
      · have z := of_decide_eq_false z
        have e1 : nSt xs (k + 1) = (loSt (nSt xs k) k (absI (xs.getD k 0)) 5).1 := by
          show nAt _ _ _ = _
          unfold nAt
          rw [if_neg z]
        rw [e1]
        refine evb_weak (evb_one (evs_forN (lo := 0) (c := 1) (n := 5) (t := .one 5) (W := fun i => [.val d0, .own ((loSt (nSt xs k) k (absI (xs.getD k 0)) i).1.map .int), .val (.int (k : Nat)), .val (.int (loSt (nSt xs k) k (absI (xs.getD k 0)) i).2), .any, .any, .any]) ((evi_range1 T.range ev_int (by decide)).is rfl) (evg_one 5 nd) PassesOwn.never rfl fun i hi => ?_)) (.same (.same (.any (.any (.any (.any (.any .nil)))))))
        have l1 := loSt_len (nSt xs k) k (absI (xs.getD k 0)) i
        obtain ⟨c1, c2⟩ := loSt_cell (nSt xs k) k a0 (by omega) i
        rw [show (0 : Int) + (i : Int) * 1 = (i : Int) by omega]
        refine ⟨_, _, rfl, evb_weak (evb_cons (evs_set 3 (d := .int (loCell k i (loSt (nSt xs k) k (absI (xs.getD k 0)) i).2)) (ev_mod (ev_add (ev_add (ev_mul (ev_var 3) ev_int (.inr ⟨by decide, by decide⟩)) (ev_mul ev_int (ev_add (ev_var 5) (ev_var 2)) (.inl ⟨by decide, by decide⟩))) ev_int) ev_int (by decide)) nd)
          (evb_cons (evs_set 6 (ev_mod (ev_add (ev_mul (ev_var 3) ev_int (.inr ⟨by decide, by decide⟩)) (ev_fdiv (ev_var 3) ev_int ⟨by decide, by decide⟩)) ev_int (by decide)) nd) (evb_one (evs_append 1 (ev_mod (ev_var 6) ev_int (by decide)) rfl (by rw [List.length_map]; omega))))) (S2 := [.val d0, .own ((loSt (nSt xs k) k (absI (xs.getD k 0)) (i + 1)).1.map .int), .val (.int (k : Nat)), .val (.int (loSt (nSt xs k) k (absI (xs.getD k 0)) (i + 1)).2), .any, .any, .any]) ?_, .inl rfl⟩
        show Weak [_, .own _, _, _, _, _, _] [_, .own ((_ ++ [_]).map .int), _, _, _, _, _]
        rw [List.map_append]
        exact .same (.same (.same (.same (.any (.any (.any .nil))))))
end
end FM
set_option autoImplicit false
namespace FM
open PySem PySem.Spec PyProof.Rows L2 LamX Pol
/-! ## sorted(xs), xs data -/
theorem each_dat {L : Lc} {X : Cx} {pins : List (Addr × Obj)} {σ : L2.St} {s : Shared} {G H : Hp} (I : Inv X pins σ H s) (sb : Sub G H) {β : Type} {dd : β → D} (hok : ∀ b, pdOk (dd b) = true) : ∀ {bs : List β} {vs : List V} {us : List Value}, IsL L G (bs.map dd) vs → Vals vs us →
    PySem.W.EachIs (fun (u : Value) (b : β) => ∃ as, Reads s.heap u (pd (dd b)) as) us bs
  | [], _, _, .nil, .nil => .nil
  | b :: bs, _, _, .cons i is, .cons r rs => .cons (Dp.reads I _ _ _ (is_dp (K := X.K) sb i (hok b)) r) (each_dat I sb hok is rs)
def rSortD (L : Lc) {β : Type} (bs : List β) (dd : β → D) (K : PySem.W.Frag) : List V → Hp → VK → Prop := fun xs H Q => ∃ G l ws, xs = [.ref l] ∧ Sub G H ∧ H l = some (.lst ws) ∧ IsL L G (bs.map dd) ws ∧
  ∀ p vs, H p = none → IsL L G ((bs.mergeSort (PySem.W.dataLe false fun b => pd (dd b))).map dd) vs → Q (.ref p) (upd H p (.lst vs))
section
variable {L : Lc} {X : Cx} {S : SlS} {β : Type} {bs : List β} {dd : β → D} {e : Expr} {p pos : Pos}
theorem cr_sortD (hok : ∀ b, pdOk (dd b) = true) (hal : ∀ b b', PySem.W.alike (pd (dd b)) (pd (dd b')) = true) (hk : ∀ b, ∃ x r, pd (dd b) = .tuple (x :: r)) (hz : bs.length ≤ 100000) (hu : X.A.units + 66 < cLine) (hd : ∀ b, (pd (dd b)).depth ≤ 64) :
    CallR X (.builtin "sorted") (rSortD L bs dd X.K) := by
  intro pins s σ H xs us Q I rx h
  obtain ⟨G, l, ws, rfl, sb, hl, i, q⟩ := h
  cases rx with
  | cons r rr =>
    cases rr
    cases r
    obtain ⟨hlen, us, cl, rv, el⟩ := I.hok l _ hl
    have hul : us.length = bs.length := by
      have h1 := rv.length
      have h2 := i.length
      rw [List.length_map] at h2
      omega
    have hIs : s.heap.IsList l us.toArray := ⟨_, el, rfl, cl, rfl⟩
    refine PySem.W.sorted_data (bs := bs) (enc := fun b => pd (dd b)) (R := fun u b => ∃ v, RelV v u ∧ Is L G (dd b) v) hIs (each_of i rv) (each_dat I sb hok i rv) (PySem.W.AllAlike.of hal) (PySem.W.Sortable.tuples hk) (small_le hz) (fun b _ => by have := hd b; omega) fun out ho eo => ?_
    obtain ⟨c, hc⟩ := PyProof.Rows.sortedAll_at s.heap us out.toArray
    obtain ⟨vs, ro, io⟩ := of_each eo
    have oa : OwnR X pins (s.heap.objs.size + 1) := OwnR.mk' I (Nat.le_succ _)
    have na : H (s.heap.objs.size + 1) = none := I.hok.fresh (Nat.le_succ _)
    have I1 : Inv X pins σ H { s with heap := PyProof.Rows.sortedAll s.heap us out.toArray } := I.kept (t' := s.toks) fun b o => PyProof.Rows.sortedAll_old
    have hol : vs.length ≤ sizeLine := by
      have h1 := ro.length
      exact small_le (by omega)
    exact ⟨.ref _, _, FM.Inv.track I1 na oa.y oa.l oa.c oa.p hc ro hol, rfl, q _ vs na io⟩
theorem evn_sortedD (hm : X.mg "sorted" = none) (h : EvQ L X e S true (bs.map dd)) (hok : ∀ b, pdOk (dd b) = true) (hal : ∀ b b', PySem.W.alike (pd (dd b)) (pd (dd b')) = true) (hk : ∀ b, ∃ x r, pd (dd b) = .tuple (x :: r)) (hz : bs.length ≤ 100000) (hu : X.A.units + 66 < cLine) (hd : ∀ b, (pd (dd b)).depth ≤ 64)
    (hg : Gl X "sorted" := by rfl) (he : starEach (e :: []) X.env = (false, eval e X.env) :: starEach [] X.env := by rfl) : EvN L X (.Call (.Name "sorted" p) [e] [] pos) S ((bs.mergeSort (PySem.W.dataLe false fun b => pd (dd b))).map dd) :=
  PE.imp (pe_callB (cr_sortD (L := L) (bs := bs) (dd := dd) hok hal hk hz hu hd) hg hm boot_sorted (pa_cons h pa_nil he) (by decide) (by decide) he (by rfl)) fun σ H Q ⟨G, R, q⟩ => ⟨G, R, fun G' H' a vs g ha i =>
    ⟨G', a, vs, rfl, g.gh, ha, i, fun p ws hp i' => q G' _ p ws (g.trans (Grow.more g.gh hp)) (g.back hp) upd_same (sub_none g.gh hp) i'⟩⟩
end
end FM
set_option autoImplicit false
namespace FM
open PySem PySem.Spec PyProof.Rows L2 LamX Pol
/-! ## plain: the law's rows -/
section
variable {K : Type} [Fd K]
/-- a monic row -/
structure MR (l : List K) : Prop where
  ne : l ≠ []
  top : co l (l.length - 1) = 1
theorem MR.nz {l : List K} (h : MR l) : nz l := fun x e => by
  have := h.top
  unfold co at this
  rw [List.getD_eq_getElem?_getD, e] at this
  have e2 : x = 1 := this
  rw [e2]
  exact Fd.one_ne
theorem MR.l {l : List K} (h : MR l) : (mkP l).l = l := trK_nz h.nz
theorem MR.len {l : List K} (h : MR l) : (mkP l).len = l.length := by
  show (mkP l).l.length = _
  rw [h.l]
theorem MR.mo {l : List K} (h : MR l) : Mo (mkP l) := by
  show (mkP l).c ((mkP l).len - 1) = 1
  rw [h.len, mkP_c, h.top]
theorem MR.inj {l m : List K} (h1 : MR l) (h2 : MR m) (e : mkP l = mkP m) : l = m := by rw [← h1.l, e, h2.l]
theorem len_split {g a b : Pol K} (hg : g ≠ 0) (e : g = a * b) : a ≠ 0 ∧ b ≠ 0 ∧ 1 ≤ a.len ∧ 1 ≤ b.len ∧ g.len + 1 = a.len + b.len := by
  have ha : a ≠ 0 := fun z => hg (by rw [e, z]; grind)
  have hb : b ≠ 0 := fun z => hg (by rw [e, z]; grind)
  have l1 := len_pos ha
  have l2 := len_pos hb
  have := len_mul ha hb
  rw [← e] at this
  exact ⟨ha, hb, by omega, by omega, by omega⟩
theorem irr_one {g : Pol K} (h : g.len = 2) : Irr g := ⟨by omega, fun a b e => by
  have hg : g ≠ 0 := fun z => by rw [z, len_zero] at h; omega
  obtain ⟨_, _, h1, h2, h3⟩ := len_split hg e
  omega⟩
end
section
variable {c : FC}
theorem lmon_mr (d v : Nat) : MR (lmon c d v) := ⟨(lmon_ok c d v).2.1, (lmon_ok c d v).2.2⟩
/-- a monic linear one is one of them -/
theorem lin_eq {a : Pol (Kq c)} (m : Mo a) (h : a.len = 2) : ∃ v, v < c.T.q ∧ a = mkP (lmon c 1 v) := by
  refine ⟨(a.c 0).v, (a.c 0).lt, Pol.ext fun i => ?_⟩
  have e : lmon c 1 (a.c 0).v = [a.c 0, 1] := by
    show [c.mem_ ((a.c 0).v / c.T.q ^ 0)] ++ [1] = _
    have : c.mem_ ((a.c 0).v / c.T.q ^ 0) = a.c 0 := Kq.ext (by
      show (a.c 0).v / c.T.q ^ 0 % c.T.q = _
      rw [Nat.pow_zero, Nat.div_one, Nat.mod_eq_of_lt (a.c 0).lt])
    rw [this]
    rfl
  rw [mkP_c, e]
  rcases i with _ | _ | i
  · rfl
  · have : a.c (a.len - 1) = 1 := m
    rw [h] at this
    exact this
  · rw [c_out (by omega)]
    rfl
theorem irr_two {l : List (Kq c)} (m : MR l) (h : l.length = 3) (hi : lirr c l = true) : Irr (mkP l) := ⟨by rw [m.len]; omega, fun a b e => by
  obtain ⟨ha, hb, h1, h2, h3⟩ := len_split m.mo.ne e
  rw [m.len] at h3
  by_cases z : a.len = 1
  · exact .inl z
  by_cases z2 : b.len = 1
  · exact .inr z2
  exfalso
  have ha2 : a.len = 2 := by omega
  have me := mon_eq ha
  have mm := mon_mo ha
  have hlc : a.lc ≠ 0 := c_top ha
  have ml : (mon a).len = 2 := by
    have := len_mul (C_ne hlc) mm.ne
    rw [← me, len_C hlc] at this
    omega
  obtain ⟨v, hv, ev⟩ := lin_eq mm ml
  unfold lirr at hi
  have hv2 := List.all_eq_true.mp hi v (List.mem_range.mpr hv)
  rw [← ev, Bool.not_eq_true', decide_eq_false_iff_not] at hv2
  refine hv2 ((rem_zero_iff _ mm.ne).mpr ?_)
  refine ⟨C a.lc * b, ?_⟩
  rw [e]
  generalize hM : mon a = M at me
  rw [me]
  grind⟩
theorem irow_good (c : FC) (xs : List Int) : MR (irow c xs) ∧ Irr (mkP (irow c xs)) := by
  have hd := ldeg_le xs
  rcases irow_ok c xs with ⟨t, _, e, g, _⟩ | ⟨_, e⟩
  · have m := lmon_mr (c := c) (ldeg xs) ((((nxt xs.tail ((c.T.q ^ ldeg xs : Nat) : Int)).toNat) + t) % c.T.q ^ ldeg xs)
    have ll := (lmon_ok c (ldeg xs) ((((nxt xs.tail ((c.T.q ^ ldeg xs : Nat) : Int)).toNat) + t) % c.T.q ^ ldeg xs)).1
    rw [← e] at m ll
    refine ⟨m, ?_⟩
    unfold lgd at g
    rw [← e] at g
    by_cases z : ldeg xs = 1
    · exact irr_one (by rw [m.len, ll, z])
    · rw [decide_eq_false z, Bool.false_or] at g
      exact irr_two m (by omega) g
  · rw [e]
    have m := lmon_mr (c := c) 1 0
    exact ⟨m, irr_one (by rw [m.len, (lmon_ok c 1 0).1])⟩
/-- what is drawn -/
structure DrOk (qs : List (List (Kq c) × Nat)) : Prop where
  g : ∀ q ∈ qs, MR q.1 ∧ Irr (mkP q.1) ∧ q.1.length ≤ 3 ∧ 1 ≤ q.2 ∧ q.2 ≤ 3
  ne : qs.Pairwise fun x y => x.1 ≠ y.1
theorem dSt_ok (c : FC) (xs : List Int) : ∀ i, DrOk (dSt c xs i).1
  | 0 => ⟨fun q hq => (by cases hq), .nil⟩
  | i + 1 => by
    have ih := dSt_ok c xs i
    show DrOk (dstep c (dY xs i) (dSt c xs i)).1
    unfold dstep
    by_cases h : dtake c (dY xs i) (dSt c xs i) = true
    · rw [if_pos h]
      unfold dtake at h
      rw [Bool.and_eq_true, Bool.not_eq_true', decide_eq_false_iff_not] at h
      obtain ⟨m, r⟩ := irow_good c (dY xs i)
      refine ⟨fun q hq => ?_, ?_⟩
      · rcases List.mem_append.mp hq with hq | hq
        · exact ih.g q hq
        · rw [List.mem_singleton.mp hq]
          exact ⟨m, r, (irow_len c _).2, (dk_le _).1, (dk_le _).2⟩
      · refine List.pairwise_append.mpr ⟨ih.ne, List.pairwise_singleton _ _, fun x hx y hy => ?_⟩
        rw [List.mem_singleton.mp hy]
        intro z
        exact h.1 (List.mem_map.mpr ⟨x, hx, z⟩)
    · rw [if_neg h]
      exact ih
def toF (qs : List (List (Kq c) × Nat)) : Fac (Kq c) := qs.map fun q => (mkP q.1, q.2)
theorem DrOk.wf {qs : List (List (Kq c) × Nat)} (h : DrOk qs) : WF (toF qs) where
  irr := fun x hx => by
    obtain ⟨q, hq, rfl⟩ := List.mem_map.mp hx
    exact (h.g q hq).2.1
  mo := fun x hx => by
    obtain ⟨q, hq, rfl⟩ := List.mem_map.mp hx
    exact (h.g q hq).1.mo
  ne := List.pairwise_map.mpr (h.ne.imp_of_mem fun {a b} ha hb n z => n (MR.inj (h.g a ha).1 (h.g b hb).1 z))
theorem lwP_P (l t : List (Kq c)) : ∀ n, mkP (lwP l n t) = mkP l ^ n * mkP t
  | 0 => by
    show mkP t = _
    grind
  | n + 1 => by
    show mkP (trK (mulL (lwP l n t) l)) = _
    rw [mkP_of (co_trK _), mulL_P, lwP_P l t n]
    grind
theorem lwS_P : ∀ (qs : List (List (Kq c) × Nat)) (t : List (Kq c)), mkP (lwS qs t) = mkP t * Mf (fun e => e) (toF qs)
  | [], t => by
    show mkP t = mkP t * 1
    grind
  | q :: qs, t => by
    show mkP (lwS qs (lwP q.1 q.2 t)) = mkP t * (mkP q.1 ^ q.2 * Mf (fun e => e) (toF qs))
    rw [lwS_P qs, lwP_P]
    grind
theorem scal_P (a : Kq c) (l : List (Kq c)) : mkP (l.map fun x => a * x) = C a * mkP l := Pol.ext fun i => by rw [mkP_c, c_Cmul, mkP_c, co_map (f := fun x => a * x) (by grind)]
theorem whole_P (a : Kq c) (qs : List (List (Kq c) × Nat)) : mkP ((lwS qs [1]).map fun x => a * x) = C a * Mf (fun e => e) (toF qs) := by
  rw [scal_P, lwS_P, ← one_eq]
  grind
theorem Mf_len : ∀ (qs : List (List (Kq c) × Nat)), DrOk qs → (Mf (fun e => e) (toF qs)).len ≤ 1 + 6 * qs.length
  | [], _ => by
    show (1 : Pol (Kq c)).len ≤ _
    rw [len_one]
    exact Nat.le_refl _
  | q :: qs, h => by
    obtain ⟨m, _, l3, k1, k3⟩ := h.g q (List.mem_cons_self ..)
    have h2 : DrOk qs := ⟨fun x hx => h.g x (List.mem_cons_of_mem _ hx), (List.pairwise_cons.mp h.ne).2⟩
    have ih := Mf_len qs h2
    have mM := Mf_mo (fun e => e) (h2.wf).mo
    have mp := m.mo.pow q.2
    show (mkP q.1 ^ q.2 * Mf (fun e => e) (toF qs)).len ≤ _
    rw [len_mul mp.ne mM.ne]
    have pl : ∀ n : Nat, n ≤ 3 → (mkP q.1 ^ n).len ≤ 1 + 2 * n := fun n => by
      induction n with
      | zero =>
        intro _
        rw [show mkP q.1 ^ 0 = (1 : Pol (Kq c)) by grind, len_one]
        exact Nat.le_refl _
      | succ n ih =>
        intro hn
        have := ih (by omega)
        rw [show mkP q.1 ^ (n + 1) = mkP q.1 ^ n * mkP q.1 by grind, len_mul (m.mo.pow n).ne m.mo.ne, m.len]
        omega
    have := pl q.2 k3
    rw [List.length_cons]
    omega
theorem pkey_lk {l : List (Kq c)} (m : MR l) : pkey (mkP l) = c.lk l := by
  unfold pkey FC.lk
  rw [m.l, m.len]
end
end FM
set_option autoImplicit false
namespace FM
open PySem PySem.Spec PyProof.Rows L2 LamX Pol
/-! ## the order of what is due -/
section
variable {c : FC}
theorem pd_tI (xs : List Int) : pd (tI xs) = .tuple (xs.map .int) := by
  unfold tI
  simp only [pd, pdL_ints]
theorem pd_eR (l : List (Kq c)) : pd (c.eR l) = .tuple (l.map fun x => pd (c.eK x)) := by
  show pd (.tup (l.map c.eK)) = _
  simp only [pd, pdL_map]
theorem alike_tI (xs ys : List Int) : PySem.W.alike (pd (tI xs)) (pd (tI ys)) = true := by
  rw [pd_tI, pd_tI]
  unfold PySem.W.alike
  exact PySem.W.alike_ints xs ys
theorem alikeAll_map {α : Type} {f : α → PyData} (h : ∀ x y, PySem.W.alike (f x) (f y) = true) : ∀ l m : List α, PySem.W.alikeAll (l.map f) (m.map f) = true
  | [], _ => by simp [PySem.W.alikeAll]
  | x :: l, [] => by simp [PySem.W.alikeAll]
  | x :: l, y :: m => by
    rw [List.map_cons, List.map_cons, PySem.W.alikeAll, h, alikeAll_map h l m]
    rfl
theorem alike_eR (l m : List (Kq c)) : PySem.W.alike (pd (c.eR l)) (pd (c.eR m)) = true := by
  rw [pd_eR, pd_eR]
  unfold PySem.W.alike
  exact alikeAll_map (fun x y => alike_tI _ _) l m
/-- a row of what is due -/
def FC.due (c : FC) (q : List (Kq c) × Nat) : D := .tup [tI (c.lk q.1), c.eR q.1, .int (q.2 : Nat)]
theorem pd_due (q : List (Kq c) × Nat) : pd (c.due q) = .tuple [pd (tI (c.lk q.1)), pd (c.eR q.1), .int (q.2 : Nat)] := by
  unfold FC.due
  simp only [pd, pdL]
theorem due_alike (q r : List (Kq c) × Nat) : PySem.W.alike (pd (c.due q)) (pd (c.due r)) = true := by
  rw [pd_due, pd_due]
  simp only [PySem.W.alike, PySem.W.alikeAll, alike_tI, alike_eR]
  rfl
theorem ok_eR (l : List (Kq c)) : pdOk (c.eR l) = true := by
  show pdOk (.tup (l.map c.eK)) = true
  simp only [pdOk]
  exact pdOkL_map (fun x => ok_tI _) l
theorem depth_eR (l : List (Kq c)) : (pd (c.eR l)).depth ≤ 2 := by
  rw [pd_eR]
  simp only [PyData.depth]
  have := depthAll_map (f := fun x => pd (c.eK x)) (n := 1) (fun x => tI_depth _) l
  omega
theorem ok_due (q : List (Kq c) × Nat) : pdOk (c.due q) = true := by
  unfold FC.due
  simp only [pdOk, pdOkL, ok_tI, ok_eR]
  rfl
theorem depth_due (q : List (Kq c) × Nat) : (pd (c.due q)).depth ≤ 3 := by
  rw [pd_due]
  simp only [PyData.depth, PyData.depthAll]
  have h1 := tI_depth (c.lk q.1)
  have h2 := depth_eR q.1
  omega
theorem lk_inj {l m : List (Kq c)} (h1 : MR l) (h2 : MR m) (e : c.lk l = c.lk m) : l = m := h1.inj h2 (pkey_inj (by rw [pkey_lk h1, pkey_lk h2, e]))
theorem due_le {qs : List (List (Kq c) × Nat)} (h : DrOk qs) : ∀ a ∈ qs, ∀ b ∈ qs, PySem.W.dataLe false (fun q => pd (c.due q)) a b = leK (fun q => c.lk q.1) a b := fun a ha b hb => by
  rw [PySem.W.dataLe_eq]
  show (!PySem.W.dataLt (pd (c.due b)) (pd (c.due a))) = decide (c.lk a.1 ≤ c.lk b.1)
  by_cases z : a.1 = b.1
  · rw [pw_eq h.ne a ha b hb z, show PySem.W.dataLt (pd (c.due b)) (pd (c.due b)) = false from PyProof.Rows.lex_irrefl _, decide_eq_true (List.le_refl _)]
    rfl
  · have z2 : c.lk b.1 ≠ c.lk a.1 := fun e => z (lk_inj (h.g a ha).1 (h.g b hb).1 e.symm)
    have e1 : PyData.eqv (pd (tI (c.lk b.1))) (pd (tI (c.lk a.1))) = false := by rw [eqv_tI, decide_eq_false z2]
    have e2 : PySem.W.dataLt (pd (tI (c.lk b.1))) (pd (tI (c.lk a.1))) = decide (c.lk b.1 < c.lk a.1) := by
      rw [pd_tI, pd_tI, PySem.W.dataLt_tuple]
      exact PySem.W.dataLt_ints _ _
    rw [pd_due, pd_due, PySem.W.dataLt_tuple, PySem.W.dataLt_cons (alike_tI _ _), if_neg (by rw [e1]; exact Bool.false_ne_true), e2]
    by_cases q : c.lk b.1 < c.lk a.1
    · rw [decide_eq_true q, decide_eq_false (fun y => List.not_lt.mpr y q)]
      rfl
    · rw [decide_eq_false q, decide_eq_true (List.not_lt.mp q)]
      rfl
/-- what is found, what is due -/
def FC.fd2 (c : FC) (x : Pol (Kq c) × Nat) : D := .tup [c.eR x.1.l, .int (x.2 : Nat)]
def FC.fd1 (c : FC) (q : List (Kq c) × Nat) : D := .tup [c.eR q.1, .int (q.2 : Nat)]
theorem due_found {qs : List (List (Kq c) × Nat)} (h : DrOk qs) : (qs.mergeSort (PySem.W.dataLe false fun q => pd (c.due q))).map c.fd1 = (srtF (toF qs)).map c.fd2 := by
  unfold srtF toF
  rw [← PySem.W.sort_maps (r := PySem.W.dataLe false fun q => pd (c.due q)) (fun q : List (Kq c) × Nat => (mkP q.1, q.2)) fun a ha b hb => ?_, List.map_map]
  · refine List.map_congr_left fun q hq => ?_
    have hq2 := List.mem_mergeSort.mp hq
    show D.tup [c.eR q.1, _] = D.tup [c.eR (mkP q.1).l, _]
    rw [(h.g q hq2).1.l]
  · rw [due_le h a ha b hb]
    show decide (c.lk a.1 ≤ c.lk b.1) = decide (pkey (mkP a.1) ≤ pkey (mkP b.1))
    rw [pkey_lk (h.g a ha).1, pkey_lk (h.g b hb).1]
theorem ok_fd2 (x : Pol (Kq c) × Nat) : pdOk (c.fd2 x) = true := by
  unfold FC.fd2
  simp only [pdOk, pdOkL, ok_eR]
  rfl
theorem depth_fd2 (l : List (Pol (Kq c) × Nat)) : (pd (.lst (l.map c.fd2))).depth ≤ 4 := by
  simp only [pd, pdL_map, PyData.depth]
  have := depthAll_map (f := fun x => pd (c.fd2 x)) (n := 3) (fun x => by
    unfold FC.fd2
    simp only [pd, pdL, PyData.depth, PyData.depthAll]
    have := depth_eR x.1.l
    omega) l
  omega
end
/-! ## the list that is popped: from one's own to the popped one -/
section
variable {L : Lc} {X : Cx} {S : SlS} {sts : List Stmt} {ys zs : List Int} {d : D}
theorem evb_toN (i : Nat) (h : ∀ l, EvBN L X l sts (S.set i (.val (.adr l))) ys (.ret d zs)) (hs : S[i]? = some (.own (ys.map .int)) := by rfl) : EvB L X sts S (.ret d) :=
  ⟨fun pins s σ H D I ⟨B, G, R, q⟩ => by
    obtain ⟨l, vs, h1, h2, h3, h4⟩ := R.r.own i _ hs
    have oi : Owns S i := ⟨_, hs, .inl ⟨_, rfl⟩⟩
    have hil : i < S.length := (List.getElem?_eq_some_iff.mp hs).1
    rw [h4.ints] at h2
    refine (h l).run pins s σ H D I ⟨B, G, ⟨⟨⟨by rw [List.length_set]; exact R.r.len, R.r.sub, R.r.tabs, fun j d e => ?_, fun j zs e => ?_, fun j C fs e => ?_, fun a b m ha hb => R.r.dist a b m (owns_set ha).1 (owns_set hb).1⟩, R.g, fun j m ho => R.o j m (owns_set ho).1⟩, R.o i l oi h1, h2, h3, fun j ho e => ?_⟩, fun G' H' v g _ _ i => q G' H' v g i⟩
    · by_cases z : i = j
      · subst z
        rw [List.getElem?_set_self hil] at e
        cases e
        exact ⟨_, h1, .adr l⟩
      · rw [List.getElem?_set_ne z] at e
        exact R.r.val j d e
    · obtain ⟨_, z⟩ := owns_set ⟨_, e, .inl ⟨zs, rfl⟩⟩
      rw [List.getElem?_set_ne z] at e
      exact R.r.own j zs e
    · obtain ⟨_, z⟩ := owns_set ⟨_, e, .inr ⟨C, fs, rfl⟩⟩
      rw [List.getElem?_set_ne z] at e
      exact R.r.inst j C fs e
    · obtain ⟨h5, z⟩ := owns_set ho
      exact z (R.r.dist i j l oi h5 h1 e)⟩
theorem evbn_pureR {l : Addr} (h : EvB L X sts S (.ret d)) : EvBN L X l sts S ys (.ret d ys) :=
  PSs.imp h fun D σ H ⟨B, G, N, q⟩ => ⟨⟨baseH S σ H, G⟩, G, N.r.fine, fun G' H' v g i => q G' H' v (N.r.coarse g) (g.hh l _ N.baseL (fun ps z => by cases z)) (g.fr l N.g (by show baseH S σ H l ≠ none; rw [N.baseL]; exact fun z => by cases z)) i⟩
end
/-! ## the field -/
theorem field_ex (xs : List Int) : ∃ c : FC, ∀ l, R_law_field l xs [.adr l, .int 6] xs.tail.tail (.fld c.d) := by
  have n6 := nxt_nn xs (m := 6) (by decide)
  have hi : (nxt xs 6).toNat < sizes.length := by
    show _ < 6
    omega
  have hq : sizes[(nxt xs 6).toNat]? = some sizes[(nxt xs 6).toNat] := List.getElem?_eq_getElem hi
  have hm : sizes[(nxt xs 6).toNat] ∈ sizes := List.getElem_mem hi
  generalize hs : sizes[(nxt xs 6).toNat] = q at hq hm
  obtain ⟨a1, a2, a3, a4⟩ := sizes_ok q hm
  have nv := nxt_nn xs.tail (m := (q.1 : Int)) (by omega)
  obtain ⟨c, h1, h2, h3⟩ := lmod_ok hm (v := (nxt xs.tail (q.1 : Int)).toNat) (by omega)
  have e : szD.take 6 = sizes.map fun q => .tup [.int (q.1 : Nat), .int (q.2 : Nat)] := rfl
  refine ⟨c, fun l => .mk xs c (nxt xs 6).toNat q.1 q.2 _ (by omega) ?_ (by omega) (by rw [Int.toNat_of_nonneg nv.1]) h1 h3⟩
  rw [e, List.getElem?_map, hq]
  rfl
end FM
set_option autoImplicit false
namespace FM
open PySem PySem.Spec PyProof.Rows L2 LamX Pol
theorem Room_u66 {k : Nat} {A : Around} (r : Room k A) : A.units + 66 < cLine := by have := r.un; omega
inductive R_law (K : PySem.W.Frag) : List D → D → Prop
  | mk (d : D) (xs : List Int) (s : ScrD K d xs) (h : xs.length ≤ 100000) : R_law K [d] (.bl true)
section
variable {P : Program} {w : World} {K : PySem.W.Frag} {mg : Str → Option Value} {base : Heap} {L : Lc} {f : Addr} {fd : FuncData}
abbrev N_law : List Str := ["_law_script", "_law_numbers_here", "_law_field_here", "_law_pairs", "_law_a", "_law_f", "_law_due", "_law_found", "_law_c", "_law_row", "_law_k", "_law_g", "_law_key_here"]
theorem sc_law : FnScope N_law ["_law_script"] (defScope s_law) := ⟨rfl, rfl, rfl, by decide +kernel, rfl, by decide +kernel, by decide +kernel⟩
theorem ok_law (T : Txt K mg L) (C1 : FnW P w K mg base L "_law_numbers" 1 ["_law_script"] (R_law_numbers K)) (C2 : FnN P w K mg base L "_law_field" 8 ["_law_numbers_here", "_law_most"] R_law_field) (C3 : FnN P w K mg base L "_law_drawn" 7 ["_law_field_here", "_law_numbers_here", "_law_most"] R_law_drawn) (C4 : FnC P w K mg base L "_law_member" 1 ["_law_p", "_law_n", "_law_number_here"] R_law_member)
    (C5 : FnN P w K mg base L "_law_next" 1 ["_law_numbers_here", "_law_many"] R_law_next) (MP : MkC P w K mg base L "Poly" L.CP 3 ["self", "field", "row"] R_Poly) (C6 : FnC P w K mg base L "_law_whole" 5 ["_law_field_here", "_law_pairs"] R_law_whole) (C7 : FnC P w K mg base L "_law_times" 1 ["_law_field_here", "_law_a", "_law_b"] R_law_times) (C8 : FnC P w K mg base L "_law_key" 2 ["_law_field_here", "_law_row"] R_law_key)
    (C9 : FnC P w K mg base L "factors" 12 ["f"] R_factors) (C10 : FnC P w K mg base L "_law_refuses" 5 ["_law_field_here"] R_law_refuses) (F : FunS K "law" "law" s_law f fd) : FnOk P w K mg base CX0 13 f fd ["_law_script"] (spD L (R_law K)) := by
  refine fn_ev F sc_law (fun ds r h => by cases h; rfl) fun cdv A outer s H E hr ds r h => ?_
  cases h with
  | mk d0 xs0 sd hx =>
    have nd := sc_law.nd
    have hr1 : Room 1 _ := hr.mono (by decide)
    have hr2 : Room 2 _ := hr.mono (by decide)
    have hr4 : Room 4 _ := hr.mono (by decide)
    have hr5 : Room 5 _ := hr.mono (by decide)
    have hr7 : Room 7 _ := hr.mono (by decide)
    have hr8 : Room 8 _ := hr.mono (by decide)
    generalize hxs : numbers xs0 = xs
    have hN := R_law_numbers.mk d0 xs0 sd hx
    rw [hxs] at hN
    obtain ⟨c, hF⟩ := field_ex xs
    have q2 := c.q2
    have q9 := c.g0.2.2.2.2.1
    generalize hys : xs.tail.tail = ys at hF
    have n3 := nxt_nn ys (m := 3) (by decide)
    obtain ⟨n, hn⟩ : ∃ n : Nat, 1 + nxt ys 3 = (n : Nat) := ⟨(1 + nxt ys 3).toNat, by omega⟩
    have hD := fun l => R_law_drawn.mk (l := l) ys c n hn
    have dl := (dSt_deg c ys.tail n).2
    have dok := dSt_ok c ys.tail n
    generalize hqs : (dSt c ys.tail n).1 = qs at hD dl dok
    generalize hzs : dY ys.tail n = zs at hD
    have na := nxt_nn zs (m := (c.T.q : Int) - 1) (by omega)
    have hX := fun l => R_law_next.mk (l := l) zs ((c.T.q : Int) - 1) (by omega)
    obtain ⟨v, hv⟩ : ∃ v : Nat, 1 + nxt zs ((c.T.q : Int) - 1) = (v : Nat) := ⟨(1 + nxt zs ((c.T.q : Int) - 1)).toNat, by omega⟩
    have hvq : v < c.T.q := by omega
    have hM := c.k_member v hvq
    have ha : (⟨v, hvq⟩ : Kq c) ≠ 0 := fun z => by
      have h2 : v = 0 := congrArg Kq.v z
      omega
    generalize (⟨v, hvq⟩ : Kq c) = a at hM ha
    have hq3 : qs.length ≤ 3 := by omega
    have hW : R_law_whole [.fld c.d, .lst (qs.map c.lpr)] (c.eL (lwS qs [1])) := .mk c qs (fun q hq => ⟨(dok.g q hq).2.2.1, (dok.g q hq).2.2.2.2⟩) hq3
    have lW : (lwS qs [1]).length ≤ 28 := by
      have := lwT_len (fun q hq => ⟨(dok.g q hq).2.2.1, (dok.g q hq).2.2.2.2⟩) qs.length (Nat.le_refl _)
      unfold lwT at this
      rw [List.take_length] at this
      omega
    have mkF := R_Poly.mk c true ((lwS qs [1]).map fun x => a * x) (by rw [List.length_map]; omega)
    rw [whole_P] at mkF
    have hFa : R_factors [c.P (C a * Mf (fun e => e) (toF qs))] (.tup ((srtF (toF qs)).map c.pr)) := .mk c a ha (toF qs) dok.wf (fun x hx => by
      obtain ⟨q, hq, rfl⟩ := List.mem_map.mp hx
      exact ⟨(dok.g q hq).2.2.2.1, Nat.lt_succ_of_le (dok.g q hq).2.2.2.2⟩) (by have := Mf_len qs dok; omega)
    have mk1 := R_Poly.mk c true [a] (show 1 ≤ 900 by decide)
    have hFb : R_factors [c.P (mkP [a])] (.tup []) := by
      have := R_factors.mk c a ha [] ⟨fun x hx => (by cases hx), fun x hx => (by cases hx), .nil⟩ (fun x hx => by cases hx) (by
        show (1 : Pol (Kq c)).len ≤ 30
        rw [len_one]
        decide)
      rw [show C a * Mf (fun e => e) ([] : Fac (Kq c)) = mkP [a] from by
        show C a * 1 = C a
        grind, show srtF ([] : Fac (Kq c)) = [] from List.eq_nil_of_length_eq_zero (by unfold srtF; rw [List.length_mergeSort]; rfl)] at this
      exact this
    have hdf := due_found dok
    have ls : (srtF (toF qs)).length = qs.length := by
      unfold srtF toF
      rw [List.length_mergeSort, List.length_map]
    refine .ret (evb_cons (evs_setn 1 (evn_callW C1 hr1 (eva_cons (ev_var 0) eva_nil) hN) nd) (evb_toN 1 (zs := zs.tail) fun l => ?_))
    refine evbn_cons (evsn_set 2 (evx_callN C2 hr8 (evxa_cons (evx_pure (ev_var 1)) (evxa_cons (evx_pure ev_int) evxa_nil)) (hF l)) nd) ?_
    refine evbn_cons (evsn_set 3 (evx_callN C3 hr7 (evxa_cons (evx_pure (ev_var 2)) (evxa_cons (evx_pure (ev_var 1)) (evxa_cons (evx_pure ev_int) evxa_nil))) (hD l)) nd) ?_
    refine evbn_cons (evsn_set 4 (evx_call C4 hr1 (evxa_cons (evx_pure (ev_fld_p T.cls (ev_var 2))) (evxa_cons (evx_pure (ev_fld_n T.cls (ev_var 2))) (evxa_cons ((evx_add (evx_pure ev_int) (evx_callN C5 hr1 (evxa_cons (evx_pure (ev_var 1)) (evxa_cons (evx_pure (ev_sub (ev_fld_q T.cls (ev_var 2)) ev_int)) evxa_nil)) (hX l))).is (congrArg D.int hv)) evxa_nil))) hM) nd) ?_
    refine evbn_pureR (evb_cons (evs_set 5 (ev_make MP hr4 (eva_cons (ev_var 2) (eva_cons ((ev_new (evn_lc (own := [("_law_c", 8)]) (t := .one 8) (xs := lwS qs [1]) (en := c.eK) (f := fun x => c.eK (a * x)) (evi_list (ev_call C6 hr5 (eva_cons (ev_var 2) (eva_cons (ev_var 3) eva_nil)) hW)) (lcb (fun _ _ _ _ _ => evg_one 8 nd) rfl fun i d hd => ⟨_, rfl, fun _ _ _ _ _ => ev_call C7 hr1 (eva_cons (ev_var 2) (eva_cons (ev_var 4) (eva_cons (ev_var 8) eva_nil))) (.mk c a d)⟩) (by omega) rfl nd (blkOk_by (N := N_law) (sc := defScope s_law) (by decide +kernel)))).is (c := dseq true (((lwS qs [1]).map fun x => a * x).map c.eK)) (by rw [List.map_map]; rfl)) eva_nil)) mkF) nd) ?_)
    refine evb_cons (evs_setn 6 (evn_sortedD (bs := qs) (dd := c.due) T.sorted (evq_n (evn_lc (own := [("_law_row", 9), ("_law_k", 10)]) (t := .two 9 10) (xs := qs) (en := c.lpr) (f := c.due) (evi_list (ev_var 3)) (lcb (fun _ _ _ _ _ => evg_two 9 10 rfl nd) rfl fun i d hd => ⟨_, rfl, fun _ _ _ _ _ => ev_tup (eva_cons (ev_call C8 hr2 (eva_cons (ev_var 2) (eva_cons (ev_var 9) eva_nil)) (.mk c d.1 (by have := (dok.g d (List.mem_of_getElem? hd)).2.2.1; omega))) (eva_cons (ev_tupleL T.tuple (evq_l (ev_var 9))) (eva_cons (ev_var 10) eva_nil)))⟩) (by omega) rfl nd (blkOk_by (N := N_law) (sc := defScope s_law) (by decide +kernel)))) ok_due due_alike (fun q => ⟨_, _, pd_due q⟩) (by omega) (Room_u66 hr) (fun q => Nat.le_trans (depth_due q) (by decide))) nd) (evb_frz 6 rfl ?_)
    refine evb_cons (evs_lc 7 (own := [("_law_g", 11), ("_law_k", 10)]) (t := .two 11 10) (xs := srtF (toF qs)) (en := c.pr) (f := c.fd2) (evi_tup (ev_call C9 hr (eva_cons (ev_var 5) eva_nil) hFa)) (lcb (fun _ _ _ _ _ => evg_two 11 10 rfl nd) rfl fun i d hd => ⟨_, rfl, fun _ _ _ _ _ => ev_tup (eva_cons ((ev_pol_r T.cls (ev_var 11)).is (c.eR_eq d.1.l)) (eva_cons (ev_var 10) eva_nil))⟩) (by omega) rfl nd (blkOk_by (N := N_law) (sc := defScope s_law) (by decide +kernel)) (sw_true rfl rfl rfl (by decide +kernel))) (evb_frz 7 rfl ?_)
    refine evb_cons (evs_ifF ((evt_neD hr.units (ev_var 7) (ev_new ((evn_lc (own := [("_law_key_here", 12), ("_law_row", 9), ("_law_k", 10)]) (t := .tri 12 9 10) (xs := qs.mergeSort (PySem.W.dataLe false fun q => pd (c.due q))) (en := c.due) (f := c.fd1) (evi_list (ev_var 6)) (lcb (fun _ _ _ _ _ => evg_tri 12 9 10 rfl nd) rfl fun i d hd => ⟨_, rfl, fun _ _ _ _ _ => ev_tup (eva_cons (ev_var 9) (eva_cons (ev_var 10) eva_nil))⟩) (by rw [List.length_mergeSort]; omega) rfl nd (blkOk_by (N := N_law) (sc := defScope s_law) (by decide +kernel))).is hdf)) (by
      simp only [pdOk]
      exact pdOkL_map ok_fd2 _) (by
      simp only [pdOk]
      exact pdOkL_map ok_fd2 _) (Nat.le_trans (depth_fd2 _) (by decide)) (Nat.le_trans (depth_fd2 _) (by decide))).is (by rw [PySem.SeqAt.eqv_refl _ (pd_can _)]; rfl)) evb_nil) ?_
    exact evb_one (evs_ret ((ev_and ((ev_eqD (d1 := .tup []) (d2 := .tup []) hr.units (ev_call C9 hr (eva_cons (ev_make MP hr4 (eva_cons (ev_var 2) (eva_cons ((ev_new (evn_lst (eva_cons (ev_var 4) eva_nil))).is (c := dseq true ([a].map c.eK)) rfl) eva_nil)) mk1) eva_nil) hFb) (ev_tup eva_nil) rfl rfl (by decide) (by decide)).is (c := .bl true) (by rw [PySem.SeqAt.eqv_refl _ (pd_can _)])) fun _ => ev_one (ev_call C10 hr5 (eva_cons (ev_var 2) eva_nil) (.mk c))).is rfl))
end
end FM
set_option autoImplicit false
namespace FM
open PySem PySem.Spec PyProof.Rows L2 LamX
theorem MtC_mono {P : Program} {w : World} {K : PySem.W.Frag} {mg : Str → Option Value} {base : Heap} {L : Lc} {C : Addr} {m : Str} {j k : Nat} {ps : List Str} {R : List D → D → Prop} (F : MtC P w K mg base L C m j ps R) (h : j ≤ k) : MtC P w K mg base L C m k ps R := by
  obtain ⟨f, fd, h1, h2, h3⟩ := F.ex
  exact ⟨f, fd, h1, h2, h3.mono h⟩
abbrev lcK (K : PySem.W.Frag) : Lc := ⟨He.ga K "Field", He.ga K "Poly", [(tAd K pDi, "divided" ++ ".<locals>." ++ "<lambda>"), (tAd K pFa, "factors" ++ ".<locals>." ++ "<lambda>")]⟩
theorem law_at {P : Program} {w : World} {K : PySem.W.Frag} {mg : Str → Option Value} {base : Heap} (c : He.SaysD fa fn K) (E : ExK K) (X : K.In base) (G : base.Ns mainGlobals mg) (T1 : LamX.TabB base mg (cAd K pDi) (tAd K pDi)) (T2 : LamX.TabB base mg (cAd K pFa) (tAd K pFa))
    {fd : FuncData} (F : FunS K "law" "law" s_law (He.ga K "law") fd) : FnOk P w K mg base CX0 13 (He.ga K "law") fd ["_law_script"] (spD (lcK K) (R_law K)) := by
  let L : Lc := lcK K
  let CZ : Addr := He.ga K "ZeroDivisor"
  have T : Txt K mg L := { cls := ⟨He.cls_ok (c.fact 91 (f := .cls "Field") rfl), He.cls_ok (c.fact 90 (f := .cls "Poly") rfl), He.noat_ok (c.fact 96 (f := .noat "Field" "modulus") rfl), He.noat_ok (c.fact 97 (f := .noat "Field" "p") rfl), He.noat_ok (c.fact 98 (f := .noat "Field" "n") rfl), He.noat_ok (c.fact 99 (f := .noat "Field" "q") rfl), He.noat_ok (c.fact 94 (f := .noat "Poly" "field") rfl), He.noat_ok (c.fact 95 (f := .noat "Poly" "row") rfl)⟩, abs := He.free_ok X G (c.fact 73 (f := .free "abs") rfl), min := He.free_ok X G (c.fact 74 (f := .free "min") rfl), max := He.free_ok X G (c.fact 75 (f := .free "max") rfl), len := He.free_ok X G (c.fact 76 (f := .free "len") rfl), range := He.free_ok X G (c.fact 77 (f := .free "range") rfl), sum := He.free_ok X G (c.fact 78 (f := .free "sum") rfl), tuple := He.free_ok X G (c.fact 79 (f := .free "tuple") rfl), list := He.free_ok X G (c.fact 80 (f := .free "list") rfl), int := He.free_ok X G (c.fact 81 (f := .free "int") rfl), sorted := He.free_ok X G (c.fact 82 (f := .free "sorted") rfl), enumerate := He.free_ok X G (c.fact 83 (f := .free "enumerate") rfl), zip := He.free_ok X G (c.fact 84 (f := .free "zip") rfl), reversed := He.free_ok X G (c.fact 85 (f := .free "reversed") rfl), isinstance := He.free_ok X G (c.fact 86 (f := .free "isinstance") rfl), bool := He.free_ok X G (c.fact 87 (f := .free "bool") rfl), most := He.int_ok X G (c.fact 89 (f := .int "MOST" 400) rfl) }
  have zx := He.exc_ok (c.fact 0 (f := .exc "ZeroDivisor") rfl)
  have Z : ZdT K mg CZ := ⟨He.glo_ok X G (c.fact 69 (f := .glo "ZeroDivisor") rfl), zx.2.1, zx.2.2.1, zx.2.2.2, He.exm_ok (c.fact 1 (f := .exm "ZeroDivisor" "ZeroDivisor" true) rfl), _, _, _, _, PySem.F.excBase_ValueError, zx.1⟩
  have I : IsF K mg L := ⟨He.glo_ok X G (c.fact 68 (f := .glo "Field") rfl), E.cl, E.sp, E.tk, E.mr⟩
  obtain ⟨d_Field_m_members, F_Field_m_members⟩ := c.def_ 67 (d := ds_Field_m_members) rfl
  replace F_Field_m_members : FunS K "members" "Field.members" s_Field_m_members (He.ma K (He.ga K "Field") "members") d_Field_m_members := F_Field_m_members
  have oM : GnC K L := ⟨_, _, He.meth_ok (c.fact 125 (f := .meth "Field" "members") rfl), (F_Field_m_members.bindsN fun _ _ _ _ _ _ us hl => match us, hl with | [_], _ => rfl), F_Field_m_members⟩
  obtain ⟨d_divided, F_divided⟩ := c.def_ 53 (d := ds_divided) rfl
  replace F_divided : FunS K "divided" "divided" s_divided (He.ga K "divided") d_divided := F_divided
  have ct_divided : CodeT base mg L d_divided.code ("divided" ++ ".<locals>." ++ "<lambda>") := by
    obtain ⟨oc, od, dV, kV, doc, pm, an, cdv, ct, osl, e1, lk, _⟩ := F_divided.ex
    refine ⟨_, _, cRf_ok (p := pDi) E.c1 lk, T1, ?_⟩
    exact ⟨List.mem_cons_self .., fun p hp z => by
      rcases List.mem_cons.mp hp with e | hp
      · rw [e]
      · rw [List.mem_singleton.mp hp] at z
        exact absurd z.symm E.nt⟩
  obtain ⟨d_factors, F_factors⟩ := c.def_ 54 (d := ds_factors) rfl
  replace F_factors : FunS K "factors" "factors" s_factors (He.ga K "factors") d_factors := F_factors
  have ct_factors : CodeT base mg L d_factors.code ("factors" ++ ".<locals>." ++ "<lambda>") := by
    obtain ⟨oc, od, dV, kV, doc, pm, an, cdv, ct, osl, e1, lk, _⟩ := F_factors.ex
    refine ⟨_, _, cRf_ok (p := pFa) E.c2 lk, T2, ?_⟩
    exact ⟨List.mem_cons_of_mem _ (List.mem_cons_self ..), fun p hp z => by
      rcases List.mem_cons.mp hp with e | hp
      · rw [e] at z
        exact absurd z E.nt
      · rw [List.mem_singleton.mp hp]⟩
  obtain ⟨d_is_integer, F_is_integer⟩ := c.def_ 4 (d := ds_is_integer) rfl
  replace F_is_integer : FunS K "is_integer" "is_integer" s_is_integer (He.ga K "is_integer") d_is_integer := F_is_integer
  have o_is_integer : FnC P w K mg base L "is_integer" 1 ["value"] R_is_integer := ⟨_, _, He.glo_ok X G (c.fact 6 (f := .glo "is_integer") rfl), F_is_integer.kp, (F_is_integer.bindsN fun _ _ _ _ _ _ us hl => match us, hl with | [_], _ => rfl), ok_is_integer T F_is_integer⟩
  obtain ⟨d_prime_powers, F_prime_powers⟩ := c.def_ 5 (d := ds_prime_powers) rfl
  replace F_prime_powers : FunS K "prime_powers" "prime_powers" s_prime_powers (He.ga K "prime_powers") d_prime_powers := F_prime_powers
  have o_prime_powers : FnC P w K mg base L "prime_powers" 1 ["n"] R_prime_powers := ⟨_, _, He.glo_ok X G (c.fact 7 (f := .glo "prime_powers") rfl), F_prime_powers.kp, (F_prime_powers.bindsN fun _ _ _ _ _ _ us hl => match us, hl with | [_], _ => rfl), ok_prime_powers T F_prime_powers⟩
  obtain ⟨d_is_prime, F_is_prime⟩ := c.def_ 6 (d := ds_is_prime) rfl
  replace F_is_prime : FunS K "is_prime" "is_prime" s_is_prime (He.ga K "is_prime") d_is_prime := F_is_prime
  have o_is_prime : FnC P w K mg base L "is_prime" 2 ["n"] R_is_prime := ⟨_, _, He.glo_ok X G (c.fact 8 (f := .glo "is_prime") rfl), F_is_prime.kp, (F_is_prime.bindsN fun _ _ _ _ _ _ us hl => match us, hl with | [_], _ => rfl), ok_is_prime T o_prime_powers F_is_prime⟩
  obtain ⟨d_inverse_modulo, F_inverse_modulo⟩ := c.def_ 7 (d := ds_inverse_modulo) rfl
  replace F_inverse_modulo : FunS K "inverse_modulo" "inverse_modulo" s_inverse_modulo (He.ga K "inverse_modulo") d_inverse_modulo := F_inverse_modulo
  have o_inverse_modulo : FnC P w K mg base L "inverse_modulo" 1 ["a", "p"] R_inverse_modulo := ⟨_, _, He.glo_ok X G (c.fact 9 (f := .glo "inverse_modulo") rfl), F_inverse_modulo.kp, (F_inverse_modulo.bindsN fun _ _ _ _ _ _ us hl => match us, hl with | [_, _], _ => rfl), ok_inverse_modulo T F_inverse_modulo⟩
  obtain ⟨d_trimmed, F_trimmed⟩ := c.def_ 8 (d := ds_trimmed) rfl
  replace F_trimmed : FunS K "trimmed" "trimmed" s_trimmed (He.ga K "trimmed") d_trimmed := F_trimmed
  have o_trimmed : FnC P w K mg base L "trimmed" 1 ["row", "p"] R_trimmed := ⟨_, _, He.glo_ok X G (c.fact 10 (f := .glo "trimmed") rfl), F_trimmed.kp, (F_trimmed.bindsN fun _ _ _ _ _ _ us hl => match us, hl with | [_, _], _ => rfl), ok_trimmed T F_trimmed⟩
  obtain ⟨d_member_of, F_member_of⟩ := c.def_ 17 (d := ds_member_of) rfl
  replace F_member_of : FunS K "member_of" "member_of" s_member_of (He.ga K "member_of") d_member_of := F_member_of
  have o_member_of : FnC P w K mg base L "member_of" 1 ["row", "n"] R_member_of := ⟨_, _, He.glo_ok X G (c.fact 19 (f := .glo "member_of") rfl), F_member_of.kp, (F_member_of.bindsN fun _ _ _ _ _ _ us hl => match us, hl with | [_, _], _ => rfl), ok_member_of T F_member_of⟩
  obtain ⟨d_member_sum, F_member_sum⟩ := c.def_ 18 (d := ds_member_sum) rfl
  replace F_member_sum : FunS K "member_sum" "member_sum" s_member_sum (He.ga K "member_sum") d_member_sum := F_member_sum
  have o_member_sum : FnC P w K mg base L "member_sum" 1 ["a", "b", "p"] R_member_sum := ⟨_, _, He.glo_ok X G (c.fact 20 (f := .glo "member_sum") rfl), F_member_sum.kp, (F_member_sum.bindsN fun _ _ _ _ _ _ us hl => match us, hl with | [_, _, _], _ => rfl), ok_member_sum T F_member_sum⟩
  obtain ⟨d_member_negative, F_member_negative⟩ := c.def_ 19 (d := ds_member_negative) rfl
  replace F_member_negative : FunS K "member_negative" "member_negative" s_member_negative (He.ga K "member_negative") d_member_negative := F_member_negative
  have o_member_negative : FnC P w K mg base L "member_negative" 1 ["a", "p"] R_member_negative := ⟨_, _, He.glo_ok X G (c.fact 21 (f := .glo "member_negative") rfl), F_member_negative.kp, (F_member_negative.bindsN fun _ _ _ _ _ _ us hl => match us, hl with | [_, _], _ => rfl), ok_member_negative T F_member_negative⟩
  obtain ⟨d_is_member_row, F_is_member_row⟩ := c.def_ 16 (d := ds_is_member_row) rfl
  replace F_is_member_row : FunS K "is_member_row" "is_member_row" s_is_member_row (He.ga K "is_member_row") d_is_member_row := F_is_member_row
  have o_is_member_row : FnC P w K mg base L "is_member_row" 2 ["value", "n", "p"] R_is_member_row := ⟨_, _, He.glo_ok X G (c.fact 18 (f := .glo "is_member_row") rfl), F_is_member_row.kp, (F_is_member_row.bindsN fun _ _ _ _ _ _ us hl => match us, hl with | [_, _, _], _ => rfl), ok_is_member_row T o_is_integer F_is_member_row⟩
  obtain ⟨d_add_rows, F_add_rows⟩ := c.def_ 9 (d := ds_add_rows) rfl
  replace F_add_rows : FunS K "add_rows" "add_rows" s_add_rows (He.ga K "add_rows") d_add_rows := F_add_rows
  have o_add_rows : FnC P w K mg base L "add_rows" 2 ["a", "b", "p"] R_add_rows := ⟨_, _, He.glo_ok X G (c.fact 11 (f := .glo "add_rows") rfl), F_add_rows.kp, (F_add_rows.bindsN fun _ _ _ _ _ _ us hl => match us, hl with | [_, _, _], _ => rfl), ok_add_rows T o_trimmed F_add_rows⟩
  obtain ⟨d_subtract_rows, F_subtract_rows⟩ := c.def_ 10 (d := ds_subtract_rows) rfl
  replace F_subtract_rows : FunS K "subtract_rows" "subtract_rows" s_subtract_rows (He.ga K "subtract_rows") d_subtract_rows := F_subtract_rows
  have o_subtract_rows : FnC P w K mg base L "subtract_rows" 3 ["a", "b", "p"] R_subtract_rows := ⟨_, _, He.glo_ok X G (c.fact 12 (f := .glo "subtract_rows") rfl), F_subtract_rows.kp, (F_subtract_rows.bindsN fun _ _ _ _ _ _ us hl => match us, hl with | [_, _, _], _ => rfl), ok_subtract_rows T o_add_rows F_subtract_rows⟩
  obtain ⟨d_multiply_rows, F_multiply_rows⟩ := c.def_ 11 (d := ds_multiply_rows) rfl
  replace F_multiply_rows : FunS K "multiply_rows" "multiply_rows" s_multiply_rows (He.ga K "multiply_rows") d_multiply_rows := F_multiply_rows
  have o_multiply_rows : FnC P w K mg base L "multiply_rows" 2 ["a", "b", "p"] R_multiply_rows := ⟨_, _, He.glo_ok X G (c.fact 13 (f := .glo "multiply_rows") rfl), F_multiply_rows.kp, (F_multiply_rows.bindsN fun _ _ _ _ _ _ us hl => match us, hl with | [_, _, _], _ => rfl), ok_multiply_rows T o_trimmed F_multiply_rows⟩
  obtain ⟨d_divide_rows, F_divide_rows⟩ := c.def_ 12 (d := ds_divide_rows) rfl
  replace F_divide_rows : FunS K "divide_rows" "divide_rows" s_divide_rows (He.ga K "divide_rows") d_divide_rows := F_divide_rows
  have o_divide_rows : FnC P w K mg base L "divide_rows" 2 ["a", "b", "p"] R_divide_rows := ⟨_, _, He.glo_ok X G (c.fact 14 (f := .glo "divide_rows") rfl), F_divide_rows.kp, (F_divide_rows.bindsN fun _ _ _ _ _ _ us hl => match us, hl with | [_, _, _], _ => rfl), ok_divide_rows T o_trimmed o_inverse_modulo F_divide_rows⟩
  obtain ⟨d_common_row, F_common_row⟩ := c.def_ 13 (d := ds_common_row) rfl
  replace F_common_row : FunS K "common_row" "common_row" s_common_row (He.ga K "common_row") d_common_row := F_common_row
  have o_common_row : FnC P w K mg base L "common_row" 3 ["a", "b", "p"] R_common_row := ⟨_, _, He.glo_ok X G (c.fact 15 (f := .glo "common_row") rfl), F_common_row.kp, (F_common_row.bindsN fun _ _ _ _ _ _ us hl => match us, hl with | [_, _, _], _ => rfl), ok_common_row T o_divide_rows o_inverse_modulo o_multiply_rows F_common_row⟩
  obtain ⟨d_power_row, F_power_row⟩ := c.def_ 14 (d := ds_power_row) rfl
  replace F_power_row : FunS K "power_row" "power_row" s_power_row (He.ga K "power_row") d_power_row := F_power_row
  have o_power_row : FnC P w K mg base L "power_row" 3 ["a", "k", "m", "p"] R_power_row := ⟨_, _, He.glo_ok X G (c.fact 16 (f := .glo "power_row") rfl), F_power_row.kp, (F_power_row.bindsN fun _ _ _ _ _ _ us hl => match us, hl with | [_, _, _, _], _ => rfl), ok_power_row T o_divide_rows o_multiply_rows F_power_row⟩
  obtain ⟨d_is_irreducible_row, F_is_irreducible_row⟩ := c.def_ 15 (d := ds_is_irreducible_row) rfl
  replace F_is_irreducible_row : FunS K "is_irreducible_row" "is_irreducible_row" s_is_irreducible_row (He.ga K "is_irreducible_row") d_is_irreducible_row := F_is_irreducible_row
  have o_is_irreducible_row : FnC P w K mg base L "is_irreducible_row" 4 ["m", "p"] R_is_irreducible_row := ⟨_, _, He.glo_ok X G (c.fact 17 (f := .glo "is_irreducible_row") rfl), F_is_irreducible_row.kp, (F_is_irreducible_row.bindsN fun _ _ _ _ _ _ us hl => match us, hl with | [_, _], _ => rfl), ok_is_irreducible_row T o_divide_rows o_power_row o_common_row o_subtract_rows F_is_irreducible_row⟩
  obtain ⟨d_member_product, F_member_product⟩ := c.def_ 20 (d := ds_member_product) rfl
  replace F_member_product : FunS K "member_product" "member_product" s_member_product (He.ga K "member_product") d_member_product := F_member_product
  have o_member_product : FnC P w K mg base L "member_product" 3 ["a", "b", "modulus", "p"] R_member_product := ⟨_, _, He.glo_ok X G (c.fact 22 (f := .glo "member_product") rfl), F_member_product.kp, (F_member_product.bindsN fun _ _ _ _ _ _ us hl => match us, hl with | [_, _, _, _], _ => rfl), ok_member_product T o_trimmed o_divide_rows o_multiply_rows o_member_of F_member_product⟩
  obtain ⟨d_member_inverse, F_member_inverse⟩ := c.def_ 21 (d := ds_member_inverse) rfl
  replace F_member_inverse : FunS K "member_inverse" "member_inverse" s_member_inverse (He.ga K "member_inverse") d_member_inverse := F_member_inverse
  have o_member_inverse : FnC P w K mg base L "member_inverse" 4 ["a", "modulus", "p"] R_member_inverse := ⟨_, _, He.glo_ok X G (c.fact 23 (f := .glo "member_inverse") rfl), F_member_inverse.kp, (F_member_inverse.bindsN fun _ _ _ _ _ _ us hl => match us, hl with | [_, _, _], _ => rfl), ok_member_inverse T o_trimmed o_divide_rows o_multiply_rows o_member_of o_subtract_rows o_inverse_modulo F_member_inverse⟩
  obtain ⟨d__trimmed, F__trimmed⟩ := c.def_ 22 (d := ds__trimmed) rfl
  replace F__trimmed : FunS K "_trimmed" "_trimmed" s__trimmed (He.ga K "_trimmed") d__trimmed := F__trimmed
  have o__trimmed : FnC P w K mg base L "_trimmed" 2 ["row", "field"] R__trimmed := ⟨_, _, He.glo_ok X G (c.fact 24 (f := .glo "_trimmed") rfl), F__trimmed.kp, (F__trimmed.bindsN fun _ _ _ _ _ _ us hl => match us, hl with | [_, _], _ => rfl), ok__trimmed T o_member_of F__trimmed⟩
  obtain ⟨d__add, F__add⟩ := c.def_ 23 (d := ds__add) rfl
  replace F__add : FunS K "_add" "_add" s__add (He.ga K "_add") d__add := F__add
  have o__add : FnC P w K mg base L "_add" 2 ["a", "b", "field"] R__add := ⟨_, _, He.glo_ok X G (c.fact 25 (f := .glo "_add") rfl), F__add.kp, (F__add.bindsN fun _ _ _ _ _ _ us hl => match us, hl with | [_, _, _], _ => rfl), ok__add T o_member_of o_member_sum F__add⟩
  obtain ⟨d__negative, F__negative⟩ := c.def_ 24 (d := ds__negative) rfl
  replace F__negative : FunS K "_negative" "_negative" s__negative (He.ga K "_negative") d__negative := F__negative
  have o__negative : FnC P w K mg base L "_negative" 2 ["a", "field"] R__negative := ⟨_, _, He.glo_ok X G (c.fact 26 (f := .glo "_negative") rfl), F__negative.kp, (F__negative.bindsN fun _ _ _ _ _ _ us hl => match us, hl with | [_, _], _ => rfl), ok__negative T o_member_negative F__negative⟩
  obtain ⟨d__checked_modulus, F__checked_modulus⟩ := c.def_ 55 (d := ds__checked_modulus) rfl
  replace F__checked_modulus : FunS K "_checked_modulus" "_checked_modulus" s__checked_modulus (He.ga K "_checked_modulus") d__checked_modulus := F__checked_modulus
  have o_checked_modulus : FnC P w K mg base L "_checked_modulus" 5 ["p", "modulus"] R_checked_modulus := ⟨_, _, He.glo_ok X G (c.fact 43 (f := .glo "_checked_modulus") rfl), F__checked_modulus.kp, (F__checked_modulus.bindsN fun _ _ _ _ _ _ us hl => match us, hl with | [_, _], _ => rfl), ok_checked_modulus T o_is_integer o_is_irreducible_row F__checked_modulus⟩
  obtain ⟨d_Field_mu_initu, F_Field_mu_initu⟩ := c.def_ 56 (d := ds_Field_m___init__) rfl
  have B_init : L2.Binds K d_Field_mu_initu ["self", "p", "modulus"] [] := by
    obtain ⟨ds, hv, hb⟩ := F_Field_mu_initu.binds1 (ps := ["self", "p", "modulus"]) 3 1 (fun z => by cases z) rfl fun _ _ _ _ _ _ _ us its hu hi => match us, its, hu, hi with | [_, _, _], [_], _, _ => ⟨_, rfl, rfl⟩
    cases hv
    exact hb
  have o_F_init : MkC P w K mg base L "Field" L.CF 6 ["self", "p", "modulus"] R_Field := ⟨_, _, He.mkr_ok (c.fact 93 (f := .mkr "Field") rfl), He.glo_ok X G (c.fact 68 (f := .glo "Field") rfl), B_init, ok_F_init T o_is_integer o_is_prime o_checked_modulus F_Field_mu_initu⟩
  obtain ⟨d__multiply, F__multiply⟩ := c.def_ 25 (d := ds__multiply) rfl
  replace F__multiply : FunS K "_multiply" "_multiply" s__multiply (He.ga K "_multiply") d__multiply := F__multiply
  have o__multiply : FnC P w K mg base L "_multiply" 4 ["a", "b", "field"] R__multiply := ⟨_, _, He.glo_ok X G (c.fact 27 (f := .glo "_multiply") rfl), F__multiply.kp, (F__multiply.bindsN fun _ _ _ _ _ _ us hl => match us, hl with | [_, _, _], _ => rfl), ok__multiply T o_member_of o_member_sum o_member_product F__multiply⟩
  obtain ⟨d__divide, F__divide⟩ := c.def_ 26 (d := ds__divide) rfl
  replace F__divide : FunS K "_divide" "_divide" s__divide (He.ga K "_divide") d__divide := F__divide
  have o__divide : FnC P w K mg base L "_divide" 5 ["a", "b", "field"] R__divide := ⟨_, _, He.glo_ok X G (c.fact 28 (f := .glo "_divide") rfl), F__divide.kp, (F__divide.bindsN fun _ _ _ _ _ _ us hl => match us, hl with | [_, _, _], _ => rfl), ok__divide T o_member_of o_member_sum o_member_product o_member_negative o_member_inverse F__divide⟩
  obtain ⟨d_Field_mu_equ, F_Field_mu_equ⟩ := c.def_ 57 (d := ds_Field_m___eq__) rfl
  replace F_Field_mu_equ : FunS K "__eq__" "Field.__eq__" s_Field_m___eq__ (He.ma K (He.ga K "Field") "__eq__") d_Field_mu_equ := F_Field_mu_equ
  have o_F_eq : NeC P w K mg base L := ⟨_, _, ⟨E.mr, E.ne, (He.meth_ok (c.fact 115 (f := .meth "Field" "__eq__") rfl)).at_, (He.meth_ok (c.fact 115 (f := .meth "Field" "__eq__") rfl)).fn⟩, (F_Field_mu_equ.bindsN fun _ _ _ _ _ _ us hl => match us, hl with | [_, _], _ => rfl), ok_F_eq T I F_Field_mu_equ⟩
  obtain ⟨d_Field_m_integer, F_Field_m_integer⟩ := c.def_ 58 (d := ds_Field_m_integer) rfl
  replace F_Field_m_integer : FunS K "integer" "Field.integer" s_Field_m_integer (He.ma K (He.ga K "Field") "integer") d_Field_m_integer := F_Field_m_integer
  have o_F_integer : MtC P w K mg base L L.CF "integer" 2 ["self", "k"] R_F_integer := ⟨_, _, He.meth_ok (c.fact 116 (f := .meth "Field" "integer") rfl), (F_Field_m_integer.bindsN fun _ _ _ _ _ _ us hl => match us, hl with | [_, _], _ => rfl), ok_F_integer T o_member_of F_Field_m_integer⟩
  obtain ⟨d_Field_m_zero, F_Field_m_zero⟩ := c.def_ 59 (d := ds_Field_m_zero) rfl
  replace F_Field_m_zero : FunS K "zero" "Field.zero" s_Field_m_zero (He.ma K (He.ga K "Field") "zero") d_Field_m_zero := F_Field_m_zero
  have o_F_zero : MtC P w K mg base L L.CF "zero" 3 ["self"] R_F_zero := ⟨_, _, He.meth_ok (c.fact 117 (f := .meth "Field" "zero") rfl), (F_Field_m_zero.bindsN fun _ _ _ _ _ _ us hl => match us, hl with | [_], _ => rfl), ok_F_zero T o_F_integer F_Field_m_zero⟩
  obtain ⟨d_Field_m_one, F_Field_m_one⟩ := c.def_ 60 (d := ds_Field_m_one) rfl
  replace F_Field_m_one : FunS K "one" "Field.one" s_Field_m_one (He.ma K (He.ga K "Field") "one") d_Field_m_one := F_Field_m_one
  have o_F_one : MtC P w K mg base L L.CF "one" 3 ["self"] R_F_one := ⟨_, _, He.meth_ok (c.fact 118 (f := .meth "Field" "one") rfl), (F_Field_m_one.bindsN fun _ _ _ _ _ _ us hl => match us, hl with | [_], _ => rfl), ok_F_one T o_F_integer F_Field_m_one⟩
  obtain ⟨d_Field_m_add, F_Field_m_add⟩ := c.def_ 61 (d := ds_Field_m_add) rfl
  replace F_Field_m_add : FunS K "add" "Field.add" s_Field_m_add (He.ma K (He.ga K "Field") "add") d_Field_m_add := F_Field_m_add
  have o_F_add : MtC P w K mg base L L.CF "add" 2 ["self", "a", "b"] R_F_add := ⟨_, _, He.meth_ok (c.fact 119 (f := .meth "Field" "add") rfl), (F_Field_m_add.bindsN fun _ _ _ _ _ _ us hl => match us, hl with | [_, _, _], _ => rfl), ok_F_add T o_member_sum F_Field_m_add⟩
  obtain ⟨d_Field_m_negative, F_Field_m_negative⟩ := c.def_ 62 (d := ds_Field_m_negative) rfl
  replace F_Field_m_negative : FunS K "negative" "Field.negative" s_Field_m_negative (He.ma K (He.ga K "Field") "negative") d_Field_m_negative := F_Field_m_negative
  have o_F_negative : MtC P w K mg base L L.CF "negative" 2 ["self", "a"] R_F_negative := ⟨_, _, He.meth_ok (c.fact 120 (f := .meth "Field" "negative") rfl), (F_Field_m_negative.bindsN fun _ _ _ _ _ _ us hl => match us, hl with | [_, _], _ => rfl), ok_F_negative T o_member_negative F_Field_m_negative⟩
  obtain ⟨d_Field_m_multiply, F_Field_m_multiply⟩ := c.def_ 63 (d := ds_Field_m_multiply) rfl
  replace F_Field_m_multiply : FunS K "multiply" "Field.multiply" s_Field_m_multiply (He.ma K (He.ga K "Field") "multiply") d_Field_m_multiply := F_Field_m_multiply
  have o_F_multiply : MtC P w K mg base L L.CF "multiply" 4 ["self", "a", "b"] R_F_multiply := ⟨_, _, He.meth_ok (c.fact 121 (f := .meth "Field" "multiply") rfl), (F_Field_m_multiply.bindsN fun _ _ _ _ _ _ us hl => match us, hl with | [_, _, _], _ => rfl), ok_F_multiply T o_member_product F_Field_m_multiply⟩
  obtain ⟨d_Field_m_inverse, F_Field_m_inverse⟩ := c.def_ 64 (d := ds_Field_m_inverse) rfl
  replace F_Field_m_inverse : FunS K "inverse" "Field.inverse" s_Field_m_inverse (He.ma K (He.ga K "Field") "inverse") d_Field_m_inverse := F_Field_m_inverse
  have o_F_inverse : MtC P w K mg base L L.CF "inverse" 5 ["self", "a"] R_F_inverse := ⟨_, _, He.meth_ok (c.fact 122 (f := .meth "Field" "inverse") rfl), (F_Field_m_inverse.bindsN fun _ _ _ _ _ _ us hl => match us, hl with | [_, _], _ => rfl), ok_F_inverse T o_member_inverse F_Field_m_inverse⟩
  obtain ⟨d_Field_m_power, F_Field_m_power⟩ := c.def_ 65 (d := ds_Field_m_power) rfl
  replace F_Field_m_power : FunS K "power" "Field.power" s_Field_m_power (He.ma K (He.ga K "Field") "power") d_Field_m_power := F_Field_m_power
  have o_F_power : MtC P w K mg base L L.CF "power" 5 ["self", "a", "k"] R_F_power := ⟨_, _, He.meth_ok (c.fact 123 (f := .meth "Field" "power") rfl), (F_Field_m_power.bindsN fun _ _ _ _ _ _ us hl => match us, hl with | [_, _, _], _ => rfl), ok_F_power T o_F_zero o_F_one o_F_multiply F_Field_m_power⟩
  obtain ⟨d_Field_m_member, F_Field_m_member⟩ := c.def_ 66 (d := ds_Field_m_member) rfl
  replace F_Field_m_member : FunS K "member" "Field.member" s_Field_m_member (He.ma K (He.ga K "Field") "member") d_Field_m_member := F_Field_m_member
  have o_F_member : MtC P w K mg base L L.CF "member" 2 ["self", "number"] R_F_member := ⟨_, _, He.meth_ok (c.fact 124 (f := .meth "Field" "member") rfl), (F_Field_m_member.bindsN fun _ _ _ _ _ _ us hl => match us, hl with | [_, _], _ => rfl), ok_F_member T o_is_integer F_Field_m_member⟩
  obtain ⟨d_Poly_mu_initu, F_Poly_mu_initu⟩ := c.def_ 27 (d := ds_Poly_m___init__) rfl
  replace F_Poly_mu_initu : FunS K "__init__" "Poly.__init__" s_Poly_m___init__ (He.ma K (He.ga K "Poly") "__init__") d_Poly_mu_initu := F_Poly_mu_initu
  have o_P_init : MkC P w K mg base L "Poly" L.CP 3 ["self", "field", "row"] R_Poly := ⟨_, _, He.mkr_ok (c.fact 92 (f := .mkr "Poly") rfl), He.glo_ok X G (c.fact 67 (f := .glo "Poly") rfl), (F_Poly_mu_initu.bindsN fun _ _ _ _ _ _ us hl => match us, hl with | [_, _, _], _ => rfl), ok_P_init T o_is_member_row o__trimmed F_Poly_mu_initu⟩
  obtain ⟨d_Poly_mu_subu, F_Poly_mu_subu⟩ := c.def_ 28 (d := ds_Poly_m___sub__) rfl
  replace F_Poly_mu_subu : FunS K "__sub__" "Poly.__sub__" s_Poly_m___sub__ (He.ma K (He.ga K "Poly") "__sub__") d_Poly_mu_subu := F_Poly_mu_subu
  have o_P_sub : OpC P w K mg base L .Sub 5 ["self", "other"] R_P_sub := ⟨_, _, ⟨E.sf, (He.meth_ok (c.fact 101 (f := .meth "Poly" "__sub__") rfl)).at_, (He.meth_ok (c.fact 101 (f := .meth "Poly" "__sub__") rfl)).fn⟩, (F_Poly_mu_subu.bindsN fun _ _ _ _ _ _ us hl => match us, hl with | [_, _], _ => rfl), ok_P_sub T o_F_eq o_P_init o__add o__negative F_Poly_mu_subu⟩
  obtain ⟨d_Poly_mu_mulu, F_Poly_mu_mulu⟩ := c.def_ 29 (d := ds_Poly_m___mul__) rfl
  replace F_Poly_mu_mulu : FunS K "__mul__" "Poly.__mul__" s_Poly_m___mul__ (He.ma K (He.ga K "Poly") "__mul__") d_Poly_mu_mulu := F_Poly_mu_mulu
  have o_P_mul : OpC P w K mg base L .Mult 5 ["self", "other"] R_P_mul := ⟨_, _, ⟨E.sf, (He.meth_ok (c.fact 102 (f := .meth "Poly" "__mul__") rfl)).at_, (He.meth_ok (c.fact 102 (f := .meth "Poly" "__mul__") rfl)).fn⟩, (F_Poly_mu_mulu.bindsN fun _ _ _ _ _ _ us hl => match us, hl with | [_, _], _ => rfl), ok_P_mul T o_F_eq o_P_init o__multiply F_Poly_mu_mulu⟩
  obtain ⟨d_Poly_mu_floordivu, F_Poly_mu_floordivu⟩ := c.def_ 30 (d := ds_Poly_m___floordiv__) rfl
  replace F_Poly_mu_floordivu : FunS K "__floordiv__" "Poly.__floordiv__" s_Poly_m___floordiv__ (He.ma K (He.ga K "Poly") "__floordiv__") d_Poly_mu_floordivu := F_Poly_mu_floordivu
  have o_P_fdiv : OpC P w K mg base L .FloorDiv 6 ["self", "other"] R_P_fdiv := ⟨_, _, ⟨E.sf, (He.meth_ok (c.fact 103 (f := .meth "Poly" "__floordiv__") rfl)).at_, (He.meth_ok (c.fact 103 (f := .meth "Poly" "__floordiv__") rfl)).fn⟩, (F_Poly_mu_floordivu.bindsN fun _ _ _ _ _ _ us hl => match us, hl with | [_, _], _ => rfl), ok_P_fdiv T o_F_eq o_P_init o__divide F_Poly_mu_floordivu⟩
  obtain ⟨d_Poly_mu_modu, F_Poly_mu_modu⟩ := c.def_ 31 (d := ds_Poly_m___mod__) rfl
  replace F_Poly_mu_modu : FunS K "__mod__" "Poly.__mod__" s_Poly_m___mod__ (He.ma K (He.ga K "Poly") "__mod__") d_Poly_mu_modu := F_Poly_mu_modu
  have o_P_mod : OpC P w K mg base L .Mod 6 ["self", "other"] R_P_mod := ⟨_, _, ⟨E.sf, (He.meth_ok (c.fact 104 (f := .meth "Poly" "__mod__") rfl)).at_, (He.meth_ok (c.fact 104 (f := .meth "Poly" "__mod__") rfl)).fn⟩, (F_Poly_mu_modu.bindsN fun _ _ _ _ _ _ us hl => match us, hl with | [_, _], _ => rfl), ok_P_mod T o_F_eq o_P_init o__divide F_Poly_mu_modu⟩
  obtain ⟨d_Poly_m_degree, F_Poly_m_degree⟩ := c.def_ 32 (d := ds_Poly_m_degree) rfl
  replace F_Poly_m_degree : FunS K "degree" "Poly.degree" s_Poly_m_degree (He.ma K (He.ga K "Poly") "degree") d_Poly_m_degree := F_Poly_m_degree
  have o_P_degree : MtC P w K mg base L L.CP "degree" 1 ["self"] R_P_degree := ⟨_, _, He.meth_ok (c.fact 105 (f := .meth "Poly" "degree") rfl), (F_Poly_m_degree.bindsN fun _ _ _ _ _ _ us hl => match us, hl with | [_], _ => rfl), ok_P_degree T F_Poly_m_degree⟩
  obtain ⟨d_Poly_m_is_zero, F_Poly_m_is_zero⟩ := c.def_ 33 (d := ds_Poly_m_is_zero) rfl
  replace F_Poly_m_is_zero : FunS K "is_zero" "Poly.is_zero" s_Poly_m_is_zero (He.ma K (He.ga K "Poly") "is_zero") d_Poly_m_is_zero := F_Poly_m_is_zero
  have o_P_is_zero : MtC P w K mg base L L.CP "is_zero" 1 ["self"] R_P_is_zero := ⟨_, _, He.meth_ok (c.fact 106 (f := .meth "Poly" "is_zero") rfl), (F_Poly_m_is_zero.bindsN fun _ _ _ _ _ _ us hl => match us, hl with | [_], _ => rfl), ok_P_is_zero T F_Poly_m_is_zero⟩
  obtain ⟨d_Poly_m_leading, F_Poly_m_leading⟩ := c.def_ 34 (d := ds_Poly_m_leading) rfl
  replace F_Poly_m_leading : FunS K "leading" "Poly.leading" s_Poly_m_leading (He.ma K (He.ga K "Poly") "leading") d_Poly_m_leading := F_Poly_m_leading
  have o_P_leading : MtC P w K mg base L L.CP "leading" 2 ["self"] R_P_leading := ⟨_, _, He.meth_ok (c.fact 107 (f := .meth "Poly" "leading") rfl), (F_Poly_m_leading.bindsN fun _ _ _ _ _ _ us hl => match us, hl with | [_], _ => rfl), ok_P_leading T o_P_is_zero F_Poly_m_leading⟩
  obtain ⟨d_Poly_m_coefficient, F_Poly_m_coefficient⟩ := c.def_ 35 (d := ds_Poly_m_coefficient) rfl
  replace F_Poly_m_coefficient : FunS K "coefficient" "Poly.coefficient" s_Poly_m_coefficient (He.ma K (He.ga K "Poly") "coefficient") d_Poly_m_coefficient := F_Poly_m_coefficient
  have o_P_coefficient : MtC P w K mg base L L.CP "coefficient" 2 ["self", "k"] R_P_coefficient := ⟨_, _, He.meth_ok (c.fact 108 (f := .meth "Poly" "coefficient") rfl), (F_Poly_m_coefficient.bindsN fun _ _ _ _ _ _ us hl => match us, hl with | [_, _], _ => rfl), ok_P_coefficient T o_member_of F_Poly_m_coefficient⟩
  obtain ⟨d_Poly_m_scaled, F_Poly_m_scaled⟩ := c.def_ 36 (d := ds_Poly_m_scaled) rfl
  replace F_Poly_m_scaled : FunS K "scaled" "Poly.scaled" s_Poly_m_scaled (He.ma K (He.ga K "Poly") "scaled") d_Poly_m_scaled := F_Poly_m_scaled
  have o_P_scaled : MtC P w K mg base L L.CP "scaled" 5 ["self", "a"] R_P_scaled := ⟨_, _, He.meth_ok (c.fact 109 (f := .meth "Poly" "scaled") rfl), (F_Poly_m_scaled.bindsN fun _ _ _ _ _ _ us hl => match us, hl with | [_, _], _ => rfl), ok_P_scaled T o_P_init o_member_product F_Poly_m_scaled⟩
  obtain ⟨d_Poly_m_monic, F_Poly_m_monic⟩ := c.def_ 37 (d := ds_Poly_m_monic) rfl
  replace F_Poly_m_monic : FunS K "monic" "Poly.monic" s_Poly_m_monic (He.ma K (He.ga K "Poly") "monic") d_Poly_m_monic := F_Poly_m_monic
  have o_P_monic : MtC P w K mg base L L.CP "monic" 6 ["self"] R_P_monic := ⟨_, _, He.meth_ok (c.fact 110 (f := .meth "Poly" "monic") rfl), (F_Poly_m_monic.bindsN fun _ _ _ _ _ _ us hl => match us, hl with | [_], _ => rfl), ok_P_monic T o_P_is_zero o_P_scaled o_P_leading o_member_inverse F_Poly_m_monic⟩
  obtain ⟨d_Poly_m_derivative, F_Poly_m_derivative⟩ := c.def_ 38 (d := ds_Poly_m_derivative) rfl
  replace F_Poly_m_derivative : FunS K "derivative" "Poly.derivative" s_Poly_m_derivative (He.ma K (He.ga K "Poly") "derivative") d_Poly_m_derivative := F_Poly_m_derivative
  have o_P_derivative : MtC P w K mg base L L.CP "derivative" 5 ["self"] R_P_derivative := ⟨_, _, He.meth_ok (c.fact 111 (f := .meth "Poly" "derivative") rfl), (F_Poly_m_derivative.bindsN fun _ _ _ _ _ _ us hl => match us, hl with | [_], _ => rfl), ok_P_derivative T o_P_init F_Poly_m_derivative⟩
  obtain ⟨d_Poly_m_power_modulo, F_Poly_m_power_modulo⟩ := c.def_ 39 (d := ds_Poly_m_power_modulo) rfl
  replace F_Poly_m_power_modulo : FunS K "power_modulo" "Poly.power_modulo" s_Poly_m_power_modulo (He.ma K (He.ga K "Poly") "power_modulo") d_Poly_m_power_modulo := F_Poly_m_power_modulo
  have o_P_power_modulo : MtC P w K mg base L L.CP "power_modulo" 7 ["self", "k", "m"] R_P_power_modulo := ⟨_, _, He.meth_ok (c.fact 112 (f := .meth "Poly" "power_modulo") rfl), (F_Poly_m_power_modulo.bindsN fun _ _ _ _ _ _ us hl => match us, hl with | [_, _, _], _ => rfl), ok_P_power_modulo T o_P_init o_member_of o_P_mul o_P_mod F_Poly_m_power_modulo⟩
  obtain ⟨d_constant, F_constant⟩ := c.def_ 41 (d := ds_constant) rfl
  replace F_constant : FunS K "constant" "constant" s_constant (He.ga K "constant") d_constant := F_constant
  have o_constant : FnC P w K mg base L "constant" 5 ["field", "a"] R_constant := ⟨_, _, He.glo_ok X G (c.fact 29 (f := .glo "constant") rfl), F_constant.kp, (F_constant.bindsN fun _ _ _ _ _ _ us hl => match us, hl with | [_, _], _ => rfl), ok_constant T o_P_init F_constant⟩
  obtain ⟨d_monomial, F_monomial⟩ := c.def_ 42 (d := ds_monomial) rfl
  replace F_monomial : FunS K "monomial" "monomial" s_monomial (He.ga K "monomial") d_monomial := F_monomial
  have o_monomial : FnC P w K mg base L "monomial" 5 ["field", "a", "k"] R_monomial := ⟨_, _, He.glo_ok X G (c.fact 30 (f := .glo "monomial") rfl), F_monomial.kp, (F_monomial.bindsN fun _ _ _ _ _ _ us hl => match us, hl with | [_, _, _], _ => rfl), ok_monomial T o_P_init o_member_of F_monomial⟩
  obtain ⟨d_variable, F_variable⟩ := c.def_ 43 (d := ds_variable) rfl
  replace F_variable : FunS K "variable" "variable" s_variable (He.ga K "variable") d_variable := F_variable
  have o_variable : FnC P w K mg base L "variable" 6 ["field"] R_variable := ⟨_, _, He.glo_ok X G (c.fact 31 (f := .glo "variable") rfl), F_variable.kp, (F_variable.bindsN fun _ _ _ _ _ _ us hl => match us, hl with | [_], _ => rfl), ok_variable T o_member_of o_monomial F_variable⟩
  obtain ⟨d_common_divisor, F_common_divisor⟩ := c.def_ 44 (d := ds_common_divisor) rfl
  replace F_common_divisor : FunS K "common_divisor" "common_divisor" s_common_divisor (He.ga K "common_divisor") d_common_divisor := F_common_divisor
  have o_common_divisor : FnC P w K mg base L "common_divisor" 7 ["f", "g"] R_common_divisor := ⟨_, _, He.glo_ok X G (c.fact 32 (f := .glo "common_divisor") rfl), F_common_divisor.kp, (F_common_divisor.bindsN fun _ _ _ _ _ _ us hl => match us, hl with | [_, _], _ => rfl), ok_common_divisor T o_P_is_zero o_P_monic o_P_mod F_common_divisor⟩
  obtain ⟨d_Poly_m_key, F_Poly_m_key⟩ := c.def_ 40 (d := ds_Poly_m_key) rfl
  replace F_Poly_m_key : FunS K "key" "Poly.key" s_Poly_m_key (He.ma K (He.ga K "Poly") "key") d_Poly_m_key := F_Poly_m_key
  have o_P_key : MtC P w K mg base L L.CP "key" 1 ["self"] R_P_key := ⟨_, _, He.meth_ok (c.fact 113 (f := .meth "Poly" "key") rfl), (F_Poly_m_key.bindsN fun _ _ _ _ _ _ us hl => match us, hl with | [_], _ => rfl), ok_P_key T F_Poly_m_key⟩
  obtain ⟨d_subtract, F_subtract⟩ := c.def_ 0 (d := ds_subtract) rfl
  replace F_subtract : FunS K "subtract" "subtract" s_subtract (He.ga K "subtract") d_subtract := F_subtract
  have o_subtract : FnC P w K mg base L "subtract" 3 ["field", "a", "b"] R_subtract := ⟨_, _, He.glo_ok X G (c.fact 2 (f := .glo "subtract") rfl), F_subtract.kp, (F_subtract.bindsN fun _ _ _ _ _ _ us hl => match us, hl with | [_, _, _], _ => rfl), ok_subtract T o_F_add o_F_negative F_subtract⟩
  obtain ⟨d_cleared, F_cleared⟩ := c.def_ 1 (d := ds_cleared) rfl
  replace F_cleared : FunS K "cleared" "cleared" s_cleared (He.ga K "cleared") d_cleared := F_cleared
  have o_cleared : FnC P w K mg base L "cleared" 5 ["field", "row", "lead", "at"] R_cleared := ⟨_, _, He.glo_ok X G (c.fact 3 (f := .glo "cleared") rfl), F_cleared.kp, (F_cleared.bindsN fun _ _ _ _ _ _ us hl => match us, hl with | [_, _, _, _], _ => rfl), ok_cleared T o_subtract o_F_multiply F_cleared⟩
  obtain ⟨d_reduced, F_reduced⟩ := c.def_ 2 (d := ds_reduced) rfl
  replace F_reduced : FunS K "reduced" "reduced" s_reduced (He.ga K "reduced") d_reduced := F_reduced
  have o_reduced : FnC P w K mg base L "reduced" 6 ["field", "rows", "width"] R_reduced := ⟨_, _, He.glo_ok X G (c.fact 4 (f := .glo "reduced") rfl), F_reduced.kp, (F_reduced.bindsN fun _ _ _ _ _ _ us hl => match us, hl with | [_, _, _], _ => rfl), ok_reduced T o_cleared o_F_multiply o_F_zero o_F_inverse F_reduced⟩
  obtain ⟨d_kernel, F_kernel⟩ := c.def_ 3 (d := ds_kernel) rfl
  replace F_kernel : FunS K "kernel" "kernel" s_kernel (He.ga K "kernel") d_kernel := F_kernel
  have o_kernel : FnC P w K mg base L "kernel" 7 ["field", "rows", "width"] R_kernel := ⟨_, _, He.glo_ok X G (c.fact 5 (f := .glo "kernel") rfl), F_kernel.kp, (F_kernel.bindsN fun _ _ _ _ _ _ us hl => match us, hl with | [_, _, _], _ => rfl), ok_kernel T o_reduced o_F_zero o_F_one o_F_negative F_kernel⟩
  obtain ⟨d_is_squarefree, F_is_squarefree⟩ := c.def_ 45 (d := ds_is_squarefree) rfl
  replace F_is_squarefree : FunS K "is_squarefree" "is_squarefree" s_is_squarefree (He.ga K "is_squarefree") d_is_squarefree := F_is_squarefree
  have o_is_squarefree : FnC P w K mg base L "is_squarefree" 8 ["f"] R_is_squarefree := ⟨_, _, He.glo_ok X G (c.fact 33 (f := .glo "is_squarefree") rfl), F_is_squarefree.kp, (F_is_squarefree.bindsN fun _ _ _ _ _ _ us hl => match us, hl with | [_], _ => rfl), ok_is_squarefree T o_P_is_zero o_common_divisor o_P_derivative o_P_degree F_is_squarefree⟩
  obtain ⟨d_prime_root, F_prime_root⟩ := c.def_ 46 (d := ds_prime_root) rfl
  replace F_prime_root : FunS K "prime_root" "prime_root" s_prime_root (He.ga K "prime_root") d_prime_root := F_prime_root
  have o_prime_root : FnC P w K mg base L "prime_root" 6 ["f"] R_prime_root := ⟨_, _, He.glo_ok X G (c.fact 34 (f := .glo "prime_root") rfl), F_prime_root.kp, (F_prime_root.bindsN fun _ _ _ _ _ _ us hl => match us, hl with | [_], _ => rfl), ok_prime_root T o_P_init o_F_power o_P_coefficient o_P_degree F_prime_root⟩
  obtain ⟨d_parts_of, F_parts_of⟩ := c.def_ 47 (d := ds_parts_of) rfl
  replace F_parts_of : FunS K "parts_of" "parts_of" s_parts_of (He.ga K "parts_of") d_parts_of := F_parts_of
  have o_parts0 : FnC P w K mg base L "parts_of" 8 ["f"] (R_parts 0) := ⟨_, _, He.glo_ok X G (c.fact 35 (f := .glo "parts_of") rfl), F_parts_of.kp, (F_parts_of.bindsN fun _ _ _ _ _ _ us hl => match us, hl with | [_], _ => rfl), ok_parts0 T o_P_degree F_parts_of⟩
  obtain ⟨d__law_member, F__law_member⟩ := c.def_ 70 (d := ds__law_member) rfl
  replace F__law_member : FunS K "_law_member" "_law_member" s__law_member (He.ga K "_law_member") d__law_member := F__law_member
  have o_law_member : FnC P w K mg base L "_law_member" 1 ["_law_p", "_law_n", "_law_number_here"] R_law_member := ⟨_, _, He.glo_ok X G (c.fact 46 (f := .glo "_law_member") rfl), F__law_member.kp, (F__law_member.bindsN fun _ _ _ _ _ _ us hl => match us, hl with | [_, _, _], _ => rfl), ok_law_member T F__law_member⟩
  obtain ⟨d__law_zero, F__law_zero⟩ := c.def_ 77 (d := ds__law_zero) rfl
  replace F__law_zero : FunS K "_law_zero" "_law_zero" s__law_zero (He.ga K "_law_zero") d__law_zero := F__law_zero
  have o_law_zero : FnC P w K mg base L "_law_zero" 2 ["_law_field_here"] R_law_zero := ⟨_, _, He.glo_ok X G (c.fact 53 (f := .glo "_law_zero") rfl), F__law_zero.kp, (F__law_zero.bindsN fun _ _ _ _ _ _ us hl => match us, hl with | [_], _ => rfl), ok_law_zero T o_law_member F__law_zero⟩
  obtain ⟨d__law_one, F__law_one⟩ := c.def_ 78 (d := ds__law_one) rfl
  replace F__law_one : FunS K "_law_one" "_law_one" s__law_one (He.ga K "_law_one") d__law_one := F__law_one
  have o_law_one : FnC P w K mg base L "_law_one" 2 ["_law_field_here"] R_law_one := ⟨_, _, He.glo_ok X G (c.fact 54 (f := .glo "_law_one") rfl), F__law_one.kp, (F__law_one.bindsN fun _ _ _ _ _ _ us hl => match us, hl with | [_], _ => rfl), ok_law_one T o_law_member F__law_one⟩
  obtain ⟨d__law_minus, F__law_minus⟩ := c.def_ 76 (d := ds__law_minus) rfl
  replace F__law_minus : FunS K "_law_minus" "_law_minus" s__law_minus (He.ga K "_law_minus") d__law_minus := F__law_minus
  have o_law_minus : FnC P w K mg base L "_law_minus" 1 ["_law_field_here", "_law_a"] R_law_minus := ⟨_, _, He.glo_ok X G (c.fact 52 (f := .glo "_law_minus") rfl), F__law_minus.kp, (F__law_minus.bindsN fun _ _ _ _ _ _ us hl => match us, hl with | [_, _], _ => rfl), ok_law_minus T F__law_minus⟩
  obtain ⟨d__law_add, F__law_add⟩ := c.def_ 74 (d := ds__law_add) rfl
  replace F__law_add : FunS K "_law_add" "_law_add" s__law_add (He.ga K "_law_add") d__law_add := F__law_add
  have o_law_add : FnC P w K mg base L "_law_add" 1 ["_law_field_here", "_law_a", "_law_b"] R_law_add := ⟨_, _, He.glo_ok X G (c.fact 50 (f := .glo "_law_add") rfl), F__law_add.kp, (F__law_add.bindsN fun _ _ _ _ _ _ us hl => match us, hl with | [_, _, _], _ => rfl), ok_law_add T F__law_add⟩
  obtain ⟨d__law_count, F__law_count⟩ := c.def_ 83 (d := ds__law_count) rfl
  replace F__law_count : FunS K "_law_count" "_law_count" s__law_count (He.ga K "_law_count") d__law_count := F__law_count
  have o_law_count : FnC P w K mg base L "_law_count" 1 ["_law_field_here", "_law_degree"] R_law_count := ⟨_, _, He.glo_ok X G (c.fact 59 (f := .glo "_law_count") rfl), F__law_count.kp, (F__law_count.bindsN fun _ _ _ _ _ _ us hl => match us, hl with | [_, _], _ => rfl), ok_law_count T F__law_count⟩
  obtain ⟨d__law_monic, F__law_monic⟩ := c.def_ 82 (d := ds__law_monic) rfl
  replace F__law_monic : FunS K "_law_monic" "_law_monic" s__law_monic (He.ga K "_law_monic") d__law_monic := F__law_monic
  have o_law_monic : FnC P w K mg base L "_law_monic" 3 ["_law_field_here", "_law_degree", "_law_number_here"] R_law_monic := ⟨_, _, He.glo_ok X G (c.fact 58 (f := .glo "_law_monic") rfl), F__law_monic.kp, (F__law_monic.bindsN fun _ _ _ _ _ _ us hl => match us, hl with | [_, _, _], _ => rfl), ok_law_monic T o_law_member o_law_one F__law_monic⟩
  obtain ⟨d__law_next, F__law_next⟩ := c.def_ 69 (d := ds__law_next) rfl
  replace F__law_next : FunS K "_law_next" "_law_next" s__law_next (He.ga K "_law_next") d__law_next := F__law_next
  have o_law_next : FnN P w K mg base L "_law_next" 1 ["_law_numbers_here", "_law_many"] R_law_next := ⟨_, _, He.glo_ok X G (c.fact 45 (f := .glo "_law_next") rfl), F__law_next.kp, (F__law_next.bindsN fun _ _ _ _ _ _ us hl => match us, hl with | [_, _], _ => rfl), ok_law_next T F__law_next⟩
  obtain ⟨d__law_numbers, F__law_numbers⟩ := c.def_ 68 (d := ds__law_numbers) rfl
  replace F__law_numbers : FunS K "_law_numbers" "_law_numbers" s__law_numbers (He.ga K "_law_numbers") d__law_numbers := F__law_numbers
  have o_law_numbers : FnW P w K mg base L "_law_numbers" 1 ["_law_script"] (R_law_numbers K) := ⟨_, _, He.glo_ok X G (c.fact 44 (f := .glo "_law_numbers") rfl), F__law_numbers.kp, (F__law_numbers.bindsN fun _ _ _ _ _ _ us hl => match us, hl with | [_], _ => rfl), ok_law_numbers T F__law_numbers⟩
  obtain ⟨d_squarefree_parts, F_squarefree_parts⟩ := c.def_ 48 (d := ds_squarefree_parts) rfl
  replace F_squarefree_parts : FunS K "squarefree_parts" "squarefree_parts" s_squarefree_parts (He.ga K "squarefree_parts") d_squarefree_parts := F_squarefree_parts
  have o_squarefree_parts0 : FnZ P w K mg base L CZ "squarefree_parts" 2 ["f"] R_zero := ⟨_, _, He.glo_ok X G (c.fact 36 (f := .glo "squarefree_parts") rfl), F_squarefree_parts.kp, (F_squarefree_parts.bindsN fun _ _ _ _ _ _ us hl => match us, hl with | [_], _ => rfl), ok_squarefree_parts0 T Z o_P_is_zero F_squarefree_parts⟩
  have o_factors0 : FnZ P w K mg base L CZ "factors" 3 ["f"] R_zero := ⟨_, _, He.glo_ok X G (c.fact 42 (f := .glo "factors") rfl), F_factors.kp, (F_factors.bindsN fun _ _ _ _ _ _ us hl => match us, hl with | [_], _ => rfl), ok_factors0 T o_squarefree_parts0 F_factors⟩
  obtain ⟨d__law_refuses, F__law_refuses⟩ := c.def_ 89 (d := ds__law_refuses) rfl
  replace F__law_refuses : FunS K "_law_refuses" "_law_refuses" s__law_refuses (He.ga K "_law_refuses") d__law_refuses := F__law_refuses
  have o_law_refuses : FnC P w K mg base L "_law_refuses" 5 ["_law_field_here"] R_law_refuses := ⟨_, _, He.glo_ok X G (c.fact 65 (f := .glo "_law_refuses") rfl), F__law_refuses.kp, (F__law_refuses.bindsN fun _ _ _ _ _ _ us hl => match us, hl with | [_], _ => rfl), ok_law_refuses T Z o_P_init o_factors0 F__law_refuses⟩
  obtain ⟨d__law_times, F__law_times⟩ := c.def_ 75 (d := ds__law_times) rfl
  replace F__law_times : FunS K "_law_times" "_law_times" s__law_times (He.ga K "_law_times") d__law_times := F__law_times
  have o_law_times : FnC P w K mg base L "_law_times" 1 ["_law_field_here", "_law_a", "_law_b"] R_law_times := ⟨_, _, He.glo_ok X G (c.fact 51 (f := .glo "_law_times") rfl), F__law_times.kp, (F__law_times.bindsN fun _ _ _ _ _ _ us hl => match us, hl with | [_, _, _], _ => rfl), ok_law_times T F__law_times⟩
  obtain ⟨d__law_number, F__law_number⟩ := c.def_ 71 (d := ds__law_number) rfl
  replace F__law_number : FunS K "_law_number" "_law_number" s__law_number (He.ga K "_law_number") d__law_number := F__law_number
  have o_law_number : FnC P w K mg base L "_law_number" 1 ["_law_p", "_law_a"] R_law_number := ⟨_, _, He.glo_ok X G (c.fact 47 (f := .glo "_law_number") rfl), F__law_number.kp, (F__law_number.bindsN fun _ _ _ _ _ _ us hl => match us, hl with | [_, _], _ => rfl), ok_law_number T F__law_number⟩
  obtain ⟨d__law_trim, F__law_trim⟩ := c.def_ 79 (d := ds__law_trim) rfl
  replace F__law_trim : FunS K "_law_trim" "_law_trim" s__law_trim (He.ga K "_law_trim") d__law_trim := F__law_trim
  have o_law_trim : FnC P w K mg base L "_law_trim" 3 ["_law_field_here", "_law_row"] R_law_trim := ⟨_, _, He.glo_ok X G (c.fact 55 (f := .glo "_law_trim") rfl), F__law_trim.kp, (F__law_trim.bindsN fun _ _ _ _ _ _ us hl => match us, hl with | [_, _], _ => rfl), ok_law_trim T o_law_zero F__law_trim⟩
  obtain ⟨d__law_product, F__law_product⟩ := c.def_ 80 (d := ds__law_product) rfl
  replace F__law_product : FunS K "_law_product" "_law_product" s__law_product (He.ga K "_law_product") d__law_product := F__law_product
  have o_law_product : FnC P w K mg base L "_law_product" 4 ["_law_field_here", "_law_f", "_law_g"] R_law_product := ⟨_, _, He.glo_ok X G (c.fact 56 (f := .glo "_law_product") rfl), F__law_product.kp, (F__law_product.bindsN fun _ _ _ _ _ _ us hl => match us, hl with | [_, _, _], _ => rfl), ok_law_product T o_law_zero o_law_add o_law_times o_law_trim F__law_product⟩
  obtain ⟨d__law_rest, F__law_rest⟩ := c.def_ 81 (d := ds__law_rest) rfl
  replace F__law_rest : FunS K "_law_rest" "_law_rest" s__law_rest (He.ga K "_law_rest") d__law_rest := F__law_rest
  have o_law_rest : FnC P w K mg base L "_law_rest" 4 ["_law_field_here", "_law_f", "_law_g"] R_law_rest := ⟨_, _, He.glo_ok X G (c.fact 57 (f := .glo "_law_rest") rfl), F__law_rest.kp, (F__law_rest.bindsN fun _ _ _ _ _ _ us hl => match us, hl with | [_, _, _], _ => rfl), ok_law_rest T o_law_add o_law_times o_law_minus o_law_trim F__law_rest⟩
  obtain ⟨d__law_is_irreducible, F__law_is_irreducible⟩ := c.def_ 84 (d := ds__law_is_irreducible) rfl
  replace F__law_is_irreducible : FunS K "_law_is_irreducible" "_law_is_irreducible" s__law_is_irreducible (He.ga K "_law_is_irreducible") d__law_is_irreducible := F__law_is_irreducible
  have o_law_is_irreducible : FnC P w K mg base L "_law_is_irreducible" 5 ["_law_field_here", "_law_f"] R_law_is_irreducible := ⟨_, _, He.glo_ok X G (c.fact 60 (f := .glo "_law_is_irreducible") rfl), F__law_is_irreducible.kp, (F__law_is_irreducible.bindsN fun _ _ _ _ _ _ us hl => match us, hl with | [_, _], _ => rfl), ok_law_is_irreducible T o_law_count o_law_rest o_law_monic F__law_is_irreducible⟩
  obtain ⟨d__law_key, F__law_key⟩ := c.def_ 85 (d := ds__law_key) rfl
  replace F__law_key : FunS K "_law_key" "_law_key" s__law_key (He.ga K "_law_key") d__law_key := F__law_key
  have o_law_key : FnC P w K mg base L "_law_key" 2 ["_law_field_here", "_law_row"] R_law_key := ⟨_, _, He.glo_ok X G (c.fact 61 (f := .glo "_law_key") rfl), F__law_key.kp, (F__law_key.bindsN fun _ _ _ _ _ _ us hl => match us, hl with | [_, _], _ => rfl), ok_law_key T o_law_number F__law_key⟩
  obtain ⟨d__law_whole, F__law_whole⟩ := c.def_ 88 (d := ds__law_whole) rfl
  replace F__law_whole : FunS K "_law_whole" "_law_whole" s__law_whole (He.ga K "_law_whole") d__law_whole := F__law_whole
  have o_law_whole : FnC P w K mg base L "_law_whole" 5 ["_law_field_here", "_law_pairs"] R_law_whole := ⟨_, _, He.glo_ok X G (c.fact 64 (f := .glo "_law_whole") rfl), F__law_whole.kp, (F__law_whole.bindsN fun _ _ _ _ _ _ us hl => match us, hl with | [_, _], _ => rfl), ok_law_whole T o_law_one o_law_product F__law_whole⟩
  obtain ⟨d__law_modulus, F__law_modulus⟩ := c.def_ 72 (d := ds__law_modulus) rfl
  replace F__law_modulus : FunS K "_law_modulus" "_law_modulus" s__law_modulus (He.ga K "_law_modulus") d__law_modulus := F__law_modulus
  have o_law_modulus : FnC P w K mg base L "_law_modulus" 2 ["_law_p", "_law_n", "_law_number_here"] R_law_modulus := ⟨_, _, He.glo_ok X G (c.fact 48 (f := .glo "_law_modulus") rfl), F__law_modulus.kp, (F__law_modulus.bindsN fun _ _ _ _ _ _ us hl => match us, hl with | [_, _, _], _ => rfl), ok_law_modulus T o_law_member F__law_modulus⟩
  have o_partsn1 : FnC P w K mg base L "parts_of" 9 ["f"] (R_parts 1) := ⟨_, _, He.glo_ok X G (c.fact 35 (f := .glo "parts_of") rfl), F_parts_of.kp, (F_parts_of.bindsN fun _ _ _ _ _ _ us hl => match us, hl with | [_], _ => rfl), ok_parts (by decide) T o_parts0 o_P_degree o_common_divisor o_P_derivative o_P_is_zero o_prime_root o_P_fdiv F_parts_of⟩
  have o_partsn2 : FnC P w K mg base L "parts_of" 10 ["f"] (R_parts 2) := ⟨_, _, He.glo_ok X G (c.fact 35 (f := .glo "parts_of") rfl), F_parts_of.kp, (F_parts_of.bindsN fun _ _ _ _ _ _ us hl => match us, hl with | [_], _ => rfl), ok_parts (by decide) T o_partsn1 o_P_degree o_common_divisor o_P_derivative o_P_is_zero o_prime_root o_P_fdiv F_parts_of⟩
  have o_squarefree_parts : FnC P w K mg base L "squarefree_parts" 11 ["f"] R_squarefree_parts := ⟨_, _, He.glo_ok X G (c.fact 36 (f := .glo "squarefree_parts") rfl), F_squarefree_parts.kp, (F_squarefree_parts.bindsN fun _ _ _ _ _ _ us hl => match us, hl with | [_], _ => rfl), ok_squarefree_parts (by decide) T o_partsn2 o_P_is_zero o_P_monic F_squarefree_parts⟩
  obtain ⟨d_checked, F_checked⟩ := c.def_ 49 (d := ds_checked) rfl
  replace F_checked : FunS K "checked" "checked" s_checked (He.ga K "checked") d_checked := F_checked
  have o_checked : FnC P w K mg base L "checked" 9 ["f"] R_checked := ⟨_, _, He.glo_ok X G (c.fact 37 (f := .glo "checked") rfl), F_checked.kp, (F_checked.bindsN fun _ _ _ _ _ _ us hl => match us, hl with | [_], _ => rfl), ok_checked T o_P_degree o_P_leading o_F_one o_is_squarefree F_checked⟩
  obtain ⟨d_padded, F_padded⟩ := c.def_ 50 (d := ds_padded) rfl
  replace F_padded : FunS K "padded" "padded" s_padded (He.ga K "padded") d_padded := F_padded
  have o_padded : FnC P w K mg base L "padded" 3 ["f", "size"] R_padded := ⟨_, _, He.glo_ok X G (c.fact 38 (f := .glo "padded") rfl), F_padded.kp, (F_padded.bindsN fun _ _ _ _ _ _ us hl => match us, hl with | [_, _], _ => rfl), ok_padded T o_P_coefficient F_padded⟩
  obtain ⟨d_fixed_space, F_fixed_space⟩ := c.def_ 51 (d := ds_fixed_space) rfl
  replace F_fixed_space : FunS K "fixed_space" "fixed_space" s_fixed_space (He.ga K "fixed_space") d_fixed_space := F_fixed_space
  have o_fixed_space : FnC P w K mg base L "fixed_space" 10 ["f"] R_fixed_space := ⟨_, _, He.glo_ok X G (c.fact 39 (f := .glo "fixed_space") rfl), F_fixed_space.kp, (F_fixed_space.bindsN fun _ _ _ _ _ _ us hl => match us, hl with | [_], _ => rfl), ok_fixed_space T o_P_init o_checked o_P_degree o_variable o_P_power_modulo o_constant o_F_one o_padded o_monomial o_reduced o_kernel o_P_mul o_P_mod o_P_sub F_fixed_space⟩
  obtain ⟨d_parted, F_parted⟩ := c.def_ 52 (d := ds_parted) rfl
  replace F_parted : FunS K "parted" "parted" s_parted (He.ga K "parted") d_parted := F_parted
  have o_parted : FnC P w K mg base L "parted" 8 ["f", "b"] R_parted := ⟨_, _, He.glo_ok X G (c.fact 40 (f := .glo "parted") rfl), F_parted.kp, (F_parted.bindsN fun _ _ _ _ _ _ us hl => match us, hl with | [_, _], _ => rfl), ok_parted T oM o_F_member o_common_divisor o_constant o_P_degree o_P_sub F_parted⟩
  have o_divided : FnC P w K mg base L "divided" 11 ["f"] R_divided := ⟨_, _, He.glo_ok X G (c.fact 41 (f := .glo "divided") rfl), F_divided.kp, (F_divided.bindsN fun _ _ _ _ _ _ us hl => match us, hl with | [_], _ => rfl), ok_divided T ct_divided o_fixed_space o_parted o_P_key F_divided⟩
  have o_factors : FnC P w K mg base L "factors" 12 ["f"] R_factors := ⟨_, _, He.glo_ok X G (c.fact 42 (f := .glo "factors") rfl), F_factors.kp, (F_factors.bindsN fun _ _ _ _ _ _ us hl => match us, hl with | [_], _ => rfl), ok_factors T ct_factors o_squarefree_parts o_divided o_P_key F_factors⟩
  obtain ⟨d__law_field, F__law_field⟩ := c.def_ 73 (d := ds__law_field) rfl
  replace F__law_field : FunS K "_law_field" "_law_field" s__law_field (He.ga K "_law_field") d__law_field := F__law_field
  have o_law_field : FnN P w K mg base L "_law_field" 8 ["_law_numbers_here", "_law_most"] R_law_field := ⟨_, _, He.glo_ok X G (c.fact 49 (f := .glo "_law_field") rfl), F__law_field.kp, (F__law_field.bindsN fun _ _ _ _ _ _ us hl => match us, hl with | [_, _], _ => rfl), ok_law_field T o_law_next o_law_modulus o_F_init F__law_field⟩
  obtain ⟨d__law_irreducible, F__law_irreducible⟩ := c.def_ 86 (d := ds__law_irreducible) rfl
  replace F__law_irreducible : FunS K "_law_irreducible" "_law_irreducible" s__law_irreducible (He.ga K "_law_irreducible") d__law_irreducible := F__law_irreducible
  have o_law_irreducible : FnN P w K mg base L "_law_irreducible" 6 ["_law_field_here", "_law_numbers_here"] R_law_irreducible := ⟨_, _, He.glo_ok X G (c.fact 62 (f := .glo "_law_irreducible") rfl), F__law_irreducible.kp, (F__law_irreducible.bindsN fun _ _ _ _ _ _ us hl => match us, hl with | [_, _], _ => rfl), ok_law_irreducible T o_law_next o_law_count o_law_monic o_law_is_irreducible F__law_irreducible⟩
  obtain ⟨d__law_drawn, F__law_drawn⟩ := c.def_ 87 (d := ds__law_drawn) rfl
  replace F__law_drawn : FunS K "_law_drawn" "_law_drawn" s__law_drawn (He.ga K "_law_drawn") d__law_drawn := F__law_drawn
  have o_law_drawn : FnN P w K mg base L "_law_drawn" 7 ["_law_field_here", "_law_numbers_here", "_law_most"] R_law_drawn := ⟨_, _, He.glo_ok X G (c.fact 63 (f := .glo "_law_drawn") rfl), F__law_drawn.kp, (F__law_drawn.bindsN fun _ _ _ _ _ _ us hl => match us, hl with | [_, _, _], _ => rfl), ok_law_drawn T o_law_next o_law_irreducible F__law_drawn⟩
  exact ok_law T o_law_numbers o_law_field o_law_drawn o_law_member o_law_next o_P_init o_law_whole o_law_times o_law_key o_factors o_law_refuses F
end FM
set_option autoImplicit false
namespace FM
open PySem PySem.Spec PyProof.Rows L2 LamX
/-- a law over a head by facts, tables of code objects beside them -/
theorem walk_TX {l : PySem.W.OpenLaw} {n k : Nat} {q : Program} {loose : List Str} {XP : (Str → Option Value) → Heap → Prop} {YP : World → Heap → Prop} {d : DefRec} {x : Str} (hn : l.most = some n) (hn2 : n ≤ sizeLine) (hdf : d.params.defaults = []) (hr : Room k callerA)
    (F : ∀ (w : World) (mg : Str → Option Value) (fa : Addr) (h : Heap), YP w h → h.Ns mainGlobals mg → mg d.name = some (.ref fa) → ∃ K : PySem.W.Frag, K.In h ∧ LamX.LawAtS l w K CX0 k n x mg fa h) : PySem.W.WalkO q loose XP YP l.row.toRowW d [] (fun f vs => PySem.call f vs) :=
  Att.attach_callB hn hdf fun w s₀ s mg mb fa o pm cd doc a vs ns G Y ho hd hcd hmg hobj hints hlen hbits hg => by
    obtain ⟨K, KX, fd, cs, sp, h1, h2, h3, h4, h5, h6⟩ := F w mg fa _ Y G.T.g hmg
    exact LamX.law_callTs KX G.T.g G.T.b G.T.builtins G.T.nolimit hg h1 h2 h3 G.T.bmain hobj hints (Nat.le_trans hlen hn2) hr h6 h4 (fun H hH hS => h5 H a ns hlen hbits hH hS) (fun H e s' z => z)
theorem tabs_no {K : PySem.W.Frag} {H : Hp} (h1 : H (tAd K pDi) = some (.tbl #[])) (h2 : H (tAd K pFa) = some (.tbl #[])) : Tabs (lcK K).T H := fun p hp => by
  have e : H p.1 = some (.tbl #[]) := by
    rcases List.mem_cons.mp hp with z | hp
    · rw [z]; exact h1
    · rw [List.mem_singleton.mp hp]; exact h2
  exact ⟨#[], e, trivial, fun z cv hz => by cases hz⟩
theorem script_in {K : PySem.W.Frag} {H : Hp} {a : Addr} {ns : List Int} (t : Tabs (lcK K).T H) (hS : SqL K H a (ns.map V.int)) : ∃ G d, Sub G H ∧ TbG (lcK K) H G ∧ Is (lcK K) G d (.ref a) ∧ ScrD K d ns := by
  rcases hS with (h | ⟨o, h⟩) | h
  · refine ⟨fun b => if b = a then H a else none, .lst (ns.map .int), fun b u e => ?_, ⟨t, fun b ps e => ?_⟩, .lst (if_pos rfl |>.trans h) (isL_ints _), .lst ns⟩
    · have e2 : (if b = a then H a else none) = some u := e
      by_cases z : b = a
      · rw [if_pos z] at e2
        rw [z]; exact e2
      · rw [if_neg z] at e2; cases e2
    · have e2 : (if b = a then H a else none) = some (.tbl ps) := e
      by_cases z : b = a
      · rw [if_pos z, h] at e2; cases e2
      · rw [if_neg z] at e2; cases e2
  · refine ⟨fun b => if b = a then H a else none, .scr ns, fun b u e => ?_, ⟨t, fun b ps e => ?_⟩, .scr (if_pos rfl |>.trans h), .scr ns⟩
    · have e2 : (if b = a then H a else none) = some u := e
      by_cases z : b = a
      · rw [if_pos z] at e2
        rw [z]; exact e2
      · rw [if_neg z] at e2; cases e2
    · have e2 : (if b = a then H a else none) = some (.tbl ps) := e
      by_cases z : b = a
      · rw [if_pos z, h] at e2; cases e2
      · rw [if_neg z] at e2; cases e2
  · exact ⟨fun _ => none, .adr a, fun b u e => (by cases e), ⟨t, fun b ps e => (by cases e)⟩, .adr a, .adr a ns fun H' => .inr h⟩
theorem law_facts {w : World} {h : Heap} {mg : Str → Option Value} {f : Addr} (Y : hkR.says w h) (G : h.Ns mainGlobals mg) (hfa : mg ("law" : Str) = some (.ref f)) : ∃ K : PySem.W.Frag, K.In h ∧ LamX.LawAtS PySem.Challenge.rw_fieldmaps_k17_whole_factors_by_witness w K CX0 13 63 "_law_script" mg f h := by
  obtain ⟨K, q⟩ := Y
  have E := exK_ok q.x
  obtain ⟨fd, F⟩ := q.d.def_ 90 (d := ds_law) rfl
  replace F : FunS K "law" "law" s_law (He.ga K "law") fd := F
  have e := hfa.symm.trans (He.glo_ok q.i G (q.d.fact 66 (f := .glo "law") rfl))
  cases e
  have b := FunD.bindsA (ps := ["_law_script"]) F fun _ _ _ _ _ _ us hl => match us, hl with | [_], _ => rfl
  refine ⟨K, q.i, fd, [(cAd K pDi, tAd K pDi), (cAd K pFa, tAd K pFa)], spD (lcK K) (R_law K), fun p hp => ?_, fun p hp => ?_, fun p hp => ?_, fun s v => b s [v] rfl, fun H a ns hn _ hT hS => ?_, fun base X G2 TB => law_at q.d E X G2 (TB _ (List.mem_cons_self ..)) (TB _ (List.mem_cons_of_mem _ (List.mem_cons_self ..))) F⟩
  · rcases List.mem_cons.mp hp with z | hp
    · rw [z]; exact q.t1
    · rw [List.mem_singleton.mp hp]; exact q.t2
  · rcases List.mem_cons.mp hp with z | hp
    · rw [z]; exact E.n1
    · rw [List.mem_singleton.mp hp]; exact E.n2
  · rcases List.mem_cons.mp hp with z | hp
    · rw [z]; exact PySem.W.codeHd_of_K q.i E.h1
    · rw [List.mem_singleton.mp hp]; exact PySem.W.codeHd_of_K q.i E.h2
  · have t := tabs_no (hT _ (List.mem_cons_self ..)) (hT _ (List.mem_cons_of_mem _ (List.mem_cons_self ..)))
    obtain ⟨G1, d, sb, tg, i, sd⟩ := script_in t hS
    exact ⟨G1, [d], .bl true, sb, tg, .cons i .nil, .mk d ns sd (by omega), fun G' H' v _ i' => is_bl i'⟩
end FM
open PySem PySem.W PySem.Calls PyProof.Rows
theorem PySem.Challenge.cw_fieldmaps_k17_whole_factors_by_witness_holds : PySem.Challenge.rw_fieldmaps_k17_whole_factors_by_witness.Holds := by
  w_on; o_law
  refine HandSHeadRun.head_any (r := FM.RowR) (q := PySem.W.view FM.RowR.prog [81]) (H := FM.hkR) (ob := FM.obR) (M := 20000) (loose := FM.nms) (d := HandSHeadRun.topDef FM.RowR.prog 81) (kwd := []) FM.obR_eq
    (by kernel_rfl) (fun s => by kernel_rfl) FM.runR (by kernel_rfl) (by kernel_rfl) (by kernel_rfl) (by rfl) (by first | assumption | decide +kernel) (by decide +kernel) ⟨rfl, rfl, rfl, rfl, rfl, by decide +kernel⟩ ?hw ?hc
  case hw => w_witness2
  case hc =>
    refine FM.walk_TX (n := 63) (k := 13) (x := "_law_script") rfl (by decide) (by kernel_rfl) ⟨rfl, by decide, by decide⟩ fun w mg fa h Y G hmg0 => FM.law_facts Y G ?_
    have e : (HandSHeadRun.topDef FM.RowR.prog 81).name = ("law" : PySem.Str) := by kernel_rfl
    rw [← e]
    exact hmg0
