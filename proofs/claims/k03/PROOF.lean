import PyProof.Rows.All
import Wide.All
import OpenK.AllK
import Wide.FinOn
import HandS.ForMost
import HandS.ForExc
import HandS.Wide
import HandS.Lambda
import HandS.TupAny
import HandS.TupMul
import HandS.DictComp
import HandS.DictTup
import HandS.Walk
import HandS.Zip
import HandS.Conv
import HandS.ExcSuper
import HandS.EndTab
import KE.DataAny
import KE.DataIsa
import KE.SortData
import KE.SortKeyHeap
import KE.DataMinMax
import PyProof.ReprRoads
import HandS.Star
import HandS.TupLen
import HandS.TupSets
import HandS.SetFor
import HandS.IsInst
import HandS.DictEq
import PyProof.NeKinds
import HandS.Iter
import KE.GoesEnum
import KE.GoesMore
import HandS.Comp
import KE.OsGo
import HandS.ForSpec
import KE.KExcSuper
import HandS.Style
import HandS.ListItems
import HandS.More
import KE.KDictPairs
import KE.KDictList
import HandS.Strs
import HandS.HeadHook4
import HandS.Head0
import HandS.Head1
import HandS.Head2
import HandS.NoneIn
import PySem.Challenge.RW_chainsback_k03_whole_blocks
import PyProof.ReprLen
set_option Elab.async false
set_option linter.all false
set_option maxRecDepth 100000
/-! PL: a small evaluator over data, sound over the hand layer. Part 1: data in the heap, the state, readings. -/
namespace L2
namespace PL
open PySem PySem.Spec PyProof.Rows

def keyD : Key → PyData
  | .inl i => .int i
  | .inr s => .str s

/-! ### data that no one writes any more: G -/
mutual
inductive Rp (K : PySem.W.Frag) (G : Hp) : V → PyData → Prop
  | non : Rp K G .non .none
  | bl (b : Bool) : Rp K G (.bl b) (.bool b)
  | int (i : Int) : Rp K G (.int i) (.int i)
  | str (x : Str) : Rp K G (.str x) (.str x)
  | lst {a : Addr} {vs : List V} {ds : List PyData} : G a = some (.lst vs) → RpL K G vs ds → Rp K G (.ref a) (.list ds)
  | tup {a : Addr} {vs : List V} {ds : List PyData} : G a = some (.tup vs) → RpL K G vs ds → Rp K G (.ref a) (.tuple ds)
  | dK {a : Addr} {ks : List (Key × V)} {kvs : List (PyData × PyData)} : Rd G a (.dK ks) → RpL K G (ks.map Prod.snd) (kvs.map Prod.snd) →
      kvs.map Prod.fst = ks.map (fun p => keyD p.1) → Rp K G (.ref a) (.dict kvs)
  | dT {a : Addr} {ks : List (List Key × V)} {kvs : List (PyData × PyData)} : Rd G a (.dT ks) → RpL K G (ks.map Prod.snd) (kvs.map Prod.snd) →
      kvs.map Prod.fst = ks.map (fun p => .tuple (p.1.map keyD)) → ks ≠ [] → Rp K G (.ref a) (.dict kvs)
inductive RpL (K : PySem.W.Frag) (G : Hp) : List V → List PyData → Prop
  | nil : RpL K G [] []
  | cons {v : V} {vs : List V} {d : PyData} {ds : List PyData} : Rp K G v d → RpL K G vs ds → RpL K G (v :: vs) (d :: ds)
end

abbrev Sub (G G' : Hp) : Prop := ∀ a o, G a = some o → G' a = some o
theorem Rd.sub {G G' : Hp} (h : Sub G G') {a : Addr} {u : HO} (r : Rd G a u) : Rd G' a u := by
  rcases r with r | ⟨o, r⟩
  · exact .inl (h _ _ r)
  · exact .inr ⟨o, h _ _ r⟩
theorem SqL.sub {K : PySem.W.Frag} {G G' : Hp} (h : Sub G G') {a : Addr} {vs : List V} (r : SqL K G a vs) : SqL K G' a vs := by
  rcases r with r | r
  · exact .inl (Rd.sub h r)
  · exact .inr r
mutual
theorem Rp.mono {K : PySem.W.Frag} {G G' : Hp} (h : Sub G G') : ∀ {v : V} {d : PyData}, Rp K G v d → Rp K G' v d
  | _, _, .non => .non
  | _, _, .bl b => .bl b
  | _, _, .int i => .int i
  | _, _, .str x => .str x
  | _, _, .lst a b => .lst (h _ _ a) (RpL.mono h b)
  | _, _, .tup a b => .tup (h _ _ a) (RpL.mono h b)
  | _, _, .dK a b c => .dK (Rd.sub h a) (RpL.mono h b) c
  | _, _, .dT a b c n => .dT (Rd.sub h a) (RpL.mono h b) c n
theorem RpL.mono {K : PySem.W.Frag} {G G' : Hp} (h : Sub G G') : ∀ {vs : List V} {ds : List PyData}, RpL K G vs ds → RpL K G' vs ds
  | _, _, .nil => .nil
  | _, _, .cons a b => .cons (Rp.mono h a) (RpL.mono h b)
end
theorem RpL.length {K : PySem.W.Frag} {G : Hp} : ∀ {vs : List V} {ds : List PyData}, RpL K G vs ds → vs.length = ds.length
  | _, _, .nil => rfl
  | _, _, .cons _ b => by rw [List.length_cons, List.length_cons, RpL.length b]
theorem RpL.append {K : PySem.W.Frag} {G : Hp} : ∀ {vs ws : List V} {ds es : List PyData}, RpL K G vs ds → RpL K G ws es → RpL K G (vs ++ ws) (ds ++ es)
  | _, _, _, _, .nil, h => h
  | _, _, _, _, .cons a b, h => .cons a (RpL.append b h)
theorem RpL.get {K : PySem.W.Frag} {G : Hp} : ∀ {vs : List V} {ds : List PyData} {i : Nat} {d : PyData}, RpL K G vs ds → ds[i]? = some d → ∃ v, vs[i]? = some v ∧ Rp K G v d
  | _, _, _, _, .nil, h => by simp at h
  | _, _, 0, _, .cons a b, h => by simp at h; subst h; exact ⟨_, rfl, a⟩
  | _, _, i + 1, _, .cons a b, h => by
    obtain ⟨v, h1, h2⟩ := RpL.get (i := i) b (by simpa using h)
    exact ⟨v, by simpa using h1, h2⟩
theorem RpL.getV {K : PySem.W.Frag} {G : Hp} : ∀ {vs : List V} {ds : List PyData} {i : Nat} {v : V}, RpL K G vs ds → vs[i]? = some v → ∃ d, ds[i]? = some d ∧ Rp K G v d
  | _, _, _, _, .nil, h => by simp at h
  | _, _, 0, _, .cons a b, h => by simp at h; subst h; exact ⟨_, rfl, a⟩
  | _, _, i + 1, _, .cons a b, h => by
    obtain ⟨v, h1, h2⟩ := RpL.getV (i := i) b (by simpa using h)
    exact ⟨v, by simpa using h1, h2⟩
theorem RpL.take {K : PySem.W.Frag} {G : Hp} : ∀ {vs : List V} {ds : List PyData} (n : Nat), RpL K G vs ds → RpL K G (vs.take n) (ds.take n)
  | _, _, 0, _ => .nil
  | _, _, _ + 1, .nil => .nil
  | _, _, n + 1, .cons a b => .cons a (RpL.take n b)
theorem RpL.drop {K : PySem.W.Frag} {G : Hp} : ∀ {vs : List V} {ds : List PyData} (n : Nat), RpL K G vs ds → RpL K G (vs.drop n) (ds.drop n)
  | _, _, 0, h => h
  | _, _, _ + 1, .nil => .nil
  | _, _, n + 1, .cons a b => RpL.drop n b
theorem RpL.set {K : PySem.W.Frag} {G : Hp} {v : V} {d : PyData} (r : Rp K G v d) : ∀ {vs : List V} {ds : List PyData} (n : Nat), RpL K G vs ds → RpL K G (vs.set n v) (ds.set n d)
  | _, _, _, .nil => .nil
  | _, _, 0, .cons a b => .cons r b
  | _, _, n + 1, .cons a b => .cons a (RpL.set r n b)
/-- one value tells one datum's shape: inversion helpers -/
theorem Rp.inv_int {K : PySem.W.Frag} {G : Hp} {v : V} {i : Int} (h : Rp K G v (.int i)) : v = .int i := by cases h; rfl
theorem Rp.inv_bool {K : PySem.W.Frag} {G : Hp} {v : V} {b : Bool} (h : Rp K G v (.bool b)) : v = .bl b := by cases h; rfl
theorem Rp.inv_none {K : PySem.W.Frag} {G : Hp} {v : V} (h : Rp K G v .none) : v = .non := by cases h; rfl
theorem Rp.inv_str {K : PySem.W.Frag} {G : Hp} {v : V} {x : Str} (h : Rp K G v (.str x)) : v = .str x := by cases h; rfl
def isNonD : PyData → Bool
  | .none => true
  | _ => false
theorem Rp.non_iff {K : PySem.W.Frag} {G : Hp} {v : V} {d : PyData} (h : Rp K G v d) : decide (v = .non) = isNonD d := by
  cases h <;> simp [isNonD]

mutual
theorem Rp.dp {K : PySem.W.Frag} {G : Hp} : ∀ {v : V} {d : PyData}, Rp K G v d → d.plain = true → Dp K G v d
  | _, _, .non, _ => .non
  | _, _, .bl b, _ => .bl b
  | _, _, .int i, _ => .int i
  | _, _, .str x, _ => .str x
  | _, _, .lst a b, h => .lst (SqL.of a) (RpL.dp b (by simpa [PyData.plain] using h))
  | _, _, .tup a b, h => .tup (SqT.of a) (RpL.dp b (by simpa [PyData.plain] using h))
  | _, _, .dK a b c, h => by simp [PyData.plain] at h
  | _, _, .dT a b c n, h => by simp [PyData.plain] at h
theorem RpL.dp {K : PySem.W.Frag} {G : Hp} : ∀ {vs : List V} {ds : List PyData}, RpL K G vs ds → PyData.plainAll ds = true → DpAll K G vs ds
  | _, _, .nil, _ => .nil
  | _, _, .cons a b, h => by
    simp only [PyData.plainAll, Bool.and_eq_true] at h
    exact .cons (Rp.dp a h.1) (RpL.dp b h.2)
end

/-! ### the state -/
/-- the draw list: the source and the count -/
abbrev Gs := Option (List PyData × Int)
inductive Sl where
  | un | sh (d : PyData) | ow (d : PyData) | dr | sc (ns : List Int)
inductive Res (α : Type) where
  | ok (a : α) (g : Gs) | bad (d : PyData) (g : Gs) | no
def Res.bind {α β : Type} : Res α → (α → Gs → Res β) → Res β
  | .ok a g, k => k a g
  | .bad d g, _ => .bad d g
  | .no, _ => .no
abbrev Env := List Sl
/-- what an expression means -/
abbrev Fn := Env → Gs → Res PyData

/-- the fixed things: the written part, code tables, the wish for errors, the error's class -/
structure Wd where
  K : PySem.W.Frag
  T : List (Addr × Str)
  C : Addr
  E : XK

def Imm : HO → Prop
  | .lst _ => True
  | .tup _ => True
  | .frz _ _ => True
  | _ => False

def DrOk (K : PySem.W.Frag) (dr : Option Addr) (G H : Hp) : Gs → Prop
  | none => dr = none
  | some p => ∃ d v, dr = some d ∧ G d = none ∧ H d = some (.lst [v, .int 0, .int p.2]) ∧ Rp K G v (.list p.1)
structure GI (W : Wd) (g : Gs) (dr : Option Addr) (G H : Hp) : Prop where
  sub : Sub G H
  imm : ∀ a o, G a = some o → Imm o
  draw : DrOk W.K dr G H g
  tabs : LamX.Tabs W.T H
/-- what may be one's own -/
def Mine : HO → Prop
  | .lst _ => True
  | .dK _ => True
  | .dT _ => True
  | _ => False
theorem Mine.tbl {o : HO} (m : Mine o) (ps : Array Value) : o ≠ .tbl ps := by rintro rfl; exact m
structure Ext (dr : Option Addr) (G H G' H' : Hp) : Prop where
  g : Sub G G'
  h : ∀ a o, H a = some o → dr ≠ some a → (∀ ps, o ≠ .tbl ps) → H' a = some o
  n : ∀ a o, H a = some o → dr ≠ some a → Mine o → G a = none → G' a = none
  d : ∀ a o, H a = some o → ∃ o', H' a = some o'
theorem Ext.refl {dr : Option Addr} {G H : Hp} : Ext dr G H G H := ⟨fun _ _ h => h, fun _ _ h _ _ => h, fun _ _ _ _ _ h => h, fun _ o h => ⟨o, h⟩⟩
theorem Ext.trans {dr : Option Addr} {G H G1 H1 G2 H2 : Hp} (a : Ext dr G H G1 H1) (b : Ext dr G1 H1 G2 H2) : Ext dr G H G2 H2 :=
  ⟨fun c o h => b.g c o (a.g c o h), fun c o h x y => b.h c o (a.h c o h x y) x y, fun c o h x m z => b.n c o (a.h c o h x m.tbl) x m (a.n c o h x m z), fun c o h => by
    obtain ⟨o', h'⟩ := a.d c o h
    exact b.d c o' h'⟩
theorem Ext.none_of {dr : Option Addr} {G H G' H' : Hp} (e : Ext dr G H G' H') {a : Addr} (h : H' a = none) : H a = none := by
  cases q : H a with
  | none => rfl
  | some o =>
    obtain ⟨o', h'⟩ := e.d a o q
    rw [h] at h'; cases h'

def OwAt (K : PySem.W.Frag) (G H : Hp) (a : Addr) : PyData → Prop
  | .list ds => ∃ vs, H a = some (.lst vs) ∧ RpL K G vs ds
  | .dict kvs => (∃ ks, H a = some (.dK ks) ∧ RpL K G (ks.map Prod.snd) (kvs.map Prod.snd) ∧ kvs.map Prod.fst = ks.map (fun p => keyD p.1)) ∨
      (∃ ks : List (List Key × V), H a = some (.dT ks) ∧ RpL K G (ks.map Prod.snd) (kvs.map Prod.snd) ∧ kvs.map Prod.fst = ks.map (fun p => .tuple (p.1.map keyD)) ∧ ks ≠ [])
  | _ => False
theorem OwAt.there {K : PySem.W.Frag} {G H : Hp} {a : Addr} {d : PyData} (h : OwAt K G H a d) : ∃ o, H a = some o ∧ Mine o := by
  cases d with
  | list ds => obtain ⟨vs, h, _⟩ := h; exact ⟨_, h, trivial⟩
  | dict kvs =>
    rcases h with ⟨ks, h, _⟩ | ⟨ks, h, _⟩
    · exact ⟨_, h, trivial⟩
    · exact ⟨_, h, trivial⟩
  | none => exact h.elim
  | bool => exact h.elim
  | int => exact h.elim
  | str => exact h.elim
  | tuple => exact h.elim
theorem OwAt.mono {K : PySem.W.Frag} {G H G' H' : Hp} {a : Addr} {d : PyData} (h : OwAt K G H a d) (g : Sub G G') (e : ∀ o, H a = some o → (∀ ps, o ≠ .tbl ps) → H' a = some o) : OwAt K G' H' a d := by
  cases d with
  | list ds => obtain ⟨vs, h, r⟩ := h; exact ⟨vs, e _ h (fun ps z => by cases z), r.mono g⟩
  | dict kvs =>
    rcases h with ⟨ks, h, r, q⟩ | ⟨ks, h, r, q⟩
    · exact .inl ⟨ks, e _ h (fun ps z => by cases z), r.mono g, q⟩
    · exact .inr ⟨ks, e _ h (fun ps z => by cases z), r.mono g, q⟩
  | none => exact h.elim
  | bool => exact h.elim
  | int => exact h.elim
  | str => exact h.elim
  | tuple => exact h.elim
def SlOk (K : PySem.W.Frag) (G H : Hp) (dr : Option Addr) (ad : Addr) : Sl → Option (Option V) → Prop
  | .sc ns, o => dr = none → ∃ a, o = some (some (.ref a)) ∧ SqL K H a (ns.map V.int)
  | .un, _ => True
  | .sh d, o => ∃ v, o = some (some v) ∧ Rp K G v d
  | .ow d, o => o = some (some (.ref ad)) ∧ G ad = none ∧ dr ≠ some ad ∧ OwAt K G H ad d
  | .dr, o => ∃ a, dr = some a ∧ o = some (some (.ref a))
theorem SlOk.ext {K : PySem.W.Frag} {G H G' H' : Hp} {dr : Option Addr} {ad : Addr} {sl : Sl} {o : Option (Option V)} (h : SlOk K G H dr ad sl o) (e : Ext dr G H G' H') : SlOk K G' H' dr ad sl o := by
  cases sl with
  | sc ns =>
    intro q
    obtain ⟨a, h1, h2⟩ := h q
    refine ⟨a, h1, ?_⟩
    rcases h2 with (h2 | ⟨u, h2⟩) | h2
    · exact .inl (.inl (e.h _ _ h2 (by rw [q]; simp) (fun ps z => by cases z)))
    · exact .inl (.inr ⟨u, e.h _ _ h2 (by rw [q]; simp) (fun ps z => by cases z)⟩)
    · exact .inr h2
  | un => trivial
  | sh d => obtain ⟨v, h1, h2⟩ := h; exact ⟨v, h1, h2.mono e.g⟩
  | ow d =>
    obtain ⟨h1, h2, h3, h4⟩ := h
    obtain ⟨u, hu, hm⟩ := h4.there
    exact ⟨h1, e.n _ _ hu h3 hm h2, h3, h4.mono e.g fun o ho hn => e.h _ _ ho h3 hn⟩
  | dr => exact h
structure SR (W : Wd) (ρ : Env) (g : Gs) (dr : Option Addr) (ad : Nat → Addr) (σ : St) (G H : Hp) : Prop where
  gi : GI W g dr G H
  len : ρ.length = σ.length
  slot : ∀ (i : Nat) (sl : Sl), ρ[i]? = some sl → SlOk W.K G H dr (ad i) sl σ[i]?
  inj : ∀ (i j : Nat) (d e : PyData), ρ[i]? = some (.ow d) → ρ[j]? = some (.ow e) → ad i = ad j → i = j
theorem SR.ext {W : Wd} {ρ : Env} {g g' : Gs} {dr : Option Addr} {ad : Nat → Addr} {σ : St} {G H G' H' : Hp} (S : SR W ρ g dr ad σ G H) (e : Ext dr G H G' H') (i : GI W g' dr G' H') : SR W ρ g' dr ad σ G' H' :=
  ⟨i, S.len, fun j sl h => (S.slot j sl h).ext e, S.inj⟩

/-! new things -/
section
variable {W : Wd} {g : Gs} {dr : Option Addr} {G H : Hp} {p : Addr} {o : HO}
theorem sub_upd (s : Sub G H) (h : H p = none) : Sub (upd G p o) (upd H p o) := fun a u e => by
  by_cases hb : a = p
  · subst hb; rw [upd_same] at e ⊢; exact e
  · rw [upd_ne hb] at e ⊢; exact s a u e
theorem sub_new (h : H p = none) : Sub H (upd H p o) := fun a u e => by rw [upd_ne (ne_of_none e h)]; exact e
theorem none_sub (s : Sub G H) (h : H p = none) : G p = none := by
  cases q : G p with
  | none => rfl
  | some u => rw [s _ _ q] at h; cases h
theorem DrOk.add {K : PySem.W.Frag} {G' H' : Hp} (d : DrOk K dr G H g) (a : Sub G G') (b : ∀ c o, H c = some o → H' c = some o) (n : ∀ c, dr = some c → (∃ o, H c = some o) → G c = none → G' c = none) : DrOk K dr G' H' g := by
  cases g with
  | none => exact d
  | some q => obtain ⟨x, v, h1, h2, h3, h4⟩ := d; exact ⟨x, v, h1, n _ h1 ⟨_, h3⟩ h2, b _ _ h3, h4.mono a⟩
/-- a new thing that is told at once -/
theorem GI.add (i : GI W g dr G H) (h : H p = none) (m : Imm o) : GI W g dr (upd G p o) (upd H p o) :=
  ⟨sub_upd i.sub h, fun a u e => by
    by_cases hb : a = p
    · subst hb; rw [upd_same] at e; cases e; exact m
    · rw [upd_ne hb] at e; exact i.imm a u e, i.draw.add (sub_new (none_sub i.sub h)) (sub_new h) fun c _ e n => by obtain ⟨u, e⟩ := e; rw [upd_ne (ne_of_none e h)]; exact n, i.tabs.ext (sub_new h)⟩
theorem Ext.add (i : GI W g dr G H) (h : H p = none) : Ext dr G H (upd G p o) (upd H p o) :=
  ⟨sub_new (none_sub i.sub h), fun a u e _ _ => sub_new h a u e, fun a u e _ _ n => by rw [upd_ne (ne_of_none e h)]; exact n, fun a u e => ⟨u, sub_new h a u e⟩⟩
/-- a new thing that is one's own -/
theorem GI.new (i : GI W g dr G H) (h : H p = none) : GI W g dr G (upd H p o) :=
  ⟨fun a u e => sub_new h a u (i.sub a u e), i.imm, i.draw.add (fun _ _ e => e) (sub_new h) fun c _ e n => n, i.tabs.ext (sub_new h)⟩
theorem Ext.new (h : H p = none) : Ext dr G H G (upd H p o) :=
  ⟨fun _ _ e => e, fun a u e _ _ => sub_new h a u e, fun a u e _ _ n => n, fun a u e => ⟨u, sub_new h a u e⟩⟩
end

/-! ### readings -/
def thg : Str := "thing"
/-- an error's post -/
def badP (W : Wd) (dr : Option Addr) (G H : Hp) (d : PyData) (g' : Gs) : Prop := ∀ v dx G' H', GI W g' dr G' H' → Ext dr G H G' H' → H' dx = some (.xd [(thg, v)]) → Rp W.K G' v d → W.E (.ref W.C) (some dx) H'
theorem badP.mono {W : Wd} {dr : Option Addr} {G H G1 H1 : Hp} {d : PyData} {g : Gs} (h : badP W dr G H d g) (e : Ext dr G H G1 H1) : badP W dr G1 H1 d g :=
  fun v dx G' H' i x hd rp => h v dx G' H' i (e.trans x) hd rp
/-- a family of posts -/
structure Po {β : Type} (W : Wd) (dr : Option Addr) (P : Hp → Hp → Res β → Prop) : Prop where
  bad : ∀ G H d g, P G H (.bad d g) → badP W dr G H d g
  no : ∀ G H, P G H .no → False
  mono : ∀ G H G1 H1 r, P G H r → Ext dr G H G1 H1 → P G1 H1 r
/-- what is wanted of a result -/
def okE (W : Wd) (dr : Option Addr) (G H : Hp) (r : Res PyData) (Q : VK) : Prop := match r with
  | .ok d g' => ∀ v G' H', GI W g' dr G' H' → Ext dr G H G' H' → Rp W.K G' v d → Q v H'
  | .bad d g' => badP W dr G H d g'
  | .no => False
def tE (W : Wd) (f : Fn) : TE := fun σ H Q => ∃ ρ g dr ad G, SR W ρ g dr ad σ G H ∧ okE W dr G H (f ρ g) Q
theorem okE.mono {W : Wd} {dr : Option Addr} {G H G1 H1 : Hp} {r : Res PyData} {Q Q' : VK} (h : okE W dr G H r Q) (e : Ext dr G H G1 H1) (q : ∀ v H, Q v H → Q' v H) : okE W dr G1 H1 r Q' := by
  cases r with
  | ok d g' => exact fun v G' H' i x rp => q _ _ (h v G' H' i (e.trans x) rp)
  | bad d g' => exact badP.mono h e
  | no => exact h
theorem poE {W : Wd} {dr : Option Addr} {Q : VK} : Po W dr (fun G H r => okE W dr G H r Q) := ⟨fun _ _ _ _ h => h, fun _ _ h => h, fun _ _ _ _ _ h e => okE.mono h e fun _ _ z => z⟩
theorem tE.mono {W : Wd} {f : Fn} {σ : St} {H : Hp} {Q Q' : VK} (h : tE W f σ H Q) (q : ∀ v H, Q v H → Q' v H) : tE W f σ H Q' := by
  obtain ⟨ρ, g, dr, ad, G, S, h⟩ := h
  exact ⟨ρ, g, dr, ad, G, S, h.mono Ext.refl q⟩
/-- one part, then the rest -/
theorem seqE {β : Type} {W : Wd} {ρ : Env} {g : Gs} {dr : Option Addr} {ad : Nat → Addr} {σ : St} {G H : Hp} {f : Fn} {k : PyData → Gs → Res β} {P : Hp → Hp → Res β → Prop} {R : VK} (S : SR W ρ g dr ad σ G H) (po : Po W dr P) (h : P G H ((f ρ g).bind k))
    (q : ∀ v H1 x g1 G1, SR W ρ g1 dr ad σ G1 H1 → Ext dr G H G1 H1 → Rp W.K G1 v x → P G1 H1 (k x g1) → R v H1) : tE W f σ H R := by
  refine ⟨ρ, g, dr, ad, G, S, ?_⟩
  cases e : f ρ g with
  | ok d g1 =>
    rw [e] at h
    exact fun v G1 H1 i x rp => q v H1 d g1 G1 (S.ext x i) x rp (po.mono _ _ _ _ _ h x)
  | bad d g1 => rw [e] at h; exact po.bad _ _ _ _ h
  | no => rw [e] at h; exact (po.no _ _ h).elim
theorem PE.imp {X : Cx} {e : Expr} {t t' : TE} (h : PE X e t) (i : ∀ σ H Q, t' σ H Q → t σ H Q) : PE X e t' := ⟨fun pins s σ H Q I q => h.run pins s σ H Q I (i σ H Q q)⟩
theorem PT.imp {X : Cx} {e : Expr} {t t' : TT} (h : PT X e t) (i : ∀ σ H Q, t' σ H Q → t σ H Q) : PT X e t' := ⟨fun pins s σ H Q I q => h.run pins s σ H Q I (i σ H Q q)⟩
theorem PW.imp {X : Cx} {e : Expr} {t t' : TT} (h : PW X e t) (i : ∀ σ H Q, t' σ H Q → t σ H Q) : PW X e t' := ⟨fun w pins s σ H Q I q => h.run w pins s σ H Q I (i σ H Q q)⟩
theorem PA.imp {X : Cx} {e : List Expr} {t t' : TA} (h : PA X e t) (i : ∀ σ H Q, t' σ H Q → t σ H Q) : PA X e t' := ⟨fun w pins s σ H Q I q => h.run w pins s σ H Q I (i σ H Q q)⟩
theorem PS.imp {X : Cx} {e : Stmt} {t t' : TS} (h : PS X e t) (i : ∀ D σ H, t' D σ H → t D σ H) : PS X e t' := ⟨fun pins s σ H D I q => h.run pins s σ H D I (i D σ H q)⟩
theorem PSs.imp {X : Cx} {e : List Stmt} {t t' : TS} (h : PSs X e t) (i : ∀ D σ H, t' D σ H → t D σ H) : PSs X e t' := ⟨fun pins s σ H D I q => h.run pins s σ H D I (i D σ H q)⟩

/-- as a test -/
def okT (W : Wd) (dr : Option Addr) (G H : Hp) (r : Res PyData) (Q : Bool → Hp → Prop) : Prop := match r with
  | .ok (.bool b) g' => ∀ G' H', GI W g' dr G' H' → Ext dr G H G' H' → Q b H'
  | .ok _ _ => False
  | .bad d g' => badP W dr G H d g'
  | .no => False
theorem okT.mono {W : Wd} {dr : Option Addr} {G H G1 H1 : Hp} {r : Res PyData} {Q : Bool → Hp → Prop} (h : okT W dr G H r Q) (e : Ext dr G H G1 H1) : okT W dr G1 H1 r Q := by
  cases r with
  | ok d g' =>
    cases d with
    | bool b => exact fun G' H' i x => h G' H' i (e.trans x)
    | none => exact h
    | int => exact h
    | str => exact h
    | list => exact h
    | tuple => exact h
    | dict => exact h
  | bad d g' => exact badP.mono h e
  | no => exact h
theorem poT {W : Wd} {dr : Option Addr} {Q : Bool → Hp → Prop} : Po W dr (fun G H r => okT W dr G H r Q) := ⟨fun _ _ _ _ h => h, fun _ _ h => h, fun _ _ _ _ _ h e => okT.mono h e⟩
def tT (W : Wd) (f : Fn) : TT := fun σ H Q => ∃ ρ g dr ad G, SR W ρ g dr ad σ G H ∧ okT W dr G H (f ρ g) Q
/-- a test, then the rest -/
theorem seqT {β : Type} {W : Wd} {ρ : Env} {g : Gs} {dr : Option Addr} {ad : Nat → Addr} {σ : St} {G H : Hp} {f : Fn} {k : PyData → Gs → Res β} {P : Hp → Hp → Res β → Prop} {R : Bool → Hp → Prop} (S : SR W ρ g dr ad σ G H) (po : Po W dr P) (h : P G H ((f ρ g).bind k))
    (nb : ∀ x g1, (∀ b, x ≠ .bool b) → k x g1 = .no)
    (q : ∀ b H1 g1 G1, SR W ρ g1 dr ad σ G1 H1 → Ext dr G H G1 H1 → P G1 H1 (k (.bool b) g1) → R b H1) : tT W f σ H R := by
  refine ⟨ρ, g, dr, ad, G, S, ?_⟩
  cases e : f ρ g with
  | ok d g1 =>
    rw [e] at h
    have h : P G H (k d g1) := h
    cases d with
    | bool b => exact fun G1 H1 i x => q b H1 g1 G1 (S.ext x i) x (po.mono _ _ _ _ _ h x)
    | none => rw [nb _ _ (fun b z => by cases z)] at h; exact (po.no _ _ h).elim
    | int => rw [nb _ _ (fun b z => by cases z)] at h; exact (po.no _ _ h).elim
    | str => rw [nb _ _ (fun b z => by cases z)] at h; exact (po.no _ _ h).elim
    | list => rw [nb _ _ (fun b z => by cases z)] at h; exact (po.no _ _ h).elim
    | tuple => rw [nb _ _ (fun b z => by cases z)] at h; exact (po.no _ _ h).elim
    | dict => rw [nb _ _ (fun b z => by cases z)] at h; exact (po.no _ _ h).elim
  | bad d g1 => rw [e] at h; exact po.bad _ _ _ _ h
  | no => rw [e] at h; exact (po.no _ _ h).elim
theorem tT_E {W : Wd} {f : Fn} {σ : St} {H : Hp} {Q : Bool → Hp → Prop} (h : tT W f σ H Q) : tB (tE W f) σ H Q := by
  obtain ⟨ρ, g, dr, ad, G, S, h⟩ := h
  refine ⟨ρ, g, dr, ad, G, S, ?_⟩
  cases e : f ρ g with
  | ok d g1 =>
    rw [e] at h
    cases d with
    | bool b => exact fun v G1 H1 i x rp => ⟨b, rp.inv_bool, h G1 H1 i x⟩
    | none => exact h.elim
    | int => exact h.elim
    | str => exact h.elim
    | list => exact h.elim
    | tuple => exact h.elim
    | dict => exact h.elim
  | bad d g1 => rw [e] at h; exact h
  | no => rw [e] at h; exact h
theorem pt_of {X : Cx} {W : Wd} {e : Expr} {f : Fn} (h : PE X e (tE W f)) (he : ∀ whole, isTrue e X.env whole = (do let v ← whole; standAt e.pos; holding [v] (truthy v)) := by intro _; rfl) : PT X e (tT W f) :=
  PT.imp (pt_val h he) fun _ _ _ => tT_E

/-! ### names, constants -/
def fVar (i : Nat) : Fn := fun ρ g => match ρ[i]? with
  | some (.sh d) => .ok d g
  | _ => .no
theorem ce_var {X : Cx} {W : Wd} {i : Nat} {x : Str} {pos : Pos} (h : PE X (.Name x pos) (tVar i)) : PE X (.Name x pos) (tE W (fVar i)) := by
  refine PE.imp h ?_
  rintro σ H Q ⟨ρ, g, dr, ad, G, S, h⟩
  unfold fVar at h
  cases e : ρ[i]? with
  | none => rw [e] at h; exact h.elim
  | some sl =>
    rw [e] at h
    cases sl with
    | sh d =>
      obtain ⟨v, h1, h2⟩ := S.slot i _ e
      exact ⟨v, h1, h v G H S.gi Ext.refl h2⟩
    | un => exact h.elim
    | ow d => exact h.elim
    | dr => exact h.elim
    | sc ns => exact h.elim
def fCst (d : PyData) : Fn := fun _ g => .ok d g
theorem ce_cst {X : Cx} {W : Wd} {e : Expr} {v : V} {d : PyData} (h : PE X e (tC v)) (r : ∀ G, Rp W.K G v d) : PE X e (tE W (fCst d)) := by
  refine PE.imp h ?_
  rintro σ H Q ⟨ρ, g, dr, ad, G, S, h⟩
  exact h v G H S.gi Ext.refl (r G)

/-! ### two operands -/
def fBin (k : PyData → PyData → Gs → Res PyData) (fa fb : Fn) : Fn := fun ρ g => (fa ρ g).bind fun x g1 => (fb ρ g1).bind fun y g2 => k x y g2
/-- an operator by data -/
def OpD (W : Wd) (r : R2) (k : PyData → PyData → Gs → Res PyData) : Prop :=
  ∀ (dr : Option Addr) (g : Gs) (G H : Hp) (v w : V) (x y : PyData) (Q : VK), GI W g dr G H → Rp W.K G v x → Rp W.K G w y → okE W dr G H (k x y g) Q → r v w H Q
theorem tOp_of {W : Wd} {r : R2} {k : PyData → PyData → Gs → Res PyData} {fa fb : Fn} (o : OpD W r k) : ∀ σ H Q, tE W (fBin k fa fb) σ H Q → tOp r (tE W fa) (tE W fb) σ H Q := by
  rintro σ H Q ⟨ρ, g, dr, ad, G, S, h⟩
  refine seqE S poE h fun v H1 x g1 G1 S1 x1 r1 h1 => ?_
  refine seqE S1 poE h1 fun w H2 y g2 G2 S2 x2 r2 h2 => ?_
  exact o dr g2 G2 H2 v w x y Q S2.gi (r1.mono x2.g) r2 h2
theorem ce_bin {X : Cx} {W : Wd} {op : Operator} {r : R2} {k : PyData → PyData → Gs → Res PyData} {a b : Expr} {fa fb : Fn} {pos : Pos} (ho : OpR X (binaryOp op) r) (o : OpD W r k) (ha : PE X a (tE W fa)) (hb : PE X b (tE W fb)) :
    PE X (.BinOp a op b pos) (tE W (fBin k fa fb)) := PE.imp (pe_op ho ha hb) (tOp_of o)
theorem ce_cmp {X : Cx} {W : Wd} {op : CmpOp} {r : R2} {k : PyData → PyData → Gs → Res PyData} {a b : Expr} {fa fb : Fn} {pos : Pos} (ho : OpR X (compareOp op) r) (o : OpD W r k) (ha : PE X a (tE W fa)) (hb : PE X b (tE W fb)) (hm : behindInMarks op b = false) :
    PE X (.Compare a [op] [b] pos) (tE W (fBin k fa fb)) := PE.imp (pe_cmpR ho ha hb hm) (tOp_of o)
theorem ct_cmp {X : Cx} {W : Wd} {op : CmpOp} {r : R2} {k : PyData → PyData → Gs → Res PyData} {a b : Expr} {fa fb : Fn} {pos : Pos} (ho : OpR X (compareOp op) r) (o : OpD W r k) (ha : PE X a (tE W fa)) (hb : PE X b (tE W fb)) (hm : behindInMarks op b = false) :
    PT X (.Compare a [op] [b] pos) (tT W (fBin k fa fb)) := by
  refine PT.imp (pt_cmpR ho ha hb hm) fun σ H Q h => ?_
  exact tOp_of o σ H _ (tT_E h)
end PL
end L2
set_option Elab.async false
set_option linter.all false
set_option maxRecDepth 100000
/-! PL 2: what may be looked at, operators, tests, subscripts, displays. -/
namespace L2
namespace PL
open PySem PySem.Spec PyProof.Rows

/-! ### a value that is looked at and not handed on -/
def Pk (K : PySem.W.Frag) (dr : Option Addr) (G H : Hp) (v : V) (d : PyData) : Prop := Rp K G v d ∨ ∃ a, v = .ref a ∧ G a = none ∧ dr ≠ some a ∧ OwAt K G H a d
theorem Pk.ext {K : PySem.W.Frag} {dr : Option Addr} {G H G' H' : Hp} {v : V} {d : PyData} (h : Pk K dr G H v d) (e : Ext dr G H G' H') : Pk K dr G' H' v d := by
  rcases h with h | ⟨a, h1, h2, h3, h4⟩
  · exact .inl (h.mono e.g)
  · obtain ⟨u, hu, hm⟩ := h4.there
    exact .inr ⟨a, h1, e.n _ _ hu h3 hm h2, h3, h4.mono e.g fun o ho hn => e.h _ _ ho h3 hn⟩
theorem Pk.dp {K : PySem.W.Frag} {dr : Option Addr} {G H : Hp} {v : V} {d : PyData} (s : Sub G H) (h : Pk K dr G H v d) (p : d.plain = true) : Dp K H v d := by
  rcases h with h | ⟨a, h1, h2, h3, h4⟩
  · exact Rp.dp (h.mono s) p
  · subst h1
    cases d with
    | list ds => obtain ⟨vs, q, r⟩ := h4; exact .lst (SqL.of q) (RpL.dp (r.mono s) (by simpa [PyData.plain] using p))
    | dict kvs => simp [PyData.plain] at p
    | none => exact h4.elim
    | bool => exact h4.elim
    | int => exact h4.elim
    | str => exact h4.elim
    | tuple => exact h4.elim
/-- a list's content -/
theorem Pk.lst {K : PySem.W.Frag} {dr : Option Addr} {G H : Hp} {v : V} {ds : List PyData} (s : Sub G H) (h : Pk K dr G H v (.list ds)) : ∃ a vs, v = .ref a ∧ H a = some (.lst vs) ∧ RpL K G vs ds := by
  rcases h with h | ⟨a, h1, h2, h3, vs, q, r⟩
  · cases h with
    | lst a b => exact ⟨_, _, rfl, s _ _ a, b⟩
  · exact ⟨a, vs, h1, q, r⟩
theorem Pk.tup {K : PySem.W.Frag} {dr : Option Addr} {G H : Hp} {v : V} {ds : List PyData} (h : Pk K dr G H v (.tuple ds)) : ∃ a vs, v = .ref a ∧ G a = some (.tup vs) ∧ RpL K G vs ds := by
  rcases h with h | ⟨a, h1, h2, h3, h4⟩
  · cases h with
    | tup a b => exact ⟨_, _, rfl, a, b⟩
  · exact h4.elim
theorem Pk.rp {K : PySem.W.Frag} {dr : Option Addr} {G H : Hp} {v : V} {d : PyData} (h : Pk K dr G H v d) (n : ∀ ds, d ≠ .list ds) (m : ∀ ds, d ≠ .dict ds) : Rp K G v d := by
  rcases h with h | ⟨a, h1, h2, h3, h4⟩
  · exact h
  · cases d with
    | list ds => exact absurd rfl (n ds)
    | dict kvs => exact absurd rfl (m kvs)
    | none => exact h4.elim
    | bool => exact h4.elim
    | int => exact h4.elim
    | str => exact h4.elim
    | tuple => exact h4.elim
theorem Pk.int {K : PySem.W.Frag} {dr : Option Addr} {G H : Hp} {v : V} {i : Int} (h : Pk K dr G H v (.int i)) : v = .int i := (h.rp (fun _ z => by cases z) (fun _ z => by cases z)).inv_int
theorem Pk.bool {K : PySem.W.Frag} {dr : Option Addr} {G H : Hp} {v : V} {i : Bool} (h : Pk K dr G H v (.bool i)) : v = .bl i := (h.rp (fun _ z => by cases z) (fun _ z => by cases z)).inv_bool
theorem Pk.str {K : PySem.W.Frag} {dr : Option Addr} {G H : Hp} {v : V} {i : Str} (h : Pk K dr G H v (.str i)) : v = .str i := (h.rp (fun _ z => by cases z) (fun _ z => by cases z)).inv_str
theorem Pk.non_iff {K : PySem.W.Frag} {dr : Option Addr} {G H : Hp} {v : V} {d : PyData} (h : Pk K dr G H v d) : decide (v = .non) = isNonD d := by
  rcases h with h | ⟨a, h1, h2, h3, h4⟩
  · exact h.non_iff
  · subst h1
    cases d with
    | none => exact h4.elim
    | list | dict | bool | int | str | tuple => rfl

def okP (W : Wd) (dr : Option Addr) (G H : Hp) (r : Res PyData) (Q : VK) : Prop := match r with
  | .ok d g' => ∀ v G' H', GI W g' dr G' H' → Ext dr G H G' H' → Pk W.K dr G' H' v d → Q v H'
  | .bad d g' => badP W dr G H d g'
  | .no => False
def tP (W : Wd) (f : Fn) : TE := fun σ H Q => ∃ ρ g dr ad G, SR W ρ g dr ad σ G H ∧ okP W dr G H (f ρ g) Q
theorem okP.mono {W : Wd} {dr : Option Addr} {G H G1 H1 : Hp} {r : Res PyData} {Q Q' : VK} (h : okP W dr G H r Q) (e : Ext dr G H G1 H1) (q : ∀ v H, Q v H → Q' v H) : okP W dr G1 H1 r Q' := by
  cases r with
  | ok d g' => exact fun v G' H' i x rp => q _ _ (h v G' H' i (e.trans x) rp)
  | bad d g' => exact badP.mono h e
  | no => exact h
theorem poP {W : Wd} {dr : Option Addr} {Q : VK} : Po W dr (fun G H r => okP W dr G H r Q) := ⟨fun _ _ _ _ h => h, fun _ _ h => h, fun _ _ _ _ _ h e => okP.mono h e fun _ _ z => z⟩
theorem okE_P {W : Wd} {dr : Option Addr} {G H : Hp} {r : Res PyData} {Q : VK} (h : okP W dr G H r Q) : okE W dr G H r Q := by
  cases r with
  | ok d g' => exact fun v G' H' i x rp => h v G' H' i x (.inl rp)
  | bad d g' => exact h
  | no => exact h
/-- what may be handed on may be looked at -/
theorem cp_of {X : Cx} {W : Wd} {e : Expr} {f : Fn} (h : PE X e (tE W f)) : PE X e (tP W f) := by
  refine PE.imp h ?_
  rintro σ H Q ⟨ρ, g, dr, ad, G, S, h⟩
  exact ⟨ρ, g, dr, ad, G, S, okE_P h⟩
theorem seqP {β : Type} {W : Wd} {ρ : Env} {g : Gs} {dr : Option Addr} {ad : Nat → Addr} {σ : St} {G H : Hp} {f : Fn} {k : PyData → Gs → Res β} {P : Hp → Hp → Res β → Prop} {R : VK} (S : SR W ρ g dr ad σ G H) (po : Po W dr P) (h : P G H ((f ρ g).bind k))
    (q : ∀ v H1 x g1 G1, SR W ρ g1 dr ad σ G1 H1 → Ext dr G H G1 H1 → Pk W.K dr G1 H1 v x → P G1 H1 (k x g1) → R v H1) : tP W f σ H R := by
  refine ⟨ρ, g, dr, ad, G, S, ?_⟩
  cases e : f ρ g with
  | ok d g1 =>
    rw [e] at h
    exact fun v G1 H1 i x rp => q v H1 d g1 G1 (S.ext x i) x rp (po.mono _ _ _ _ _ h x)
  | bad d g1 => rw [e] at h; exact po.bad _ _ _ _ h
  | no => rw [e] at h; exact (po.no _ _ h).elim
/-- a name, looked at -/
def fPk (i : Nat) : Fn := fun ρ g => match ρ[i]? with
  | some (.sh d) => .ok d g
  | some (.ow d) => .ok d g
  | _ => .no
theorem cp_var {X : Cx} {W : Wd} {i : Nat} {x : Str} {pos : Pos} (h : PE X (.Name x pos) (tVar i)) : PE X (.Name x pos) (tP W (fPk i)) := by
  refine PE.imp h ?_
  rintro σ H Q ⟨ρ, g, dr, ad, G, S, h⟩
  unfold fPk at h
  cases e : ρ[i]? with
  | none => rw [e] at h; exact h.elim
  | some sl =>
    rw [e] at h
    cases sl with
    | sh d =>
      obtain ⟨v, h1, h2⟩ := S.slot i _ e
      exact ⟨v, h1, h v G H S.gi Ext.refl (.inl h2)⟩
    | un => exact h.elim
    | ow d =>
      obtain ⟨h1, h2, h3, h4⟩ := S.slot i _ e
      exact ⟨_, h1, h _ G H S.gi Ext.refl (.inr ⟨_, rfl, h2, h3, h4⟩)⟩
    | dr => exact h.elim
    | sc ns => exact h.elim

/-! ### operators by data -/
/-- an operator by data: operands are looked at, the result may be handed on -/
def OpP (W : Wd) (r : R2) (k : PyData → PyData → Gs → Res PyData) : Prop :=
  ∀ (dr : Option Addr) (g : Gs) (G H : Hp) (v w : V) (x y : PyData) (Q : VK), GI W g dr G H → Pk W.K dr G H v x → Pk W.K dr G H w y → okE W dr G H (k x y g) Q → r v w H Q
theorem tOp_P {W : Wd} {r : R2} {k : PyData → PyData → Gs → Res PyData} {fa fb : Fn} (o : OpP W r k) : ∀ σ H Q, tE W (fBin k fa fb) σ H Q → tOp r (tP W fa) (tP W fb) σ H Q := by
  rintro σ H Q ⟨ρ, g, dr, ad, G, S, h⟩
  refine seqP S poE h fun v H1 x g1 G1 S1 x1 r1 h1 => ?_
  refine seqP S1 poE h1 fun w H2 y g2 G2 S2 x2 r2 h2 => ?_
  exact o dr g2 G2 H2 v w x y Q S2.gi (r1.ext x2) r2 h2
section
variable {X : Cx} {W : Wd} {r : R2} {k : PyData → PyData → Gs → Res PyData} {a b : Expr} {fa fb : Fn} {pos : Pos}
theorem cp_bin {op : Operator} (ho : OpR X (binaryOp op) r) (o : OpP W r k) (ha : PE X a (tP W fa)) (hb : PE X b (tP W fb)) : PE X (.BinOp a op b pos) (tE W (fBin k fa fb)) := PE.imp (pe_op ho ha hb) (tOp_P o)
theorem cp_cmp {op : CmpOp} (ho : OpR X (compareOp op) r) (o : OpP W r k) (ha : PE X a (tP W fa)) (hb : PE X b (tP W fb)) (hm : behindInMarks op b = false) : PE X (.Compare a [op] [b] pos) (tE W (fBin k fa fb)) := PE.imp (pe_cmpR ho ha hb hm) (tOp_P o)
theorem ctp_cmp {op : CmpOp} (ho : OpR X (compareOp op) r) (o : OpP W r k) (ha : PE X a (tP W fa)) (hb : PE X b (tP W fb)) (hm : behindInMarks op b = false) : PT X (.Compare a [op] [b] pos) (tT W (fBin k fa fb)) := by
  refine PT.imp (pt_cmpR ho ha hb hm) fun σ H Q h => ?_
  exact tOp_P o σ H _ (tT_E h)
end
theorem OpP.or_left {W : Wd} {r r' : R2} {k : PyData → PyData → Gs → Res PyData} (h : OpP W r k) : OpP W (fun x y H Q => r x y H Q ∨ r' x y H Q) k := fun dr g G H v w x y Q i p q z => .inl (h dr g G H v w x y Q i p q z)

/-! #### == and != -/
def smD (x : PyData) : Bool := x.plain && decide (x.depth ≤ 60)
theorem smD_iff {x : PyData} : smD x = true ↔ x.plain = true ∧ x.depth ≤ 60 := by simp [smD]
def kEq (x y : PyData) (g : Gs) : Res PyData := if smD x && smD y then .ok (.bool (PyData.eqv x y)) g else .no
def kNe (x y : PyData) (g : Gs) : Res PyData := if smD x && smD y then .ok (.bool (!PyData.eqv x y)) g else .no
def rEqP (K : PySem.W.Frag) : R2 := fun x y H Q => ∃ d e, Dp K H x d ∧ Dp K H y e ∧ smD d = true ∧ smD e = true ∧ Q (.bl (PyData.eqv d e)) H
def rNeP (K : PySem.W.Frag) : R2 := fun x y H Q => ∃ d e, Dp K H x d ∧ Dp K H y e ∧ smD d = true ∧ smD e = true ∧ Q (.bl (!PyData.eqv d e)) H
section
variable {X : Cx} {W : Wd}
theorem or_eq (hu : X.A.units + 64 < cLine) : OpR X (compareOp .Eq) (rEqP X.K) := by
  intro pins s σ H x y v u Q I rx ry h
  obtain ⟨d, e, hd, he, sd, se, q⟩ := h
  obtain ⟨as, r1⟩ := Dp.reads I d x v hd rx
  obtain ⟨bs, r2⟩ := Dp.reads I e y u he ry
  obtain ⟨p1, d1⟩ := smD_iff.mp sd
  obtain ⟨p2, d2⟩ := smD_iff.mp se
  exact SeqAt.eq_plain r1 r2 p1 p2 (by omega) ⟨.bl _, H, I, rfl, q⟩
theorem or_ne (hu : X.A.units + 64 < cLine) : OpR X (compareOp .NotEq) (rNeP X.K) := by
  intro pins s σ H x y v u Q I rx ry h
  obtain ⟨d, e, hd, he, sd, se, q⟩ := h
  obtain ⟨as, r1⟩ := Dp.reads I d x v hd rx
  obtain ⟨bs, r2⟩ := Dp.reads I e y u he ry
  obtain ⟨p1, d1⟩ := smD_iff.mp sd
  obtain ⟨p2, d2⟩ := smD_iff.mp se
  exact SeqAt.ne_plain r1 r2 p1 p2 (by omega) ⟨.bl _, H, I, rfl, q⟩
theorem op_eqP : OpP W (rEqP W.K) kEq := by
  intro dr g G H v w x y Q i p q h
  unfold kEq at h
  by_cases c : (smD x && smD y) = true
  · rw [if_pos c] at h
    simp only [Bool.and_eq_true] at c
    exact ⟨x, y, p.dp i.sub (smD_iff.mp c.1).1, q.dp i.sub (smD_iff.mp c.2).1, c.1, c.2, h (.bl _) G H i Ext.refl (.bl _)⟩
  · rw [if_neg c] at h; exact h.elim
theorem op_neP : OpP W (rNeP W.K) kNe := by
  intro dr g G H v w x y Q i p q h
  unfold kNe at h
  by_cases c : (smD x && smD y) = true
  · rw [if_pos c] at h
    simp only [Bool.and_eq_true] at c
    exact ⟨x, y, p.dp i.sub (smD_iff.mp c.1).1, q.dp i.sub (smD_iff.mp c.2).1, c.1, c.2, h (.bl _) G H i Ext.refl (.bl _)⟩
  · rw [if_neg c] at h; exact h.elim

/-! #### order of ints -/
def kCmpI (f : Int → Int → Bool) (x y : PyData) (g : Gs) : Res PyData := match x, y with
  | .int i, .int j => .ok (.bool (f i j)) g
  | _, _ => .no
theorem op_cmpI {f : Int → Int → Bool} : OpP W (rI0 fun i j => .bl (f i j)) (kCmpI f) := by
  intro dr g G H v w x y Q i p q h
  cases x <;> cases y <;> first
    | exact h.elim
    | (exact ⟨_, _, p.int, q.int, h (.bl _) G H i Ext.refl (.bl _)⟩)
/-- arithmetic of ints -/
def kAri (c : Int → Int → Bool) (f : Int → Int → Int) (x y : PyData) (g : Gs) : Res PyData := match x, y with
  | .int i, .int j => if c i j then .ok (.int (f i j)) g else .no
  | _, _ => .no
theorem op_ari {C : Int → Int → Prop} {c : Int → Int → Bool} {f : Int → Int → Int} (hc : ∀ i j, c i j = true → C i j) : OpP W (rI C fun i j => .int (f i j)) (kAri c f) := by
  intro dr g G H v w x y Q i p q h
  cases x <;> cases y <;> first
    | exact h.elim
    | (rename_i a b
       unfold kAri at h
       simp only at h
       by_cases z : c a b = true
       · rw [if_pos z] at h
         exact ⟨_, _, p.int, q.int, hc _ _ z, h (.int _) G H i Ext.refl (.int _)⟩
       · rw [if_neg z] at h; exact h.elim)
def cMul (i j : Int) : Bool := decide (i.natAbs < 18446744073709551616) || decide (j.natAbs < 18446744073709551616)
theorem cMul_ok (i j : Int) (h : cMul i j = true) : CMul i j := by
  unfold cMul at h
  simp only [Bool.or_eq_true, decide_eq_true_eq] at h
  unfold CMul
  rcases h with h | h
  · exact .inl (by omega)
  · exact .inr (by omega)
def cDiv (_ j : Int) : Bool := decide (0 < j) && decide (j.natAbs.log2 < 9000)
theorem cDiv_ok (i j : Int) (h : cDiv i j = true) : CDivW i j := by
  unfold cDiv at h
  simp only [Bool.and_eq_true, decide_eq_true_eq] at h
  exact h
def cMod (_ j : Int) : Bool := decide (0 < j)
def cPow (i j : Int) : Bool := decide (0 ≤ j) && decide (j ≤ 1000) && decide (i.natAbs < 18446744073709551616)
theorem cPow_ok (i j : Int) (h : cPow i j = true) : CPow i j := by
  unfold cPow at h
  simp only [Bool.and_eq_true, decide_eq_true_eq] at h
  exact ⟨h.1.1, by omega, by have := h.2; omega⟩

/-! #### + -/
def kAdd (x y : PyData) (g : Gs) : Res PyData := match x, y with
  | .int i, .int j => .ok (.int (i + j)) g
  | .tuple a, .tuple b => if a.length + b.length ≤ sizeLine then .ok (.tuple (a ++ b)) g else .no
  | .list a, .list b => if a.length + b.length ≤ sizeLine then .ok (.list (a ++ b)) g else .no
  | .str a, .str b => if a.length + b.length ≤ sizeLine then .ok (.str (a ++ b)) g else .no
  | _, _ => .no
theorem or_add : OpR X (binaryOp .Add) (fun x y H Q => (∃ i j, x = .int i ∧ y = .int j ∧ Q (.int (i + j)) H) ∨ (rCatA X.K x y H Q ∨ (rCat x y H Q ∨ (∃ i j, x = .str i ∧ y = .str j ∧ i.length + j.length ≤ sizeLine ∧ Q (.str (i ++ j)) H)))) :=
  op_add.or (op_catA.or (op_cat.or op_add_str))
theorem op_addP : OpP W (fun x y H Q => (∃ i j, x = .int i ∧ y = .int j ∧ Q (.int (i + j)) H) ∨ (rCatA W.K x y H Q ∨ (rCat x y H Q ∨ (∃ i j, x = .str i ∧ y = .str j ∧ i.length + j.length ≤ sizeLine ∧ Q (.str (i ++ j)) H)))) kAdd := by
  intro dr g G H v w x y Q i p q h
  cases x <;> cases y <;> first
    | exact h.elim
    | (exact .inl ⟨_, _, p.int, q.int, h (.int _) G H i Ext.refl (.int _)⟩)
    | skip
  · rename_i a b
    unfold kAdd at h
    simp only at h
    by_cases c : a.length + b.length ≤ sizeLine
    · rw [if_pos c] at h
      exact .inr (.inr (.inr ⟨_, _, p.str, q.str, c, h (.str _) G H i Ext.refl (.str _)⟩))
    · rw [if_neg c] at h; exact h.elim
  · rename_i a b
    unfold kAdd at h
    simp only at h
    by_cases c : a.length + b.length ≤ sizeLine
    · rw [if_pos c] at h
      obtain ⟨pa, va, rfl, h1, r1⟩ := p.lst i.sub
      obtain ⟨pb, vb, rfl, h2, r2⟩ := q.lst i.sub
      refine .inr (.inr (.inl ⟨pa, pb, va, vb, rfl, rfl, h1, h2, by rw [r1.length, r2.length]; exact c, fun l hl => ?_⟩))
      have i' := i.add (o := .lst (va ++ vb)) hl trivial
      exact h _ _ _ i' (Ext.add i hl) (.lst upd_same ((r1.append r2).mono (Ext.add (o := .lst (va ++ vb)) i hl).g))
    · rw [if_neg c] at h; exact h.elim
  · rename_i a b
    unfold kAdd at h
    simp only at h
    by_cases c : a.length + b.length ≤ sizeLine
    · rw [if_pos c] at h
      obtain ⟨pa, va, rfl, h1, r1⟩ := p.tup
      obtain ⟨pb, vb, rfl, h2, r2⟩ := q.tup
      refine .inr (.inl ⟨pa, pb, va, vb, rfl, rfl, SqT.of (i.sub _ _ h1), SqT.of (i.sub _ _ h2), by rw [r1.length, r2.length]; exact c, fun z => ?_, fun z z2 => ?_, fun z z2 l hl => ?_⟩)
      · subst z
        cases r1
        exact h _ G H i Ext.refl (.tup h2 r2)
      · subst z2
        cases r2
        exact h _ G H i Ext.refl (.tup h1 (by rw [List.append_nil]; exact r1))
      · have i' := i.add (o := .tup (va ++ vb)) hl trivial
        exact h _ _ _ i' (Ext.add i hl) (.tup upd_same ((r1.append r2).mono (Ext.add (o := .tup (va ++ vb)) i hl).g))
    · rw [if_neg c] at h; exact h.elim

/-! #### None -/
def fIsN (b : Bool) (fa : Fn) : Fn := fun ρ g => (fa ρ g).bind fun x g1 => .ok (.bool (isNonD x == b)) g1
theorem cp_isN {a : Expr} {fa : Fn} {j : Nat} {pos pos' : Pos} (ha : PE X a (tP W fa)) : PE X (.Compare a [.Is] [.Constant .none j pos'] pos) (tE W (fIsN true fa)) := by
  refine PE.imp (pe_cmp (pc_isN ha)) ?_
  rintro σ H Q ⟨ρ, g, dr, ad, G, S, h⟩
  refine seqP S poE h fun v H1 x g1 G1 S1 x1 r1 h1 => ?_
  rw [r1.non_iff]
  have e : (isNonD x == true) = isNonD x := by cases isNonD x <;> rfl
  rw [e] at h1
  exact h1 _ G1 H1 S1.gi Ext.refl (.bl _)
theorem cp_notN {a : Expr} {fa : Fn} {j : Nat} {pos pos' : Pos} (ha : PE X a (tP W fa)) : PE X (.Compare a [.IsNot] [.Constant .none j pos'] pos) (tE W (fIsN false fa)) := by
  refine PE.imp (pe_cmp (pc_notN ha)) ?_
  rintro σ H Q ⟨ρ, g, dr, ad, G, S, h⟩
  refine seqP S poE h fun v H1 x g1 G1 S1 x1 r1 h1 => ?_
  rw [r1.non_iff]
  have e : (isNonD x == false) = !isNonD x := by cases isNonD x <;> rfl
  rw [e] at h1
  exact h1 _ G1 H1 S1.gi Ext.refl (.bl _)
theorem ctp_isN {a : Expr} {fa : Fn} {j : Nat} {pos pos' : Pos} (ha : PE X a (tP W fa)) : PT X (.Compare a [.Is] [.Constant .none j pos'] pos) (tT W (fIsN true fa)) := by
  refine PT.imp (pt_cmp (pc_isN ha)) ?_
  intro σ H Q h
  obtain ⟨ρ, g, dr, ad, G, S, h⟩ := tT_E h
  refine seqP S poE h fun v H1 x g1 G1 S1 x1 r1 h1 => ?_
  rw [r1.non_iff]
  have e : (isNonD x == true) = isNonD x := by cases isNonD x <;> rfl
  rw [e] at h1
  exact h1 _ G1 H1 S1.gi Ext.refl (.bl _)
theorem ctp_notN {a : Expr} {fa : Fn} {j : Nat} {pos pos' : Pos} (ha : PE X a (tP W fa)) : PT X (.Compare a [.IsNot] [.Constant .none j pos'] pos) (tT W (fIsN false fa)) := by
  refine PT.imp (pt_cmp (pc_notN ha)) ?_
  intro σ H Q h
  obtain ⟨ρ, g, dr, ad, G, S, h⟩ := tT_E h
  refine seqP S poE h fun v H1 x g1 G1 S1 x1 r1 h1 => ?_
  rw [r1.non_iff]
  have e : (isNonD x == false) = !isNonD x := by cases isNonD x <;> rfl
  rw [e] at h1
  exact h1 _ G1 H1 S1.gi Ext.refl (.bl _)
end
end PL
end L2
set_option Elab.async false
set_option linter.all false
set_option maxRecDepth 100000
/-! PL 3: tests, places, displays. -/
namespace L2
namespace PL
open PySem PySem.Spec PyProof.Rows

/-! ### and, or, not, if-else -/
def fAnd (fa fb : Fn) : Fn := fun ρ g => (fa ρ g).bind fun x g1 => match x with
  | .bool true => fb ρ g1
  | .bool false => .ok (.bool false) g1
  | _ => .no
def fOr (fa fb : Fn) : Fn := fun ρ g => (fa ρ g).bind fun x g1 => match x with
  | .bool true => .ok (.bool true) g1
  | .bool false => fb ρ g1
  | _ => .no
def fNot (fa : Fn) : Fn := fun ρ g => (fa ρ g).bind fun x g1 => match x with
  | .bool b => .ok (.bool (!b)) g1
  | _ => .no
def fIte (ft fa fb : Fn) : Fn := fun ρ g => (ft ρ g).bind fun x g1 => match x with
  | .bool true => fa ρ g1
  | .bool false => fb ρ g1
  | _ => .no
section
variable {X : Cx} {W : Wd} {a b c : Expr} {fa fb fc : Fn} {rest : List Expr} {pos : Pos}
theorem okT_ret {dr : Option Addr} {G H : Hp} {b : Bool} {g : Gs} {Q : Bool → Hp → Prop} (i : GI W g dr G H) (h : okT W dr G H (.ok (.bool b) g) Q) : Q b H := h G H i Ext.refl
theorem okE_ret {dr : Option Addr} {G H : Hp} {d : PyData} {v : V} {g : Gs} {Q : VK} (i : GI W g dr G H) (r : Rp W.K G v d) (h : okE W dr G H (.ok d g) Q) : Q v H := h v G H i Ext.refl r
theorem ctw_and1 (ha : PT X a (tT W fa)) : PW X (.BoolOp .And [a] pos) (tT W fa) := pw_and1 ha
theorem ctw_or1 (ha : PT X a (tT W fa)) : PW X (.BoolOp .Or [a] pos) (tT W fa) := pw_or1 ha
theorem ctw_and (ha : PT X a (tT W fa)) (hb : PW X (.BoolOp .And (b :: rest) pos) (tT W fb)) : PW X (.BoolOp .And (a :: b :: rest) pos) (tT W (fAnd fa fb)) := by
  refine PW.imp (pw_and ha hb) ?_
  rintro σ H Q ⟨ρ, g, dr, ad, G, S, h⟩
  refine seqT S poT h (fun x g1 n => ?_) fun c H1 g1 G1 S1 x1 h1 => ?_
  · cases x <;> first | rfl | exact absurd rfl (n _)
  · cases c with
    | true => exact ⟨ρ, g1, dr, ad, G1, S1, h1⟩
    | false => exact okT_ret S1.gi h1
theorem ctw_or (ha : PT X a (tT W fa)) (hb : PW X (.BoolOp .Or (b :: rest) pos) (tT W fb)) : PW X (.BoolOp .Or (a :: b :: rest) pos) (tT W (fOr fa fb)) := by
  refine PW.imp (pw_or ha hb) ?_
  rintro σ H Q ⟨ρ, g, dr, ad, G, S, h⟩
  refine seqT S poT h (fun x g1 n => ?_) fun c H1 g1 G1 S1 x1 h1 => ?_
  · cases x <;> first | rfl | exact absurd rfl (n _)
  · cases c with
    | true => exact okT_ret S1.gi h1
    | false => exact ⟨ρ, g1, dr, ad, G1, S1, h1⟩
theorem ct_not (ha : PT X a (tT W fa)) : PT X (.UnaryOp .Not a pos) (tT W (fNot fa)) := by
  refine PT.imp (pt_not ha) ?_
  rintro σ H Q ⟨ρ, g, dr, ad, G, S, h⟩
  refine seqT S poT h (fun x g1 n => ?_) fun c H1 g1 G1 S1 x1 h1 => ?_
  · cases x <;> first | rfl | exact absurd rfl (n _)
  · exact okT_ret S1.gi h1
theorem ce_one {op : BoolOp} (ha : PE X a (tE W fa)) : PE X (.BoolOp op [a] pos) (tE W fa) := pe_one ha
theorem ce_and (ha : PE X a (tE W fa)) (hb : PE X (.BoolOp .And (b :: rest) pos) (tE W fb)) : PE X (.BoolOp .And (a :: b :: rest) pos) (tE W (fAnd fa fb)) := by
  refine PE.imp (pe_and ha hb) ?_
  rintro σ H Q ⟨ρ, g, dr, ad, G, S, h⟩
  refine seqE S poE h fun v H1 x g1 G1 S1 x1 r1 h1 => ?_
  cases x with
  | bool c =>
    refine ⟨c, r1.inv_bool, ?_⟩
    cases c with
    | true => exact ⟨ρ, g1, dr, ad, G1, S1, h1⟩
    | false => exact okE_ret S1.gi (.bl _) h1
  | none | int | str | list | tuple | dict => exact h1.elim
theorem ce_or (ha : PE X a (tE W fa)) (hb : PE X (.BoolOp .Or (b :: rest) pos) (tE W fb)) : PE X (.BoolOp .Or (a :: b :: rest) pos) (tE W (fOr fa fb)) := by
  refine PE.imp (pe_or ha hb) ?_
  rintro σ H Q ⟨ρ, g, dr, ad, G, S, h⟩
  refine seqE S poE h fun v H1 x g1 G1 S1 x1 r1 h1 => ?_
  cases x with
  | bool c =>
    refine ⟨c, r1.inv_bool, ?_⟩
    cases c with
    | true => exact okE_ret S1.gi (.bl _) h1
    | false => exact ⟨ρ, g1, dr, ad, G1, S1, h1⟩
  | none | int | str | list | tuple | dict => exact h1.elim
theorem ce_not (ha : PE X a (tE W fa)) : PE X (.UnaryOp .Not a pos) (tE W (fNot fa)) := by
  refine PE.imp (pe_not ha) ?_
  rintro σ H Q ⟨ρ, g, dr, ad, G, S, h⟩
  refine seqE S poE h fun v H1 x g1 G1 S1 x1 r1 h1 => ?_
  cases x with
  | bool c => exact ⟨c, r1.inv_bool, okE_ret S1.gi (.bl _) h1⟩
  | none | int | str | list | tuple | dict => exact h1.elim
theorem ce_ite (hc : PT X c (tT W fc)) (ha : PE X a (tE W fa)) (hb : PE X b (tE W fb)) : PE X (.IfExp c a b pos) (tE W (fIte fc fa fb)) := by
  refine PE.imp (pe_ifExp hc ha hb) ?_
  rintro σ H Q ⟨ρ, g, dr, ad, G, S, h⟩
  refine seqT S poE h (fun x g1 n => ?_) fun c H1 g1 G1 S1 x1 h1 => ?_
  · cases x <;> first | rfl | exact absurd rfl (n _)
  · cases c with
    | true => exact ⟨ρ, g1, dr, ad, G1, S1, h1⟩
    | false => exact ⟨ρ, g1, dr, ad, G1, S1, h1⟩
theorem ct_ite (hc : PT X c (tT W fc)) (ha : PT X a (tT W fa)) (hb : PT X b (tT W fb)) : PT X (.IfExp c a b pos) (tT W (fIte fc fa fb)) := by
  refine ⟨fun pins s σ H Q I h => ?_⟩
  obtain ⟨ρ, g, dr, ad, G, S, h⟩ := h
  have z : tT W fc σ H (fun b' H1 => if b' = true then tT W fa σ H1 Q else tT W fb σ H1 Q) := by
    refine seqT S poT h (fun x g1 n => ?_) fun c H1 g1 G1 S1 x1 h1 => ?_
    · cases x <;> first | rfl | exact absurd rfl (n _)
    · cases c with
      | true => exact ⟨ρ, g1, dr, ad, G1, S1, h1⟩
      | false => exact ⟨ρ, g1, dr, ad, G1, S1, h1⟩
  refine PyProof.Rows.isTrue_IfExp (thn (hc.run pins s σ H _ I z) fun b' s1 ⟨H1, I1, q1⟩ => ?_)
  cases b' with
  | true => exact ha.run pins s1 σ H1 Q I1 q1
  | false => exact hb.run pins s1 σ H1 Q I1 q1
theorem ct_name {x : Str} {pos : Pos} (h : PE X (.Name x pos) (tE W fa)) : PT X (.Name x pos) (tT W fa) := pt_of h
theorem ct_call {f : Expr} {as : List Expr} {ks : List Keyword} {pos : Pos} (h : PE X (.Call f as ks pos) (tE W fa)) : PT X (.Call f as ks pos) (tT W fa) := pt_of h
theorem ct_sub {x i : Expr} {pos : Pos} (h : PE X (.Subscript x i pos) (tE W fa)) : PT X (.Subscript x i pos) (tT W fa) := pt_of h
theorem ct_cst {k : Const} {n : Nat} {pos : Pos} (h : PE X (.Constant k n pos) (tE W fa)) : PT X (.Constant k n pos) (tT W fa) := pt_of h

/-! ### a chain of two comparisons of ints -/
def fChn (k1 k2 : PyData → PyData → Gs → Res PyData) (fa fb fc : Fn) : Fn := fun ρ g => (fa ρ g).bind fun x g1 => (fb ρ g1).bind fun y g2 => (k1 x y g2).bind fun z g3 => match z with
  | .bool true => (fc ρ g3).bind fun w g4 => k2 y w g4
  | .bool false => .ok (.bool false) g3
  | _ => .no
theorem bindE {β : Type} {dr : Option Addr} {G H : Hp} {r : Res PyData} {k : PyData → Gs → Res β} {P : Hp → Hp → Res β → Prop} {R : VK} (po : Po W dr P) (h : P G H (r.bind k))
    (q : ∀ v H1 x g1 G1, GI W g1 dr G1 H1 → Ext dr G H G1 H1 → Rp W.K G1 v x → P G1 H1 (k x g1) → R v H1) : okE W dr G H r R := by
  cases r with
  | ok d g1 => exact fun v G1 H1 i x rp => q v H1 d g1 G1 i x rp (po.mono _ _ _ _ _ h x)
  | bad d g1 => exact po.bad _ _ _ _ h
  | no => exact (po.no _ _ h).elim
theorem tChn_of {r r' : R2} {k1 k2 : PyData → PyData → Gs → Res PyData} (o1 : OpP W r k1) (o2 : OpP W r' k2) (σ : St) (H : Hp) (Q : VK) (h : tE W (fChn k1 k2 fa fb fc) σ H Q) : tChain r r' (tP W fa) (tP W fb) (tP W fc) σ H Q := by
  obtain ⟨ρ, g, dr, ad, G, S, h⟩ := h
  refine seqP S poE h fun v H1 x g1 G1 S1 x1 r1 h1 => ?_
  refine seqP S1 poE h1 fun w H2 y g2 G2 S2 x2 r2 h2 => ?_
  refine o1 dr g2 G2 H2 v w x y _ S2.gi (r1.ext x2) r2 (bindE poE h2 fun u H3 z g3 G3 i3 x3 r3 h3 => ?_)
  cases z with
  | bool c =>
    refine ⟨c, r3.inv_bool, ?_⟩
    cases c with
    | true =>
      rw [if_pos rfl]
      refine seqP (S2.ext x3 i3) poE h3 fun t H4 e g4 G4 S4 x4 r4 h4 => ?_
      exact o2 dr g4 G4 H4 w t y e Q S4.gi ((r2.ext x3).ext x4) r4 h4
    | false =>
      rw [if_neg Bool.false_ne_true]
      exact okE_ret i3 (.bl _) h3
  | none | int | str | list | tuple | dict => exact h3.elim
theorem cp_chn {op op' : CmpOp} {r r' : R2} {k1 k2 : PyData → PyData → Gs → Res PyData} (ho : OpR X (compareOp op) r) (ho' : OpR X (compareOp op') r') (o1 : OpP W r k1) (o2 : OpP W r' k2)
    (ha : PE X a (tP W fa)) (hb : PE X b (tP W fb)) (hc : PE X c (tP W fc)) (hm : behindInMarks op' c = false) : PE X (.Compare a [op, op'] [b, c] pos) (tE W (fChn k1 k2 fa fb fc)) :=
  PE.imp (pe_chain ho ho' ha hb hc hm) (tChn_of o1 o2)
theorem ctp_chn {op op' : CmpOp} {r r' : R2} {k1 k2 : PyData → PyData → Gs → Res PyData} (ho : OpR X (compareOp op) r) (ho' : OpR X (compareOp op') r') (o1 : OpP W r k1) (o2 : OpP W r' k2)
    (ha : PE X a (tP W fa)) (hb : PE X b (tP W fb)) (hc : PE X c (tP W fc)) (hm : behindInMarks op' c = false) : PT X (.Compare a [op, op'] [b, c] pos) (tT W (fChn k1 k2 fa fb fc)) := by
  refine PT.imp (pt_chain ho ho' ha hb hc hm) fun σ H Q h => ?_
  exact tChn_of o1 o2 σ H _ (tT_E h)

/-! ### in, not in: lists, tuples, texts of one sign -/
def inD (x : PyData) (y : PyData) : Option Bool := match y with
  | .list ys => if smD x && smD y then some (ys.any fun z => PyData.eqv z x) else none
  | .tuple ys => if smD x && smD y then some (ys.any fun z => PyData.eqv z x) else none
  | _ => none
def rInP (K : PySem.W.Frag) (neg : Bool) : R2 := fun x y H Q => ∃ d e b, Dp K H x d ∧ Dp K H y e ∧ inD d e = some b ∧ Q (.bl (if neg then !b else b)) H
theorem depthAll_lt {ys : List PyData} (h : (PyData.list ys).depth ≤ 60) : PyData.depthAll ys ≤ 60 := by simp only [PyData.depth] at h; omega
theorem depthAll_lt' {ys : List PyData} (h : (PyData.tuple ys).depth ≤ 60) : PyData.depthAll ys ≤ 60 := by simp only [PyData.depth] at h; omega
theorem or_in (hu : X.A.units + 200 < cLine) : OpR X (compareOp .In) (rInP X.K false) := by
  intro pins s σ H x y v u Q I rx ry h
  obtain ⟨d, e, b, hd, he, hb, q⟩ := h
  obtain ⟨as, r1⟩ := Dp.reads I d x v hd rx
  obtain ⟨bs, r2⟩ := Dp.reads I e y u he ry
  cases e with
  | list ys =>
    simp only [inD] at hb
    split at hb
    · rename_i c
      simp only [Bool.and_eq_true, smD_iff] at c
      cases hb
      exact SeqAt.in_list_data r2 r1 (by simpa [PyData.plain] using c.2.1) c.1.1 (by have := depthAll_lt c.2.2; omega) ⟨.bl _, H, I, rfl, q⟩
    · cases hb
  | tuple ys =>
    simp only [inD] at hb
    split at hb
    · rename_i c
      simp only [Bool.and_eq_true, smD_iff] at c
      cases hb
      exact SeqAt.in_tuple_data r2 r1 (by simpa [PyData.plain] using c.2.1) c.1.1 (by have := depthAll_lt' c.2.2; omega) ⟨.bl _, H, I, rfl, q⟩
    · cases hb
  | none | bool | int | str | dict => simp [inD] at hb
theorem or_notin (hu : X.A.units + 200 < cLine) : OpR X (compareOp .NotIn) (rInP X.K true) := by
  intro pins s σ H x y v u Q I rx ry h
  obtain ⟨d, e, b, hd, he, hb, q⟩ := h
  obtain ⟨as, r1⟩ := Dp.reads I d x v hd rx
  obtain ⟨bs, r2⟩ := Dp.reads I e y u he ry
  cases e with
  | list ys =>
    simp only [inD] at hb
    split at hb
    · rename_i c
      simp only [Bool.and_eq_true, smD_iff] at c
      cases hb
      exact SeqAt.notIn_list_data r2 r1 (by simpa [PyData.plain] using c.2.1) c.1.1 (by have := depthAll_lt c.2.2; omega) ⟨.bl _, H, I, rfl, q⟩
    · cases hb
  | tuple ys =>
    simp only [inD] at hb
    split at hb
    · rename_i c
      simp only [Bool.and_eq_true, smD_iff] at c
      cases hb
      exact SeqAt.notIn_tuple_data r2 r1 (by simpa [PyData.plain] using c.2.1) c.1.1 (by have := depthAll_lt' c.2.2; omega) ⟨.bl _, H, I, rfl, q⟩
    · cases hb
  | none | bool | int | str | dict => simp [inD] at hb
/-- a sign in a text -/
def signIn (x y : PyData) : Option Bool := match x, y with
  | .str s, .str z => if s.cps.size = 1 then some (decide (s.cps.getD 0 0 ∈ z.cps.toList)) else none
  | _, _ => none
theorem sign_eq {s : Str} (h : s.cps.size = 1) : s = ⟨#[s.cps.getD 0 0]⟩ := by
  obtain ⟨l⟩ := s
  obtain ⟨l⟩ := l
  match l, h with
  | [c], _ => rfl

/-! ### places -/
def atD (x : PyData) (y : PyData) : Option PyData := match x, y with
  | .list xs, .int i => atI xs i
  | .tuple xs, .int i => atI xs i
  | .str z, .int i => if z.length ≤ sizeLine then (atI z.cps.toList i).map fun c => .str ⟨#[c]⟩ else none
  | _, _ => none
theorem atI_rp {K : PySem.W.Frag} {G : Hp} {vs : List V} {ds : List PyData} {i : Int} {d : PyData} (r : RpL K G vs ds) (h : atI ds i = some d) : ∃ v, atI vs i = some v ∧ Rp K G v d := by
  unfold atI at h ⊢
  rw [r.length]
  cases e : ixN ds.length i with
  | none => rw [e] at h; cases h
  | some j =>
    rw [e] at h
    exact r.get h
/-! ### slices -/
def cutD {α : Type} (xs : List α) (lo hi : Option Int) : List α := (xs.drop (HT.sIx xs.length 0 lo)).take (HT.sIx xs.length xs.length hi - HT.sIx xs.length 0 lo)
theorem RpL.cut {K : PySem.W.Frag} {G : Hp} {vs : List V} {ds : List PyData} (r : RpL K G vs ds) (lo hi : Option Int) : RpL K G (cutV vs lo hi) (cutD ds lo hi) := by
  unfold cutV cutD
  rw [r.length]
  exact (r.drop _).take _
def kSlc (x : PyData) (lo hi : Option Int) (g : Gs) : Res PyData := match x with
  | .list xs => .ok (.list (cutD xs lo hi)) g
  | .tuple xs => .ok (.tuple (cutD xs lo hi)) g
  | .str z => if z.length ≤ sizeLine then .ok (.str (cutS z lo hi)) g else .no
  | _ => .no
def Res.bindI {β : Type} (f : Option Fn) (ρ : Env) (g : Gs) (k : Option Int → Gs → Res β) : Res β := match f with
  | none => k none g
  | some f => (f ρ g).bind fun x g1 => match x with
    | .int i => k (some i) g1
    | _ => .no
def fSlc (fa : Fn) (fl fh : Option Fn) : Fn := fun ρ g => (fa ρ g).bind fun x g1 => Res.bindI fl ρ g1 fun l g2 => Res.bindI fh ρ g2 fun h g3 => kSlc x l h g3
def tO (W : Wd) : Option Fn → TO
  | none => tNoPart
  | some f => tPart (tP W f)
theorem seqO {β : Type} {ρ : Env} {g : Gs} {dr : Option Addr} {ad : Nat → Addr} {σ : St} {G H : Hp} {f : Option Fn} {k : Option Int → Gs → Res β} {P : Hp → Hp → Res β → Prop} {R : Option Int → Hp → Prop} (S : SR W ρ g dr ad σ G H) (po : Po W dr P) (h : P G H (Res.bindI f ρ g k))
    (q : ∀ o H1 g1 G1, SR W ρ g1 dr ad σ G1 H1 → Ext dr G H G1 H1 → P G1 H1 (k o g1) → R o H1) : tO W f σ H R := by
  cases f with
  | none => exact q none H g G S Ext.refl h
  | some f =>
    refine seqP S po h fun v H1 x g1 G1 S1 x1 r1 h1 => ?_
    cases x with
    | int i => exact ⟨i, r1.int, q _ H1 g1 G1 S1 x1 h1⟩
    | none | bool | str | list | tuple | dict => exact (po.no _ _ h1).elim
theorem cutV_eq (vs : List V) (lo hi : Option Int) : cutV vs lo hi = cutD vs lo hi := rfl
theorem cut_whole {α : Type} {xs : List α} {lo hi : Option Int} (h : HT.sIx xs.length 0 lo = 0 ∧ HT.sIx xs.length xs.length hi = xs.length) : cutD xs lo hi = xs := by
  unfold cutD
  rw [h.1, h.2]
  simp
def rSlc (K : PySem.W.Frag) : V → Option Int → Option Int → Hp → VK → Prop := fun x lo hi H Q => rSlL K x lo hi H Q ∨ (rSlA K x lo hi H Q ∨ rSlS x lo hi H Q)
theorem sl_any : SlR X (rSlc X.K) := sl_list.or (sl_tupA.or sl_str)
theorem rSlc_of {dr : Option Addr} {g : Gs} {G H : Hp} {v : V} {x : PyData} {lo hi : Option Int} {Q : VK} (i : GI W g dr G H) (p : Pk W.K dr G H v x) (h : okE W dr G H (kSlc x lo hi g) Q) : rSlc W.K v lo hi H Q := by
  cases x with
  | list xs =>
    obtain ⟨a, vs, rfl, h1, r1⟩ := p.lst i.sub
    refine .inl ⟨a, vs, rfl, SqL.of h1, fun l hl => ?_⟩
    exact h _ _ _ (i.add hl trivial) (Ext.add i hl) (.lst upd_same ((r1.cut lo hi).mono (Ext.add (dr := dr) (o := .lst (cutV vs lo hi)) i hl).g))
  | tuple xs =>
    obtain ⟨a, vs, rfl, h1, r1⟩ := p.tup
    refine .inr (.inl ⟨a, vs, rfl, SqT.of (i.sub _ _ h1), fun z => ?_, fun z l hl => ?_⟩)
    · have e : cutD xs lo hi = xs := cut_whole (by rw [← r1.length]; exact z)
      exact h _ G H i Ext.refl (.tup h1 (by rw [e]; exact r1))
    · exact h _ _ _ (i.add hl trivial) (Ext.add i hl) (.tup upd_same ((r1.cut lo hi).mono (Ext.add (dr := dr) (o := .tup (cutV vs lo hi)) i hl).g))
  | str z =>
    simp only [kSlc] at h
    by_cases c : z.length ≤ sizeLine
    · rw [if_pos c] at h
      exact .inr (.inr ⟨z, p.str, c, h _ G H i Ext.refl (.str _)⟩)
    · rw [if_neg c] at h; exact h.elim
  | none | bool | int | dict => exact h.elim
theorem cp_slc {lo hi : Option Expr} {fl fh : Option Fn} {p2 pos : Pos} (ha : PE X a (tP W fa)) (hl : PO X lo (tO W fl)) (hh : PO X hi (tO W fh)) (hK : X.K = W.K) : PE X (.Subscript a (.Slice lo hi none p2) pos) (tE W (fSlc fa fl fh)) := by
  refine PE.imp (pe_slice sl_any ha hl hh) ?_
  rintro σ H Q ⟨ρ, g, dr, ad, G, S, h⟩
  refine seqP S poE h fun v H1 x g1 G1 S1 x1 r1 h1 => ?_
  refine seqO S1 poE h1 fun l H2 g2 G2 S2 x2 h2 => ?_
  refine seqO S2 poE h2 fun u H3 g3 G3 S3 x3 h3 => ?_
  rw [hK]
  exact rSlc_of S3.gi ((r1.ext x2).ext x3) h3

/-! ### displays -/
/-- several, in a row -/
abbrev FnL := Env → Gs → Res (List PyData)
def okA (W : Wd) (dr : Option Addr) (G H : Hp) (r : Res (List PyData)) (Q : List V → Hp → Prop) : Prop := match r with
  | .ok ds g' => ∀ vs G' H', GI W g' dr G' H' → Ext dr G H G' H' → RpL W.K G' vs ds → Q vs H'
  | .bad d g' => badP W dr G H d g'
  | .no => False
def tA (W : Wd) (f : FnL) : TA := fun σ H Q => ∃ ρ g dr ad G, SR W ρ g dr ad σ G H ∧ okA W dr G H (f ρ g) Q
theorem okA.mono {dr : Option Addr} {G H G1 H1 : Hp} {r : Res (List PyData)} {Q : List V → Hp → Prop} (h : okA W dr G H r Q) (e : Ext dr G H G1 H1) : okA W dr G1 H1 r Q := by
  cases r with
  | ok d g' => exact fun v G' H' i x rp => h v G' H' i (e.trans x) rp
  | bad d g' => exact badP.mono h e
  | no => exact h
theorem poA {dr : Option Addr} {Q : List V → Hp → Prop} : Po W dr (fun G H r => okA W dr G H r Q) := ⟨fun _ _ _ _ h => h, fun _ _ h => h, fun _ _ _ _ _ h e => okA.mono h e⟩
theorem seqA {β : Type} {ρ : Env} {g : Gs} {dr : Option Addr} {ad : Nat → Addr} {σ : St} {G H : Hp} {f : FnL} {k : List PyData → Gs → Res β} {P : Hp → Hp → Res β → Prop} {R : List V → Hp → Prop} (S : SR W ρ g dr ad σ G H) (po : Po W dr P) (h : P G H ((f ρ g).bind k))
    (q : ∀ vs H1 xs g1 G1, SR W ρ g1 dr ad σ G1 H1 → Ext dr G H G1 H1 → RpL W.K G1 vs xs → P G1 H1 (k xs g1) → R vs H1) : tA W f σ H R := by
  refine ⟨ρ, g, dr, ad, G, S, ?_⟩
  cases e : f ρ g with
  | ok d g1 =>
    rw [e] at h
    exact fun v G1 H1 i x rp => q v H1 d g1 G1 (S.ext x i) x rp (po.mono _ _ _ _ _ h x)
  | bad d g1 => rw [e] at h; exact po.bad _ _ _ _ h
  | no => rw [e] at h; exact (po.no _ _ h).elim
def fNil : FnL := fun _ g => .ok [] g
def fCons (fa : Fn) (fs : FnL) : FnL := fun ρ g => (fa ρ g).bind fun x g1 => (fs ρ g1).bind fun xs g2 => .ok (x :: xs) g2
def itemsD : PyData → Option (List PyData)
  | .list xs => some xs
  | .tuple xs => some xs
  | _ => none
def fStar (fa : Fn) (fs : FnL) : FnL := fun ρ g => (fa ρ g).bind fun x g1 => match itemsD x with
  | some xs => (fs ρ g1).bind fun ys g2 => .ok (xs ++ ys) g2
  | none => .no
theorem ca_nil : PA X [] (tA W fNil) := by
  refine PA.imp pa_nil ?_
  rintro σ H Q ⟨ρ, g, dr, ad, G, S, h⟩
  exact h [] G H S.gi Ext.refl .nil
theorem ca_cons {es : List Expr} {fs : FnL} (ha : PE X a (tE W fa)) (hs : PA X es (tA W fs)) (hst : starEach (a :: es) X.env = (false, eval a X.env) :: starEach es X.env) : PA X (a :: es) (tA W (fCons fa fs)) := by
  refine PA.imp (pa_cons ha hs hst) ?_
  rintro σ H Q ⟨ρ, g, dr, ad, G, S, h⟩
  refine seqE S poA h fun v H1 x g1 G1 S1 x1 r1 h1 => ?_
  refine seqA S1 poA h1 fun vs H2 xs g2 G2 S2 x2 r2 h2 => ?_
  exact h2 (v :: vs) G2 H2 S2.gi Ext.refl (.cons (r1.mono x2.g) r2)
theorem ca_star {es : List Expr} {fs : FnL} {p : Pos} (ha : PE X a (tP W fa)) (hs : PA X es (tA W fs)) : PA X (.Starred a p :: es) (tA W (fStar fa fs)) := by
  refine PA.imp (StX.pa_star ha hs) ?_
  rintro σ H Q ⟨ρ, g, dr, ad, G, S, h⟩
  refine seqP S poA h fun v H1 x g1 G1 S1 x1 r1 h1 => ?_
  cases x with
  | list ds =>
    obtain ⟨l, ws, rfl, hl, rl⟩ := r1.lst S1.gi.sub
    refine ⟨l, ws, rfl, .inr (SqL.of hl), ?_⟩
    refine seqA S1 poA h1 fun vs H2 xs g2 G2 S2 x2 r2 h2 => ?_
    exact h2 _ G2 H2 S2.gi Ext.refl ((rl.mono x2.g).append r2)
  | tuple ds =>
    obtain ⟨l, ws, rfl, hl, rl⟩ := r1.tup
    refine ⟨l, ws, rfl, .inl (SqT.of (S1.gi.sub _ _ hl)), ?_⟩
    refine seqA S1 poA h1 fun vs H2 xs g2 G2 S2 x2 r2 h2 => ?_
    exact h2 _ G2 H2 S2.gi Ext.refl ((rl.mono x2.g).append r2)
  | none | bool | int | str | dict => exact h1.elim
def fTup (fs : FnL) : Fn := fun ρ g => (fs ρ g).bind fun xs g1 => if xs.length ≤ sizeLine then .ok (.tuple xs) g1 else .no
theorem ce_tup {es : List Expr} {fs : FnL} {n : Nat} (hs : PA X es (tA W fs)) : PE X (.Tuple es n pos) (tE W (fTup fs)) := by
  refine PE.imp (pe_tup hs) ?_
  rintro σ H Q ⟨ρ, g, dr, ad, G, S, h⟩
  refine seqA S poE h fun vs H1 xs g1 G1 S1 x1 r1 h1 => ?_
  by_cases c : xs.length ≤ sizeLine
  · rw [if_pos c] at h1
    refine ⟨by rw [r1.length]; exact c, fun p hp => ?_⟩
    exact h1 _ _ _ (S1.gi.add hp trivial) (Ext.add S1.gi hp) (.tup upd_same (r1.mono (Ext.add (dr := dr) (o := .tup vs) S1.gi hp).g))
  · rw [if_neg c] at h1; exact h1.elim
end

/-! ### new things of one's own -/
def okF (W : Wd) (dr : Option Addr) (G H : Hp) (r : Res PyData) (Q : VK) : Prop := match r with
  | .ok d g' => ∀ a G' H', GI W g' dr G' H' → Ext dr G H G' H' → H a = none → G' a = none → dr ≠ some a → OwAt W.K G' H' a d → Q (.ref a) H'
  | .bad d g' => badP W dr G H d g'
  | .no => False
def tF (W : Wd) (f : Fn) : TE := fun σ H Q => ∃ ρ g dr ad G, SR W ρ g dr ad σ G H ∧ okF W dr G H (f ρ g) Q
def freezable : PyData → Bool
  | .list _ => true
  | _ => false
section
variable {X : Cx} {W : Wd} {a : Expr} {fa : Fn} {pos : Pos}
theorem cp_ofF (h : PE X a (tF W fa)) : PE X a (tP W fa) := by
  refine PE.imp h ?_
  rintro σ H Q ⟨ρ, g, dr, ad, G, S, h⟩
  refine ⟨ρ, g, dr, ad, G, S, ?_⟩
  cases e : fa ρ g with
  | ok d g1 => rw [e] at h; exact fun a G' H' i x n1 n2 n3 o => h _ G' H' i x (.inr ⟨a, rfl, n2, n3, o⟩)
  | bad d g1 => rw [e] at h; exact h
  | no => rw [e] at h; exact h
/-- a list, told at once -/
def fLstO (fa : Fn) : Fn := fun ρ g => (fa ρ g).bind fun x g1 => if freezable x then .ok x g1 else .no
theorem GI.freeze {g : Gs} {dr : Option Addr} {G H : Hp} {l : Addr} {vs : List V} (i : GI W g dr G H) (h : H l = some (.lst vs)) (n : G l = none) (d : dr ≠ some l) : GI W g dr (upd G l (.lst vs)) H := by
  refine ⟨fun c u e => ?_, fun c u e => ?_, ?_, i.tabs⟩
  · by_cases hc : c = l
    · subst hc; rw [upd_same] at e; cases e; exact h
    · rw [upd_ne hc] at e; exact i.sub c u e
  · by_cases hc : c = l
    · subst hc; rw [upd_same] at e; cases e; trivial
    · rw [upd_ne hc] at e; exact i.imm c u e
  · have z := i.draw
    cases g with
    | none => exact z
    | some q =>
      obtain ⟨x, v, h1, h2, h3, h4⟩ := z
      have ne : x ≠ l := fun e => d (by rw [h1, e])
      exact ⟨x, v, h1, by rw [upd_ne ne]; exact h2, h3, h4.mono (sub_new n)⟩
theorem ce_ofF (h : PE X a (tF W fa)) : PE X a (tE W (fLstO fa)) := by
  refine PE.imp h ?_
  rintro σ H Q ⟨ρ, g, dr, ad, G, S, h⟩
  refine ⟨ρ, g, dr, ad, G, S, ?_⟩
  unfold fLstO at h
  cases e : fa ρ g with
  | ok d g1 =>
    rw [e] at h
    intro l G' H' i x n1 n2 n3 o
    cases d with
    | list ds =>
      obtain ⟨vs, h1, r1⟩ := o
      have h : okE W dr G H (.ok (.list ds) g1) Q := h
      refine h _ (upd G' l (.lst vs)) H' (i.freeze h1 n2 n3) ?_ (.lst upd_same (r1.mono (sub_new n2)))
      refine ⟨fun c u e => sub_new n2 _ _ (x.g c u e), x.h, fun c u e y m q => ?_, x.d⟩
      have ne : c ≠ l := fun z => by rw [z, n1] at e; cases e
      rw [upd_ne ne]
      exact x.n c u e y m q
    | none | bool | int | str | tuple | dict => exact h.elim
  | bad d g1 => rw [e] at h; exact h
  | no => rw [e] at h; exact h
def fLst (fs : FnL) : Fn := fun ρ g => (fs ρ g).bind fun xs g1 => if xs.length ≤ sizeLine then .ok (.list xs) g1 else .no
theorem okF.mono {dr : Option Addr} {G H G1 H1 : Hp} {r : Res PyData} {Q : VK} (h : okF W dr G H r Q) (e : Ext dr G H G1 H1) : okF W dr G1 H1 r Q := by
  cases r with
  | ok d g' => exact fun a G' H' i x n1 n2 n3 o => h a G' H' i (e.trans x) (e.none_of n1) n2 n3 o
  | bad d g' => exact badP.mono h e
  | no => exact h
theorem poF {dr : Option Addr} {Q : VK} : Po W dr (fun G H r => okF W dr G H r Q) := ⟨fun _ _ _ _ h => h, fun _ _ h => h, fun _ _ _ _ _ h e => okF.mono h e⟩
theorem dr_new {g : Gs} {dr : Option Addr} {G H : Hp} {p : Addr} (i : GI W g dr G H) (h : H p = none) : dr ≠ some p := by
  intro e
  have z := i.draw
  cases g with
  | none => rw [show dr = none from z] at e; cases e
  | some q =>
    obtain ⟨x, v, h1, h2, h3, h4⟩ := z
    rw [h1] at e
    cases e
    rw [h] at h3; cases h3
theorem cf_lst {es : List Expr} {fs : FnL} (hs : PA X es (tA W fs)) : PE X (.List es pos) (tF W (fLst fs)) := by
  refine PE.imp (pe_lst hs) ?_
  rintro σ H Q ⟨ρ, g, dr, ad, G, S, h⟩
  refine seqA S poF h fun vs H1 xs g1 G1 S1 x1 r1 h1 => ?_
  by_cases c : xs.length ≤ sizeLine
  · rw [if_pos c] at h1
    refine ⟨by rw [r1.length]; exact c, fun p hp => ?_⟩
    exact h1 p _ _ (S1.gi.new hp) (Ext.new hp) hp (none_sub S1.gi.sub hp) (dr_new S1.gi hp) ⟨vs, upd_same, r1⟩
  · rw [if_neg c] at h1; exact h1.elim
end
end PL
end L2
set_option Elab.async false
set_option linter.all false
set_option maxRecDepth 100000
/-! PL B: sorting data, tuples among which some are empty. -/
namespace PlM
open PySem PySem.W PySem.Calls PySem.SeqAt PyProof.Rows

section
variable {prog : Program} {w : World} {A : Around} {E : Value → Shared → Prop} {s : Shared}

theorem keyLt_general (x y : Value) : keyLt' general' x y = oneLt' false x y := rfl

/-- the first items of tuples -/
theorem first_tup {M : Model} {v : Value} {xs : List PyData} {as : List Addr} {Q : Option Value → Shared → Prop} (r : Reads s.heap v (.tuple xs) as) (h : ∀ o, o.isSome = !xs.isEmpty → Q o s) : wpAny M A (firstOfTuple' v) Q E s := by
  cases r with
  | @tuple a o vs n _ _ ho hc hd hr =>
    rw [PySem.W.kas_first_eq]
    refine wpAny_bind (Looks.here (show Looks M s.heap (typeOf (.ref a)) o.cls from (Looks.ld ho).andThen .now) ?_)
    rw [hc, if_neg (by first | decide | simp)]
    refine wpAny_bind (listItems_at ho hd (wpAny_pure (h _ ?_)))
    have hl : vs.size = xs.length := by simpa using SeqAt.ReadsAll.length _ _ _ hr
    cases xs with
    | nil =>
      have : vs = #[] := Array.eq_empty_of_size_eq_zero (by simpa using hl)
      subst this; rfl
    | cons x r =>
      have : 0 < vs.size := by rw [hl]; exact Nat.succ_pos _
      simp [this]
theorem firsts_mixed {M : Model} : ∀ {vs : List Value} {dss : List (List PyData)} {Q : List (Option Value) → Shared → Prop}, EachIs (fun v xs => ∃ as, Reads s.heap v (.tuple xs) as) vs dss → (∀ os, os.map Option.isSome = dss.map (fun xs => !xs.isEmpty) → Q os s) → wpAny M A (vs.mapM firstOfTuple') Q E s
  | _, _, Q, .nil, h => by rw [List.mapM_nil]; exact wpAny_pure (h [] rfl)
  | _, _, Q, .cons ⟨as, r⟩ t, h => by
    rw [List.mapM_cons]
    refine wpAny_bind (first_tup r fun o ho => ?_)
    refine wpAny_bind (firsts_mixed t fun os hos => wpAny_pure (h _ ?_))
    rw [List.map_cons, List.map_cons, ho, hos]
theorem kind_mixed {M : Model} {vs : List Value} {dss : List (List PyData)} (e : EachIs (fun v xs => ∃ as, Reads s.heap v (.tuple xs) as) vs dss) (h2 : 2 ≤ vs.length) (hm : [] ∈ dss) (b : Bool) (hb : b = ((dss.head?.map fun xs => !xs.isEmpty).getD false)) (E : Value → Shared → Prop) {Q : SortKind → Shared → Prop} (h : Q (if b then general' else oneType') s) :
    wpAny M A (keyKind' vs.toArray) Q E s := by
  rw [PyProof.Rows.kat_kind_eq, List.mapM_toArray, map_eq_pure_bind]
  refine wpAny_bind (wpAny_bind (firsts_mixed e fun os hos => wpAny_pure ?_))
  have hall : ¬ ((os.toArray.all fun x => x.isSome) = true) := by
    intro q
    simp only [List.all_toArray, List.all_eq_true] at q
    have : (false : Bool) ∈ dss.map (fun xs => !xs.isEmpty) := List.mem_map.mpr ⟨[], hm, rfl⟩
    rw [← hos] at this
    obtain ⟨o, ho, eo⟩ := List.mem_map.mp this
    rw [q o ho] at eo; cases eo
  rw [if_neg hall]
  have hc : ((os.toArray[0]?).bind id).isSome = b := by
    rw [hb]
    cases os with
    | nil =>
      cases dss with
      | nil => rfl
      | cons _ _ => simp at hos
    | cons o os =>
      cases dss with
      | nil => simp at hos
      | cons d ds =>
        rw [List.map_cons, List.map_cons] at hos
        injection hos with h1 _
  by_cases c : b = true
  · rw [if_pos (hc.trans c)]; rw [if_pos c] at h; exact wpAny_pure h
  · rw [if_neg (by rw [hc]; exact c)]
    rw [if_neg c] at h
    obtain ⟨v₁, rest, rfl⟩ : ∃ v₁ rest, vs = v₁ :: rest := by
      match vs, h2 with
      | [], h2 => simp at h2
      | v₁ :: rest, _ => exact ⟨v₁, rest, rfl⟩
    rw [oneTypeOnly'_eq, List.mapM_toArray, map_eq_pure_bind]
    refine wpAny_bind (wpAny_bind (wpAny_bind (PySem.W.kas_mapM (r := Value.type "tuple") _ (fun v hv Q' hq => ?_) (wpAny_pure ?_))))
    · obtain ⟨xs, _, as, r⟩ := e.left v hv
      exact (looks_reads r).here hq
    have hall : ((List.map (fun _ => Value.type "tuple") (v₁ :: rest)).toArray.all fun x => x == Value.type "tuple") = true := by
      simp only [List.all_toArray, List.all_map, List.all_eq_true]
      intro _ _
      rfl
    have h0 : (List.map (fun _ => Value.type "tuple") (v₁ :: rest)).toArray[0]? = some (Value.type "tuple") := by simp
    rw [h0]
    simp only [hall, if_true]
    exact wpAny_pure (wpAny_pure h)
theorem call_tuple_lt {l b : Addr} {items items2 : Array Value} {e r : Nat → Bool} {Q : Value → Shared → Prop} (hl : s.heap.IsTuple l items) (hb : s.heap.IsTuple b items2) (he : ∀ j (h1 : j < items.size) (h2 : j < items2.size), EqAt A.in1 s items[j] items2[j] (e j))
    (hr : ∀ j (h1 : j < items.size) (h2 : j < items2.size), e j = false → RcLt A.in1 s items[j] items2[j] (r j)) (h : Q (.bool (PySem.SeqAt.firstLt e r (decide (items.size < items2.size)) (List.range (min items.size items2.size)))) s) :
    wpAny (model prog w) A (call (.builtin "tuple.__lt__") [.ref l, .ref b]) Q E s := by
  obtain ⟨⟨c, dd, _, sl⟩, ho, hc, n, hd⟩ := hl
  obtain ⟨⟨c2, dd2, _, sl2⟩, ho2, hc2, n2, hd2⟩ := hb
  subst hc hd hc2 hd2
  exact call_meets F.slot_tuple_lt ⟨_, ho, rfl⟩ F.entry_tuple_lt (F.args_tuple_lt_2 _ _) (PySem.SeqAt.tuple_ltAt l b items items2 n n2 dd dd2 sl sl2 e r) ⟨ho, ho2, he, hr, h⟩
theorem oneLt_tup {xs ys : List PyData} {a b : Value} {as bs : List Addr} {Q : Bool → Shared → Prop} (f : Bool) (ra : Reads s.heap a (.tuple xs) as) (rb : Reads s.heap b (.tuple ys) bs) (h : alike (.tuple xs) (.tuple ys) = true)
    (hu : A.units + min (PyData.tuple xs).depth (PyData.tuple ys).depth < cLine) (hq : Q (dataLt (.tuple xs) (.tuple ys)) s) : wpAny (model prog w) A (oneLt' f a b) Q E s := by
  cases f with
  | false => exact oneLt_alike (fun e => by cases e) ra rb h (by intro z; cases z) hu hq
  | true =>
    have hal : alikeAll xs ys = true := by simpa [alike] using h
    cases ra with
    | @tuple l o vs n _ as₁ h1 h2 h3 h4 =>
      cases rb with
      | @tuple l' o' vs' n' _ bs₁ k1 k2 k3 k4 =>
        have n1 : vs.size = xs.length := by simpa using ReadsAll.length _ _ _ h4
        have n2 : vs'.size = ys.length := by simpa using ReadsAll.length _ _ _ k4
        rw [dataLt_tuple, ← firstLt_toks xs ys hal, ← n1, ← n2] at hq
        rw [oneLt'_eq]
        simp only [if_true]
        refine wpAny_bind (wpAny_cRoomFor (room_here hu) ?_)
        refine wpAny_bind (wpAny_callSpecialIfBound?_slot (T := "tuple") ⟨_, h1, h2⟩ F.slot_tuple_lt (call_tuple_lt (e := pairEq xs ys) (r := fun j => dataLt (xs.getD j .none) (ys.getD j .none)) ⟨_, h1, h2, _, h3⟩ ⟨_, k1, k2, _, k3⟩ (fun j j1 j2 => ?_) (fun j j1 j2 hj => ?_) ?_))
        · have := eqAt_alikeAll xs ys A.in1 s vs.toList vs'.toList _ _ h4 k4 hal (room_in hu) j (by simpa using j1) (by simpa using j2)
          simpa using this
        · have := rcLt_alikeAll xs ys A.in1 s vs.toList vs'.toList _ _ h4 k4 hal (room_in hu) j (by simpa using j1) (by simpa using j2) hj
          simpa using this
        · exact wpAny_truthy_bool hq
theorem each_tups {h : Heap} : ∀ {vs : List Value} {dss : List (List PyData)}, EachIs (fun v d => ∃ as, Reads h v d as) vs (dss.map PyData.tuple) → EachIs (fun v xs => ∃ as, Reads h v (.tuple xs) as) vs dss
  | _, [], e => by cases e; exact .nil
  | _, _ :: _, e => by
    cases e with
    | cons a b => exact .cons a (each_tups b)
/-- tuples, some of them empty -/
theorem sorts_mixed {vs : List Value} {dss : List (List PyData)} (e : EachIs (fun v d => ∃ as, Reads s.heap v d as) vs (dss.map PyData.tuple)) (hal : AllAlike (dss.map PyData.tuple)) (hm : [] ∈ dss) (hu : ∀ d, d ∈ dss.map PyData.tuple → A.units + d.depth < cLine) :
    SortsAt prog w A s (dataKind s.heap (dss.map PyData.tuple)) vs := by
  have room : ∀ {d d' : PyData}, d ∈ dss.map PyData.tuple → A.units + min d.depth d'.depth < cLine := fun {d d'} hd => Nat.lt_of_le_of_lt (Nat.add_le_add_left (Nat.min_le_left _ _) _) (hu d hd)
  have lt : ∀ f : Bool, ∀ (E : Value → Shared → Prop) (x y : Value) (a b : (dataKind s.heap (dss.map PyData.tuple)).α) {Q : Bool → Shared → Prop},
    (dataKind s.heap (dss.map PyData.tuple)).keyOf x = some a → (dataKind s.heap (dss.map PyData.tuple)).keyOf y = some b → Q ((dataKind s.heap (dss.map PyData.tuple)).blt a b) s → wpAny (model prog w) A (oneLt' f x y) Q E s := by
    intro f E x y a b Q ha hb hq
    obtain ⟨d, as, hd, ra, rfl⟩ := dataKind_inv ha
    obtain ⟨d', as', hd', rb, rfl⟩ := dataKind_inv hb
    have hdd := hal d hd d' hd'
    have hroom := room (d' := d') hd
    obtain ⟨x1, _, rfl⟩ := List.mem_map.mp hd
    obtain ⟨x2, _, rfl⟩ := List.mem_map.mp hd'
    exact oneLt_tup f ra rb hdd hroom hq
  have keys : ∀ v, v ∈ vs → ∃ a, (dataKind s.heap (dss.map PyData.tuple)).keyOf v = some a := fun v hv => by
    obtain ⟨d, hd, as, r⟩ := e.left v hv
    exact ⟨_, dataKind_some hal hd r⟩
  cases hb : ((dss.head?.map fun xs => !xs.isEmpty).getD false) with
  | true => exact ⟨keys, general', fun E x y a b Q ha hb hq => lt false E x y a b ha hb hq, fun h2 E Q h => kind_mixed (each_tups e) h2 hm true hb.symm E h⟩
  | false => exact ⟨keys, oneType', fun E x y a b Q ha hb hq => lt true E x y a b ha hb hq, fun h2 E Q h => kind_mixed (each_tups e) h2 hm false hb.symm E h⟩
theorem tup_list : ∀ (ds : List PyData), (∀ d ∈ ds, ∃ xs, d = PyData.tuple xs) → ∃ dss : List (List PyData), ds = dss.map PyData.tuple
  | [], _ => ⟨[], rfl⟩
  | d :: ds, h => by
    obtain ⟨xs, rfl⟩ := h _ List.mem_cons_self
    obtain ⟨dss, rfl⟩ := tup_list ds fun d hd => h d (List.mem_cons_of_mem _ hd)
    exact ⟨xs :: dss, rfl⟩
theorem sorts_any {vs : List Value} {ds : List PyData} (e : EachIs (fun v d => ∃ as, Reads s.heap v d as) vs ds) (hal : AllAlike ds) (hn : ∀ d ∈ ds, d ≠ .none) (hu : ∀ d, d ∈ ds → A.units + d.depth < cLine) : SortsAt prog w A s (dataKind s.heap ds) vs := by
  by_cases t : ∀ d ∈ ds, ∃ xs, d = PyData.tuple xs
  · obtain ⟨dss, rfl⟩ := tup_list ds t
    by_cases m : [] ∈ dss
    · exact sorts_mixed e hal m hu
    · refine SortsAt.data e hal (.inl fun d hd => ?_) hu
      obtain ⟨xs, hx, rfl⟩ := List.mem_map.mp hd
      cases xs with
      | nil => exact absurd hx m
      | cons x r => exact ⟨x, r, rfl⟩
  · refine SortsAt.data e hal (.inr fun d hd => ⟨hn d hd, fun xs ex => t fun d' hd' => ?_⟩) hu
    have q := hal d hd d' hd'
    subst ex
    cases d' <;> first
      | exact ⟨_, rfl⟩
      | exact absurd q (by simp [alike])
/-- sorted(xs) of data, whatever kinds of tuples are among them -/
theorem sorted_anyData {l : Addr} {vs : List Value} {bs : List PyData} {R : Value → PyData → Prop} {Q : Value → Shared → Prop} (hl : s.heap.IsList l vs.toArray) (e : EachIs R vs bs) (er : EachIs (fun v b => ∃ as, Reads s.heap v b as) vs bs) (hal : AllAlike bs) (hn : ∀ d ∈ bs, d ≠ .none) (hL : bs.length ≤ sizeLine)
    (hu : ∀ b, b ∈ bs → A.units + 2 + b.depth < cLine) (h : ∀ out, out.length = bs.length → EachIs R out (bs.mergeSort (dataLe false id)) → Q (.ref (s.heap.objs.size + 1)) { s with heap := sortedAll s.heap vs (List.toArray out) }) :
    wpAny (model prog w) A (call (.builtin "sorted") [.ref l]) Q E s := by
  have er' : EachIs (fun v b => ∃ as, Reads (sortingHeap (copyHeap s.heap vs) (s.heap.objs.size + 1) vs) v b as) vs bs := er.mono fun _ _ ⟨as, r⟩ => ⟨as, PyProof.Rows.Reads.keeps (fun _ _ => sorting_copy_old) r⟩
  have emap : bs.map id = bs := by simp
  exact sorted_vals hl (sorts_any (s := { s with heap := sortingHeap (copyHeap s.heap vs) (s.heap.objs.size + 1) vs }) er' hal hn hu) (by rw [e.length]; exact hL)
    (h _ (by rw [sortVals_length false rfl]; exact e.length) (by
      have z := sortVals_data (enc := id) (h' := sortingHeap (copyHeap s.heap vs) (s.heap.objs.size + 1) vs) false e er' (by rw [emap]; exact hal)
      rw [emap] at z
      exact z))
theorem sorted_rev_anyData {l : Addr} {b : Bool} {vs : List Value} {bs : List PyData} {R : Value → PyData → Prop} {Q : Value → Shared → Prop} (hl : s.heap.IsList l vs.toArray) (e : EachIs R vs bs) (er : EachIs (fun v b => ∃ as, Reads s.heap v b as) vs bs) (hal : AllAlike bs) (hn : ∀ d ∈ bs, d ≠ .none) (hL : bs.length ≤ sizeLine)
    (hu : ∀ b, b ∈ bs → A.units + 2 + b.depth < cLine) (h : ∀ out, out.length = bs.length → EachIs R out (bs.mergeSort (dataLe b id)) → Q (.ref (s.heap.objs.size + 1)) { s with heap := sortedAll s.heap vs (List.toArray out) }) :
    wpAny (model prog w) A (call (.builtin "sorted") [.ref l] [(Str.ofString "reverse", .bool b)]) Q E s := by
  have er' : EachIs (fun v b => ∃ as, Reads (sortingHeap (copyHeap s.heap vs) (s.heap.objs.size + 1) vs) v b as) vs bs := er.mono fun _ _ ⟨as, r⟩ => ⟨as, PyProof.Rows.Reads.keeps (fun _ _ => sorting_copy_old) r⟩
  have emap : bs.map id = bs := by simp
  exact sorted_rev_vals hl (sorts_any (s := { s with heap := sortingHeap (copyHeap s.heap vs) (s.heap.objs.size + 1) vs }) er' hal hn hu) (by rw [e.length]; exact hL)
    (h _ (by rw [sortVals_length b rfl]; exact e.length) (by
      have z := sortVals_data (enc := id) (h' := sortingHeap (copyHeap s.heap vs) (s.heap.objs.size + 1) vs) b e er' (by rw [emap]; exact hal)
      rw [emap] at z
      exact z))
/-- the state has gone on: all objects stand -/
structure Gone (s s' : Shared) : Prop where
  keep : ∀ b o, s.heap.get? b = some o → s'.heap.get? b = some o
  gens : s'.gens = s.gens
  os : s'.os = s.os
/-- sorted(x) of anything that can be collected -/
theorem sorted_src {r : Addr} {P : List Value → Heap → Prop} {R : Value → PyData → Prop} {C : List PyData → Prop} {Q : Value → Shared → Prop}
    (src : ∀ (E' : Value → Shared → Prop) (Q' : List Value → Shared → Prop), (∀ s' acc, Gone s s' → P acc s'.heap → Q' acc s') → wpAny (model prog w) A.in1 (collect (.ref r)) Q' E' s)
    (hP : ∀ h' acc, (∀ b o, s.heap.get? b = some o → h'.get? b = some o) → P acc h' → ∃ bs, EachIs R acc bs ∧ EachIs (fun v b => ∃ as, Reads h' v b as) acc bs ∧ AllAlike bs ∧ (∀ d ∈ bs, d ≠ .none) ∧ bs.length ≤ sizeLine ∧ (∀ b, b ∈ bs → A.units + 2 + b.depth < cLine) ∧ C bs)
    (h : ∀ s1 s' p out c bs, Gone s s1 → Gone s1 s' → s1.heap.objs.size ≤ p → C bs → s'.heap.get? p = some (seqObj "list" (List.toArray out) c) → out.length = bs.length → bs.length ≤ sizeLine → EachIs R out (bs.mergeSort (dataLe false id)) → Q (.ref p) s') :
    wpAny (model prog w) A (call (.builtin "sorted") [.ref r]) Q E s := by
  refine Calls.call_function_entry kind_sorted plain_sorted entry_sorted (args_sorted1 _) ?_
  unfold Builtin.«sorted»
  refine wpAny_bind (m := checkCount "sorted" 1 1 _) (wpAny_pure ?_)
  refine wpAny_bind (src _ _ fun s1 acc G1 hp => ?_)
  obtain ⟨bs, e, er, hal, hn, hL, hu, hC⟩ := hP _ _ G1.keep hp
  have hl : acc.length ≤ sizeLine := by rw [e.length]; exact hL
  refine wpAny_bind (wpAny_newList ?_ hl)
  have hoL : (s1.heap.push (seqObj "list" acc.toArray 0)).get? s1.heap.objs.size = some (seqObj "list" acc.toArray 0) := Heap.get?_push_size _ rfl
  have up : ∀ b o, s1.heap.get? b = some o → (sortingHeap (s1.heap.push (seqObj "list" acc.toArray 0)) s1.heap.objs.size acc).get? b = some o := fun b o e =>
    sortingHeap_old (Nat.ne_of_lt (Heap.lt_size e)) (Heap.get?_push_of_some _ e)
  have er' : EachIs (fun v b => ∃ as, Reads (sortingHeap (s1.heap.push (seqObj "list" acc.toArray 0)) s1.heap.objs.size acc) v b as) acc bs := er.mono fun _ _ ⟨as, r⟩ => ⟨as, PyProof.Rows.Reads.keeps up r⟩
  have emap : bs.map id = bs := by simp
  have z := sortVals_data (enc := id) (h' := sortingHeap (s1.heap.push (seqObj "list" acc.toArray 0)) s1.heap.objs.size acc) false e (by rw [show (fun v b => ∃ as, Reads (sortingHeap (s1.heap.push (seqObj "list" acc.toArray 0)) s1.heap.objs.size acc) v (id b) as) = (fun v b => ∃ as, Reads (sortingHeap (s1.heap.push (seqObj "list" acc.toArray 0)) s1.heap.objs.size acc) v b as) from rfl]; exact er') (by rw [emap]; exact hal)
  rw [emap] at z
  refine wpAny_bind (wpAny_holding (wpAny_call_entry slot_list_sort ⟨_, hoL, rfl⟩ entry_list_sort
    (list_sort_vals (κ := dataKind (sortingHeap (s1.heap.push (seqObj "list" acc.toArray 0)) s1.heap.objs.size acc) bs) (s := { s1 with heap := s1.heap.push (seqObj "list" acc.toArray 0) }) (n := 0) hoL (sorts_any (s := { s1 with heap := sortingHeap (s1.heap.push (seqObj "list" acc.toArray 0)) s1.heap.objs.size acc }) er' hal hn hu) hl ?_) (args_list_sort _)))
  obtain ⟨c, hc⟩ := sortedHeap_at (vs := acc) (out := (sortVals (dataKind (sortingHeap (s1.heap.push (seqObj "list" acc.toArray 0)) s1.heap.objs.size acc) bs) false acc acc).toArray) hoL
  refine ⟨.none, rfl, wpAny_pure ⟨_, rfl, h s1 _ s1.heap.objs.size _ c bs G1 ⟨fun b o q => ?_, rfl, rfl⟩ (Nat.le_refl _) hC hc (by rw [sortVals_length false rfl]; exact e.length) hL z⟩⟩
  have hlt := Heap.lt_size q
  show (sortedHeap (s1.heap.push (seqObj "list" acc.toArray 0)) s1.heap.objs.size acc _).get? b = some o
  rw [sortedHeap_old (Nat.ne_of_lt hlt) (by rw [size_push']; exact Nat.lt_succ_of_lt hlt)]
  exact Heap.get?_push_of_some _ q
end
end PlM
set_option Elab.async false
set_option linter.all false
set_option maxRecDepth 100000
/-! PL 4: built-ins of one argument. -/
namespace L2
namespace PL
open PySem PySem.Spec PyProof.Rows

def f1 (k : PyData → Gs → Res PyData) (fa : Fn) : Fn := fun ρ g => (fa ρ g).bind k
def Call1 (W : Wd) (r : List V → Hp → VK → Prop) (k : PyData → Gs → Res PyData) : Prop :=
  ∀ (dr : Option Addr) (g : Gs) (G H : Hp) (v : V) (x : PyData) (Q : VK), GI W g dr G H → Pk W.K dr G H v x → okE W dr G H (k x g) Q → r [v] H Q
def Call1F (W : Wd) (r : List V → Hp → VK → Prop) (k : PyData → Gs → Res PyData) : Prop :=
  ∀ (dr : Option Addr) (g : Gs) (G H : Hp) (v : V) (x : PyData) (Q : VK), GI W g dr G H → Pk W.K dr G H v x → okF W dr G H (k x g) Q → r [v] H Q
section
variable {X : Cx} {W : Wd} {r : List V → Hp → VK → Prop} {k : PyData → Gs → Res PyData} {e : Expr} {fa : Fn} {x : Str} {id T : String} {p pos : Pos}
theorem t1_of (c : Call1 W r k) (σ : St) (H : Hp) (Q : VK) (h : tE W (f1 k fa) σ H Q) : tCB r (tCons (tP W fa) tNil) σ H Q := by
  obtain ⟨ρ, g, dr, ad, G, S, h⟩ := h
  refine seqP S poE h fun v H1 y g1 G1 S1 x1 r1 h1 => ?_
  exact c dr g1 G1 H1 v y Q S1.gi r1 h1
theorem t1_ofF (c : Call1F W r k) (σ : St) (H : Hp) (Q : VK) (h : tF W (f1 k fa) σ H Q) : tCB r (tCons (tP W fa) tNil) σ H Q := by
  obtain ⟨ρ, g, dr, ad, G, S, h⟩ := h
  refine seqP S poF h fun v H1 y g1 G1 S1 x1 r1 h1 => ?_
  exact c dr g1 G1 H1 v y Q S1.gi r1 h1
theorem c1_B (c : Call1 W r k) (hc : CallR X (.builtin id) r) (hg : Gl X x) (hm : X.mg x = none) (hv : bootBuiltins x = some (.builtin id)) (ha : PE X e (tP W fa)) (hn : x ≠ "__name__" := by decide) (hdb : (x == ("__debug__" : Str)) = false := by decide)
    (he : starEach (e :: []) X.env = (false, eval e X.env) :: starEach [] X.env := by rfl) : PE X (.Call (.Name x p) [e] [] pos) (tE W (f1 k fa)) := PE.imp (pe_callB hc hg hm hv (pa_cons ha pa_nil he) hn hdb he) (t1_of c)
theorem c1_T (c : Call1 W r k) (hc : CallR X (.type T) r) (hg : Gl X x) (hm : X.mg x = none) (hv : bootBuiltins x = some (.type T)) (ha : PE X e (tP W fa)) (hn : x ≠ "__name__" := by decide) (hdb : (x == ("__debug__" : Str)) = false := by decide)
    (he : starEach (e :: []) X.env = (false, eval e X.env) :: starEach [] X.env := by rfl) : PE X (.Call (.Name x p) [e] [] pos) (tE W (f1 k fa)) := PE.imp (pe_callTy hc hg hm hv (pa_cons ha pa_nil he) hn hdb he) (t1_of c)
theorem c1_BF (c : Call1F W r k) (hc : CallR X (.builtin id) r) (hg : Gl X x) (hm : X.mg x = none) (hv : bootBuiltins x = some (.builtin id)) (ha : PE X e (tP W fa)) (hn : x ≠ "__name__" := by decide) (hdb : (x == ("__debug__" : Str)) = false := by decide)
    (he : starEach (e :: []) X.env = (false, eval e X.env) :: starEach [] X.env := by rfl) : PE X (.Call (.Name x p) [e] [] pos) (tF W (f1 k fa)) := PE.imp (pe_callB hc hg hm hv (pa_cons ha pa_nil he) hn hdb he) (t1_ofF c)
theorem c1_TF (c : Call1F W r k) (hc : CallR X (.type T) r) (hg : Gl X x) (hm : X.mg x = none) (hv : bootBuiltins x = some (.type T)) (ha : PE X e (tP W fa)) (hn : x ≠ "__name__" := by decide) (hdb : (x == ("__debug__" : Str)) = false := by decide)
    (he : starEach (e :: []) X.env = (false, eval e X.env) :: starEach [] X.env := by rfl) : PE X (.Call (.Name x p) [e] [] pos) (tF W (f1 k fa)) := PE.imp (pe_callTy hc hg hm hv (pa_cons ha pa_nil he) hn hdb he) (t1_ofF c)
end

/-! ### what is looked at, dicts -/
theorem Rd.mono {G H : Hp} (s : Sub G H) {a : Addr} {u : HO} (r : Rd G a u) : Rd H a u := Rd.sub s r
/-- a dict, looked at -/
theorem Pk.dct {K : PySem.W.Frag} {dr : Option Addr} {G H : Hp} {v : V} {kvs : List (PyData × PyData)} (s : Sub G H) (h : Pk K dr G H v (.dict kvs)) :
    (∃ a ks, v = .ref a ∧ Rd H a (.dK ks) ∧ RpL K G (ks.map Prod.snd) (kvs.map Prod.snd) ∧ kvs.map Prod.fst = ks.map (fun p => keyD p.1)) ∨
      (∃ (a : Addr) (ks : List (List Key × V)), v = .ref a ∧ Rd H a (.dT ks) ∧ RpL K G (ks.map Prod.snd) (kvs.map Prod.snd) ∧ kvs.map Prod.fst = ks.map (fun p => .tuple (p.1.map keyD))) := by
  rcases h with h | ⟨a, h1, h2, h3, h4⟩
  · cases h with
    | dK a b c => exact .inl ⟨_, _, rfl, Rd.sub s a, b, c⟩
    | dT a b c n => exact .inr ⟨_, _, rfl, Rd.sub s a, b, c⟩
  · rcases h4 with ⟨ks, q, r, e⟩ | ⟨ks, q, r, e, _⟩
    · exact .inl ⟨a, ks, h1, .inl q, r, e⟩
    · exact .inr ⟨a, ks, h1, .inl q, r, e⟩
/-- a row of things, looked at: a list or a tuple -/
theorem Pk.row {K : PySem.W.Frag} {dr : Option Addr} {G H : Hp} {v : V} {x : PyData} {ds : List PyData} (s : Sub G H) (h : Pk K dr G H v x) (e : itemsD x = some ds) : ∃ a vs, v = .ref a ∧ (SqL K H a vs ∨ SqT K H a vs) ∧ RpL K G vs ds := by
  cases x with
  | list xs =>
    cases e
    obtain ⟨a, vs, rfl, h1, h2⟩ := h.lst s
    exact ⟨a, vs, rfl, .inl (SqL.of h1), h2⟩
  | tuple xs =>
    cases e
    obtain ⟨a, vs, rfl, h1, h2⟩ := h.tup
    exact ⟨a, vs, rfl, .inr (SqT.of (s _ _ h1)), h2⟩
  | none | bool | int | str | dict => cases e

/-! ### len -/
def lenD : PyData → Option Int
  | .list xs => some xs.length
  | .tuple xs => some xs.length
  | .str z => if z.length ≤ sizeLine then some z.length else none
  | .dict kvs => some kvs.length
  | _ => none
def kOpt (f : PyData → Option PyData) (x : PyData) (g : Gs) : Res PyData := match f x with
  | some d => .ok d g
  | none => .no
def kLen : PyData → Gs → Res PyData := kOpt fun x => (lenD x).map .int
section
variable {X : Cx} {W : Wd}
theorem call_len_dK : CallR X (.builtin "len") (fun xs H Q => ∃ a kvs, xs = [V.ref a] ∧ Rd H a (.dK kvs) ∧ Q (.int kvs.length) H) := by
  intro pins s σ H xs us Q I r h
  obtain ⟨a, kvs, rfl, ha, q⟩ := h
  obtain ⟨u, rfl, ru⟩ := vals1 r
  cases ru
  exact d_len I ha fun t s' I' => ⟨.int kvs.length, H, I', ⟨t, rfl⟩, q⟩
theorem call_len_dTr : CallR X (.builtin "len") (fun xs H Q => ∃ a, ∃ kvs : List (List Key × V), xs = [V.ref a] ∧ Rd H a (.dT kvs) ∧ Q (.int kvs.length) H) := by
  intro pins s σ H xs us Q I r h
  obtain ⟨p, kvs, rfl, hp, q⟩ := h
  obtain ⟨u, rfl, rx⟩ := vals1 r
  obtain rfl : u = .ref p := rx
  obtain ⟨z, hd, ys, rel, dd⟩ := dt_rd I.hok hp
  have hl : kvs.length = ys.length := Paired.length rel
  refine call_len_dictH hd dd (by rw [← hl]; rw [sizeLine_eq] at z; omega) ?_
  rw [← hl]
  exact ⟨.int ((kvs.length : Nat) : Int), H, I.tok _, ⟨_, rfl⟩, q⟩
def rLenA (K : PySem.W.Frag) : List V → Hp → VK → Prop := fun xs H Q => (∃ p ys, xs = [.ref p] ∧ (SqL K H p ys ∨ SqT K H p ys) ∧ Q (.int ys.length) H) ∨ (∃ z, xs = [.str z] ∧ z.length ≤ sizeLine ∧ Q (.int z.length) H) ∨
  (∃ a kvs, xs = [V.ref a] ∧ Rd H a (.dK kvs) ∧ Q (.int kvs.length) H) ∨ (∃ a, ∃ kvs : List (List Key × V), xs = [V.ref a] ∧ Rd H a (.dT kvs) ∧ Q (.int kvs.length) H)
theorem cr_len : CallR X (.builtin "len") (rLenA X.K) := call_len_seq.or (call_len_str.or (call_len_dK.or call_len_dTr))
theorem keys_len {α : Type} {ks : List (α × V)} {kvs : List (PyData × PyData)} {f : α × V → PyData} (h : kvs.map Prod.fst = ks.map f) : ks.length = kvs.length := by
  have := congrArg List.length h
  simpa using this.symm
theorem c_len : Call1 W (rLenA W.K) kLen := by
  intro dr g G H v x Q i p h
  have one : ∀ n : Nat, okE W dr G H (.ok (.int n) g) Q → Q (.int n) H := fun n h => h _ G H i Ext.refl (.int _)
  cases x with
  | list xs =>
    obtain ⟨a, vs, rfl, h1, r1⟩ := p.lst i.sub
    refine .inl ⟨a, vs, rfl, .inl (SqL.of h1), ?_⟩
    rw [r1.length]; exact one _ h
  | tuple xs =>
    obtain ⟨a, vs, rfl, h1, r1⟩ := p.tup
    refine .inl ⟨a, vs, rfl, .inr (SqT.of (i.sub _ _ h1)), ?_⟩
    rw [r1.length]; exact one _ h
  | str z =>
    by_cases c : z.length ≤ sizeLine
    · refine .inr (.inl ⟨z, by rw [p.str], c, one _ ?_⟩)
      simpa [kLen, kOpt, lenD, c] using h
    · simp [kLen, kOpt, lenD, c, okE] at h
  | dict kvs =>
    rcases p.dct i.sub with ⟨a, ks, rfl, h1, r1, e⟩ | ⟨a, ks, rfl, h1, r1, e⟩
    · refine .inr (.inr (.inl ⟨a, ks, rfl, h1, ?_⟩))
      rw [keys_len e]; exact one _ h
    · refine .inr (.inr (.inr ⟨a, ks, rfl, h1, ?_⟩))
      rw [keys_len e]; exact one _ h
  | none | bool | int => exact h.elim
end
end PL
end L2
set_option Elab.async false
set_option linter.all false
set_option maxRecDepth 100000
/-! PL 5: built-ins over rows of things. -/
namespace L2
namespace PL
open PySem PySem.Spec PyProof.Rows
open PySem.W (EachIs AllAlike alike dataLt dataLe AlikeAll minD maxD)

theorem Pk.rpH {K : PySem.W.Frag} {dr : Option Addr} {G H : Hp} {v : V} {d : PyData} (s : Sub G H) (h : Pk K dr G H v d) : Rp K H v d := by
  rcases h with h | ⟨a, h1, h2, h3, h4⟩
  · exact h.mono s
  · subst h1
    cases d with
    | list ds => obtain ⟨vs, q, r⟩ := h4; exact .lst q (r.mono s)
    | dict kvs =>
      rcases h4 with ⟨ks, q, r, e⟩ | ⟨ks, q, r, e, n⟩
      · exact .dK (.inl q) (r.mono s) e
      · exact .dT (.inl q) (r.mono s) e n
    | none => exact h4.elim
    | bool => exact h4.elim
    | int => exact h4.elim
    | str => exact h4.elim
    | tuple => exact h4.elim

/-! ### sum, all, any -/
def asInts : List PyData → Option (List Int)
  | [] => some []
  | .int i :: r => (asInts r).map (i :: ·)
  | _ :: _ => none
def asBools : List PyData → Option (List Bool)
  | [] => some []
  | .bool i :: r => (asBools r).map (i :: ·)
  | _ :: _ => none
theorem ints_rp {K : PySem.W.Frag} {G : Hp} : ∀ {vs : List V} {ds : List PyData} {ns : List Int}, RpL K G vs ds → asInts ds = some ns → vs = ns.map V.int
  | _, [], ns, r, e => by cases r; cases e; rfl
  | _, .int i :: ds, ns, .cons a b, e => by
    simp only [asInts, Option.map_eq_some_iff] at e
    obtain ⟨ms, e, rfl⟩ := e
    rw [a.inv_int, ints_rp b e]; rfl
  | _, .none :: _, _, _, e => by cases e
  | _, .bool _ :: _, _, _, e => by cases e
  | _, .str _ :: _, _, _, e => by cases e
  | _, .list _ :: _, _, _, e => by cases e
  | _, .tuple _ :: _, _, _, e => by cases e
  | _, .dict _ :: _, _, _, e => by cases e
theorem bools_rp {K : PySem.W.Frag} {G : Hp} : ∀ {vs : List V} {ds : List PyData} {ns : List Bool}, RpL K G vs ds → asBools ds = some ns → vs = ns.map V.bl
  | _, [], ns, r, e => by cases r; cases e; rfl
  | _, .bool i :: ds, ns, .cons a b, e => by
    simp only [asBools, Option.map_eq_some_iff] at e
    obtain ⟨ms, e, rfl⟩ := e
    rw [a.inv_bool, bools_rp b e]; rfl
  | _, .none :: _, _, _, e => by cases e
  | _, .int _ :: _, _, _, e => by cases e
  | _, .str _ :: _, _, _, e => by cases e
  | _, .list _ :: _, _, _, e => by cases e
  | _, .tuple _ :: _, _, _, e => by cases e
  | _, .dict _ :: _, _, _, e => by cases e
def onInts (f : List Int → PyData) : PyData → Option PyData
  | .list ds => (asInts ds).map f
  | _ => none
def onBools (f : List Bool → PyData) : PyData → Option PyData
  | .list ds => (asBools ds).map f
  | _ => none
def kSum : PyData → Gs → Res PyData := kOpt (onInts fun ns => .int ns.sum)
def kAll : PyData → Gs → Res PyData := kOpt (onBools fun bs => .bool (bs.all id))
def kAny : PyData → Gs → Res PyData := kOpt (onBools fun bs => .bool (bs.any id))
section
variable {X : Cx} {W : Wd}
theorem c_sum : Call1 W (rSum W.K) kSum := by
  intro dr g G H v x Q i p h
  unfold kSum kOpt onInts at h
  cases x with
  | list ds =>
    cases e : asInts ds with
    | none => simp only [e] at h; exact h.elim
    | some ns =>
      simp only [e] at h
      obtain ⟨a, vs, rfl, h1, r1⟩ := p.lst i.sub
      have z := ints_rp r1 e
      subst z
      exact ⟨a, ns, rfl, SqL.of h1, h _ G H i Ext.refl (.int _)⟩
  | none | bool | int | str | tuple | dict => exact h.elim
theorem c_all : Call1 W (rAll W.K) kAll := by
  intro dr g G H v x Q i p h
  unfold kAll kOpt onBools at h
  cases x with
  | list ds =>
    cases e : asBools ds with
    | none => simp only [e] at h; exact h.elim
    | some ns =>
      simp only [e] at h
      obtain ⟨a, vs, rfl, h1, r1⟩ := p.lst i.sub
      have z := bools_rp r1 e
      subst z
      exact ⟨a, ns, rfl, SqL.of h1, h _ G H i Ext.refl (.bl _)⟩
  | none | bool | int | str | tuple | dict => exact h.elim
theorem c_any : Call1 W (rAny W.K) kAny := by
  intro dr g G H v x Q i p h
  unfold kAny kOpt onBools at h
  cases x with
  | list ds =>
    cases e : asBools ds with
    | none => simp only [e] at h; exact h.elim
    | some ns =>
      simp only [e] at h
      obtain ⟨a, vs, rfl, h1, r1⟩ := p.lst i.sub
      have z := bools_rp r1 e
      subst z
      exact ⟨a, ns, rfl, SqL.of h1, h _ G H i Ext.refl (.bl _)⟩
  | none | bool | int | str | tuple | dict => exact h.elim

/-! ### int -/
def kInt (x : PyData) (g : Gs) : Res PyData := match x with
  | .int i => .ok (.int i) g
  | .bool b => .ok (.int (if b then 1 else 0)) g
  | _ => .no
theorem c_int : Call1 W (fun xs H Q => (∃ i, xs = [.int i] ∧ Q (.int i) H) ∨ ∃ k, xs = [.bl k] ∧ Q (.int (if k then 1 else 0)) H) kInt := by
  intro dr g G H v x Q i p h
  cases x with
  | int n => exact .inl ⟨n, by rw [p.int], h _ G H i Ext.refl (.int _)⟩
  | bool b => exact .inr ⟨b, by rw [p.bool], h _ G H i Ext.refl (.int _)⟩
  | none | str | list | tuple | dict => exact h.elim

/-! ### tuple(..), list(..) -/
/-- the keys of a dict as things of their own are kept for later: rows first -/
def kTuple (x : PyData) (g : Gs) : Res PyData := match x with
  | .list ds => .ok (.tuple ds) g
  | .tuple ds => .ok (.tuple ds) g
  | _ => .no
theorem c_tuple : Call1 W (fun xs H Q => ∃ p ys, xs = [.ref p] ∧ ((SqL W.K H p ys ∧ ∀ l, H l = none → Q (.ref l) (upd H l (.tup ys))) ∨ (SqT W.K H p ys ∧ Q (.ref p) H))) kTuple := by
  intro dr g G H v x Q i p h
  cases x with
  | list ds =>
    obtain ⟨a, vs, rfl, h1, r1⟩ := p.lst i.sub
    refine ⟨a, vs, rfl, .inl ⟨SqL.of h1, fun l hl => ?_⟩⟩
    exact h _ _ _ (i.add hl trivial) (Ext.add i hl) (.tup upd_same (r1.mono (Ext.add (dr := dr) (o := .tup vs) i hl).g))
  | tuple ds =>
    obtain ⟨a, vs, rfl, h1, r1⟩ := p.tup
    exact ⟨a, vs, rfl, .inr ⟨SqT.of (i.sub _ _ h1), h _ G H i Ext.refl (.tup h1 r1)⟩⟩
  | none | bool | int | str | dict => exact h.elim
def rowD (k : List PyData → Option PyData) (x : PyData) : Option PyData := (itemsD x).bind k
/-- keys as data -/
def keysD : PyData → Option (List PyData)
  | .list xs => some xs
  | .tuple xs => some xs
  | .dict kvs => some (kvs.map Prod.fst)
  | _ => none
theorem keyV_rp {K : PySem.W.Frag} {G : Hp} : ∀ (k : Key), Rp K G (kV k) (keyD k)
  | .inl _ => .int _
  | .inr _ => .str _
theorem keysV_rp {K : PySem.W.Frag} {G : Hp} : ∀ (ks : List Key), RpL K G (ks.map kV) (ks.map keyD)
  | [] => .nil
  | k :: ks => .cons (keyV_rp k) (keysV_rp ks)
/-- all tuples of keys told at once -/
theorem freezeKeys {g : Gs} {dr : Option Addr} {H : Hp} : ∀ {kvs : List (List Key × V)} {bs : List Addr} {G : Hp}, GI W g dr G H → IsKeys H kvs bs →
    ∃ G', GI W g dr G' H ∧ Ext dr G H G' H ∧ RpL W.K G' (bs.map V.ref) (kvs.map fun p => .tuple (p.1.map keyD))
  | _, _, G, i, .nil => ⟨G, i, Ext.refl, .nil⟩
  | _, _, G, i, .cons (a := kv) (b := b) h t => by
    obtain ⟨G1, i1, x1, r1⟩ := freezeKeys i t
    have hb : H b = some (.tup (kv.1.map kV)) := h
    have fine : ∀ c o, upd G1 b (.tup (kv.1.map kV)) c = some o → H c = some o := fun c o e => by
      by_cases hc : c = b
      · subst hc; rw [upd_same] at e; cases e; exact hb
      · rw [upd_ne hc] at e; exact i1.sub c o e
    have sub : Sub G1 (upd G1 b (.tup (kv.1.map kV))) := fun c o e => by
      by_cases hc : c = b
      · subst hc; rw [upd_same]; rw [← hb]; exact (i1.sub _ _ e)
      · rw [upd_ne hc]; exact e
    refine ⟨upd G1 b (.tup (kv.1.map kV)), ⟨fine, fun c o e => ?_, ?_, i1.tabs⟩, x1.trans ⟨sub, fun c o e _ _ => e, fun c o e q m n => ?_, fun c o e => ⟨o, e⟩⟩, .cons (.tup upd_same (keysV_rp _)) (r1.mono sub)⟩
    · by_cases hc : c = b
      · subst hc; rw [upd_same] at e; cases e; trivial
      · rw [upd_ne hc] at e; exact i1.imm c o e
    · have z := i1.draw
      cases g with
      | none => exact z
      | some q =>
        obtain ⟨d, v, h1, h2, h3, h4⟩ := z
        have ne : d ≠ b := fun e => by rw [e, hb] at h3; cases h3
        exact ⟨d, v, h1, by rw [upd_ne ne]; exact h2, h3, h4.mono sub⟩
    · have ne : c ≠ b := fun z => by rw [z, hb] at e; cases e; exact m
      rw [upd_ne ne]; exact n
theorem call_list_dKr (hc : X.calm = true) : CallR X (.type "list") (fun xs H Q => ∃ p kvs, xs = [.ref p] ∧ Rd H p (.dK kvs) ∧ ∀ q, H q = none → Q (.ref q) (upd H q (.lst (kvs.map fun kv => kV kv.1)))) := by
  intro pins s σ H xs us Q I r h
  obtain ⟨p, kvs, e, hk, q⟩ := h
  subst e
  obtain ⟨u, eu, rx⟩ := vals1 r
  subst eu
  obtain rfl : u = Value.ref p := rx
  obtain ⟨z, lo, vs, rk, hd⟩ := (show ObjOk X.prog X.w H s.heap p (.dK kvs) from hk.ok I.hok)
  obtain ⟨ep, hat⟩ := hd.dictAt
  have hl : kvs.length = vs.length := Paired.length rk
  refine PySem.W.kdl_call (PySem.W.kdl_dict (knd := mixKind X.prog X.w) (kvs := vs) (ep := ep) lo) (I.ok.hd hc) hat (by rw [← hl]; exact z) fun h' tk acc' c' hkeep hS hacc => ?_
  refine ⟨.ref s.heap.objs.size, upd H s.heap.objs.size (.lst (kvs.map fun kv => kV kv.1)), I.laid hkeep (Nat.le_refl _) (show ObjOk X.prog X.w _ _ _ (.lst (kvs.map fun kv => kV kv.1)) from ⟨?_, acc'.toList, c', ?_, ?_⟩), rfl, q _ (I.hok.fresh (Nat.le_refl _))⟩
  · rw [List.length_map]; exact z
  · have el : acc'.toList.length = acc'.size := by simp
    refine vals_of_at (by rw [List.length_map, el, hacc.1, hl]) fun j x w h1 h2 => ?_
    obtain ⟨k, y, hky, hi⟩ := hacc.2 j w (by rw [← Array.getElem?_toList]; exact h2)
    have e1 : (kvs.map (·.1))[j]? = some k := by
      rw [KV.keys rk, List.getElem?_map, hky] <;> rfl
    have e2 : (kvs.map fun kv => kV kv.1)[j]? = some (kV k) := by
      have e3 : (kvs.map fun kv => kV kv.1) = (kvs.map (·.1)).map kV := by rw [List.map_map] <;> rfl
      rw [e3, List.getElem?_map, e1] <;> rfl
    rw [e2] at h1
    cases h1
    exact keyIs_rel hi
  · rw [Array.toArray_toList]; exact hS
def rListA (K : PySem.W.Frag) : List V → Hp → VK → Prop := fun xs H Q => (∃ p ys, xs = [.ref p] ∧ (SqL K H p ys ∨ SqT K H p ys) ∧ ∀ l, H l = none → Q (.ref l) (upd H l (.lst ys))) ∨
  (∃ p kvs, xs = [.ref p] ∧ Rd H p (.dK kvs) ∧ ∀ q, H q = none → Q (.ref q) (upd H q (.lst (kvs.map fun kv => kV kv.1)))) ∨
  (∃ d kvs, xs = [V.ref d] ∧ Rd H d (.dT kvs) ∧ ∀ p bs, H p = none → IsKeys H kvs bs → Q (.ref p) (upd H p (.lst (bs.map V.ref))))
theorem cr_list (hc : X.calm = true) : CallR X (.type "list") (rListA X.K) := call_list_of.or ((call_list_dKr hc).or (call_list_dT hc))
def kList (x : PyData) (g : Gs) : Res PyData := match keysD x with
  | some ds => .ok (.list ds) g
  | none => .no
theorem c_list : Call1F W (rListA W.K) kList := by
  intro dr g G H v x Q i p h
  cases x with
  | list ds =>
    obtain ⟨a, vs, rfl, h1, r1⟩ := p.lst i.sub
    exact .inl ⟨a, vs, rfl, .inl (SqL.of h1), fun l hl => h l _ _ (i.new hl) (Ext.new hl) hl (none_sub i.sub hl) (dr_new i hl) ⟨vs, upd_same, r1⟩⟩
  | tuple ds =>
    obtain ⟨a, vs, rfl, h1, r1⟩ := p.tup
    exact .inl ⟨a, vs, rfl, .inr (SqT.of (i.sub _ _ h1)), fun l hl => h l _ _ (i.new hl) (Ext.new hl) hl (none_sub i.sub hl) (dr_new i hl) ⟨vs, upd_same, r1⟩⟩
  | dict kvs =>
    rcases p.dct i.sub with ⟨a, ks, rfl, h1, r1, e⟩ | ⟨a, ks, rfl, h1, r1, e⟩
    · refine .inr (.inl ⟨a, ks, rfl, h1, fun l hl => h l _ _ (i.new hl) (Ext.new hl) hl (none_sub i.sub hl) (dr_new i hl) ⟨_, upd_same, ?_⟩⟩)
      rw [e]
      have z := keysV_rp (K := W.K) (G := G) (ks.map Prod.fst)
      simpa [List.map_map, Function.comp_def] using z
    · refine .inr (.inr ⟨a, ks, rfl, h1, fun l bs hl hk => ?_⟩)
      obtain ⟨G1, i1, x1, rr⟩ := freezeKeys i hk
      refine h l _ _ (i1.new hl) (x1.trans (Ext.new hl)) hl (none_sub i1.sub hl) (dr_new i1 hl) ⟨_, upd_same, ?_⟩
      rw [e]; exact rr
  | none | bool | int | str => exact h.elim
end
end PL
end L2
set_option Elab.async false
set_option linter.all false
set_option maxRecDepth 100000
/-! PL 6: what can be collected; sorted. -/
namespace L2
namespace PL
open PySem PySem.Spec PyProof.Rows
open PySem.W (EachIs AllAlike alike dataLt dataLe AlikeAll minD maxD)
open PlM (Gone)

/-- the things that a row gives, one by one -/
def Rows (K : PySem.W.Frag) (H : Hp) (p : Addr) (F : List V → Prop) : Prop :=
  (∃ vs, SqL K H p vs ∧ F vs) ∨ (∃ vs, SqT K H p vs ∧ F vs) ∨ (∃ ks, Rd H p (.dK ks) ∧ F (ks.map fun kv => kV kv.1)) ∨ (∃ ks, Rd H p (.dT ks) ∧ ∀ bs, IsKeys H ks bs → F (bs.map V.ref))
theorem Gone.refl (s : Shared) : Gone s s := ⟨fun _ _ e => e, rfl, rfl⟩
theorem Gone.trans {s s1 s2 : Shared} (a : Gone s s1) (b : Gone s1 s2) : Gone s s2 := ⟨fun c o e => b.keep c o (a.keep c o e), b.gens.trans a.gens, b.os.trans a.os⟩
theorem Gone.of {s : Shared} {h' : Heap} {tk : Nat} (k : ∀ b o, s.heap.get? b = some o → h'.get? b = some o) : Gone s { s with heap := h', toks := tk } := ⟨k, rfl, rfl⟩
section
variable {X : Cx} {pins : List (Addr × Obj)} {σ : St} {H : Hp} {s : Shared}
theorem collect_tuple {prog : Program} {w : World} {A : Around} {E : Value → Shared → Prop} {s : Shared} {l : Addr} {vs : List Value} {Q : List Value → Shared → Prop} (hl : s.heap.IsTuple l vs.toArray)
    (h : Q vs { s with heap := (s.heap.push (seqObj "list" #[] 0)).update s.heap.objs.size (Obj.mapSeq (· ++ vs.toArray)) }) (hsz : vs.length ≤ sizeLine) : wpAny (model prog w) A (collect (.ref l)) Q E s := by
  obtain ⟨o, ho, hc, n, hd⟩ := id hl
  unfold collect
  refine wpAny_bind (wpAny_runValue (codeAny_builtin entry_proto_collect' ?_))
  show wpAny _ _ (do again (.builtin "list.__iadd__" ⟨[← newList [], .ref l], []⟩)) _ _ s
  refine wpAny_bind (wpAny_newList (wpAny_pure ⟨Code.quiet_builtin _ (by decide +kernel), codeAny_builtin entry_list_iadd' ?_⟩))
  show wpAny _ _ (Builtin.List.listExtendWith (.ref s.heap.objs.size) (.ref l) (.ref s.heap.objs.size)) _ _ { s with heap := s.heap.push (seqObj "list" #[] 0) }
  unfold Builtin.List.listExtendWith
  have ho' : (s.heap.push (seqObj "list" #[] 0)).get? l = some o := Heap.get?_push_of_some _ ho
  refine wpAny_bind (wpAny_typeOf (T := "tuple") ⟨o, ho', hc⟩ ?_)
  have ht : (Value.type "tuple" == Value.type "tuple") = true := by rfl
  rw [if_pos (by rw [ht]; simp)]
  refine wpAny_bind (listItems_at ho' hd ?_)
  refine wpAny_bind (listItems_at (xs := #[]) (n := 0) (Heap.get?_push_size _ rfl) rfl ?_)
  rw [if_neg (by simp)]
  refine wpAny_bind (listUpdate_at (xs := #[]) (n := 0) (Heap.get?_push_size _ rfl) rfl ?_ (Nat.zero_le _) (by show (#[] ++ vs.toArray).size ≤ sizeLine + 1; simp only [Array.size_append, List.size_toArray, List.length_nil]; omega))
  refine wpAny_pure ?_
  show wpAny (model prog w) A (do
      let o ← load s.heap.objs.size
      match o.data with
      | .seq xs _ => pure xs.toList
      | _ => unsupported "internal:collect") Q E { s with heap := (s.heap.push (seqObj "list" #[] 0)).update s.heap.objs.size (Obj.mapSeq (· ++ vs.toArray)) }
  refine wpAny_bind (wpAny_load (get?_update_seq (Heap.get?_push_size _ rfl) _) ?_)
  show wpAny _ _ (pure ((#[] : Array Value) ++ vs.toArray).toList) Q E _
  rw [show ((#[] : Array Value) ++ vs.toArray).toList = vs by simp]
  exact wpAny_pure h
theorem copy_gone (s : Shared) (vs : List Value) : Gone s { s with heap := (s.heap.push (seqObj "list" #[] 0)).update s.heap.objs.size (Obj.mapSeq (· ++ vs.toArray)) } := by
  have k : ∀ b o, s.heap.get? b = some o → ((s.heap.push (seqObj "list" #[] 0)).update s.heap.objs.size (Obj.mapSeq (· ++ vs.toArray))).get? b = some o := fun b o e => by
    rw [Heap.get?_update_ne _ _ _ _ (Nat.ne_of_lt (Heap.lt_size e))]
    exact Heap.get?_push_of_some _ e
  exact ⟨k, rfl, rfl⟩
/-- each kind of row can be collected -/
theorem Rows.coll {p : Addr} {F : List V → Prop} (I : Inv X pins σ H s) (r : Rows X.K H p F) : ∃ vs, F vs ∧ vs.length ≤ sizeLine ∧
    ∀ (A : Around) (E' : Value → Shared → Prop) (Q' : List Value → Shared → Prop), A.handled = none → (∀ s' acc, Gone s s' → Vals vs acc → Q' acc s') → wpAny (model X.prog X.w) A (collect (.ref p)) Q' E' s := by
  rcases r with ⟨vs, hq, f⟩ | ⟨vs, hq, f⟩ | ⟨ks, hq, f⟩ | ⟨ks, hq, f⟩
  · obtain ⟨its, rv, pl, hz⟩ := I.list hq
    exact ⟨vs, f, hz, fun A E' Q' _ k => collect_list (by exact pl.isList) (k _ _ (copy_gone s its) rv) (by rw [← rv.length]; exact hz)⟩
  · obtain ⟨its, rv, pl, hz⟩ := I.tuple hq
    exact ⟨vs, f, hz, fun A E' Q' _ k => collect_tuple (by exact pl) (k _ _ (copy_gone s its) rv) (by rw [← rv.length]; exact hz)⟩
  · obtain ⟨z, lo, ws, rk, hd⟩ := (show ObjOk X.prog X.w H s.heap p (.dK ks) from hq.ok I.hok)
    obtain ⟨ep, hat⟩ := hd.dictAt
    have hl : ks.length = ws.length := Paired.length rk
    refine ⟨_, f, by rw [List.length_map]; exact z, fun A E' Q' hh k => ?_⟩
    refine PySem.W.kdu_collect (PySem.W.kdl_dict (knd := mixKind X.prog X.w) (kvs := ws) (ep := ep) lo) hh hat (by rw [← hl]; exact z) fun h' tk acc kp it => ?_
    refine k _ _ (Gone.of kp) ?_
    have el : acc.toList.length = acc.size := by simp
    refine vals_of_at (by rw [List.length_map, el, it.1, hl]) fun j x w h1 h2 => ?_
    obtain ⟨k, y, hky, hi⟩ := it.2 j w (by rw [← Array.getElem?_toList]; exact h2)
    have e1 : (ks.map (·.1))[j]? = some k := by
      rw [KV.keys rk, List.getElem?_map, hky] <;> rfl
    have e2 : (ks.map fun kv => kV kv.1)[j]? = some (kV k) := by
      have e3 : (ks.map fun kv => kV kv.1) = (ks.map (·.1)).map kV := by rw [List.map_map] <;> rfl
      rw [e3, List.getElem?_map, e1] <;> rfl
    rw [e2] at h1
    cases h1
    exact keyIs_rel hi
  · obtain ⟨z, hs, ws, pr, o, es, ep, ho, hx, hdt, he, hn⟩ := (show ObjOk X.prog X.w H s.heap p (.dT ks) from hq.ok I.hok)
    have l1 : es.size = ws.length := size_of_entries he
    have l2 : ks.length = ws.length := Paired.length pr
    refine ⟨_, f _ (isKeys_of pr), by rw [List.length_map, List.length_map]; omega, fun A E' Q' hh k => ?_⟩
    refine PySem.W.kdu_collect (kdl_raw hs hx hdt) hh ho (by omega) fun h' tk acc' kp it => ?_
    refine k _ _ (Gone.of kp) ?_
    have ea : acc'.toList = ws.map fun x => Value.ref x.2.1 := by
      have hl : acc'.toList.length = ws.length := by rw [Array.length_toList, it.1]; exact l1
      apply List.ext_getElem?
      intro j
      rw [List.getElem?_map]
      cases hj : acc'.toList[j]? with
      | none =>
        have h1 := List.getElem?_eq_none_iff.mp hj
        rw [List.getElem?_eq_none (by omega)]
        all_goals rfl
      | some v =>
        obtain ⟨en, hen, hv⟩ := it.2 j v (by rw [← Array.getElem?_toList]; exact hj)
        have qe := entry_at he j
        rw [hen] at qe
        cases hb : ws[j]? with
        | none =>
          rw [hb] at qe
          exact nomatch (show some en = none from qe)
        | some b =>
          rw [hb] at qe
          have e2 : en = entryOfKey (tupleKind (mixKind X.prog X.w)) b := Option.some.inj qe
          rw [hv, e2]
          all_goals rfl
    have eb : acc'.toList = (ws.map fun x => x.2.1).map Value.ref := by rw [ea, List.map_map]; all_goals rfl
    rw [eb]; exact vals_refs _
end

/-! ### sorted -/
def sortOk (ds : List PyData) : Bool := ds.all (fun x => ds.all (alike x)) && ds.all (fun d => !isNonD d && smD d)
def sortD (ds : List PyData) : List PyData := ds.mergeSort (dataLe false id)
theorem sortOk_iff {ds : List PyData} (h : sortOk ds = true) : AllAlike ds ∧ (∀ d ∈ ds, d ≠ .none) ∧ (∀ d ∈ ds, d.plain = true ∧ d.depth ≤ 60) := by
  simp only [sortOk, Bool.and_eq_true, List.all_eq_true, Bool.not_eq_true', smD_iff] at h
  refine ⟨fun d hd d' hd' => h.1 d hd d' hd', fun d hd e => ?_, fun d hd => (h.2 d hd).2⟩
  have := (h.2 d hd).1
  rw [e] at this; cases this
/-- w, as d, stands among the others -/
def Among (vs : List V) (ds : List PyData) (ws : List V) (es : List PyData) : Prop := EachIs (fun w e => (w, e) ∈ vs.zip ds) ws es
theorem among_rp {K : PySem.W.Frag} {G : Hp} {vs : List V} {ds : List PyData} (r : RpL K G vs ds) {ws : List V} {es : List PyData} (a : Among vs ds ws es) : RpL K G ws es := by
  have mem : ∀ {vs : List V} {ds : List PyData}, RpL K G vs ds → ∀ p ∈ vs.zip ds, Rp K G p.1 p.2 := by
    intro vs ds r
    induction vs generalizing ds with
    | nil => intro p hp; simp at hp
    | cons v vs ih =>
      cases r with
      | cons a b =>
        intro p hp
        rw [List.zip_cons_cons] at hp
        rcases List.mem_cons.mp hp with rfl | hp
        · exact a
        · exact ih b p hp
  unfold Among at a
  induction a with
  | nil => exact .nil
  | cons h t ih => exact .cons (mem r _ h) ih
def rSortedR (K : PySem.W.Frag) : List V → Hp → VK → Prop := fun xs H Q => ∃ p, xs = [.ref p] ∧ Rows K H p fun vs => ∃ ds, DpAll K H vs ds ∧ sortOk ds = true ∧ ∀ l ws, H l = none → Among vs ds ws (sortD ds) → Q (.ref l) (upd H l (.lst ws))
theorem each_of_dp {X : Cx} {pins : List (Addr × Obj)} {σ : St} {H : Hp} {s : Shared} (I : Inv X pins σ H s) : ∀ {vs : List V} {us : List Value} {ds : List PyData}, Vals vs us → DpAll X.K H vs ds → EachIs (fun u d => ∃ v, RelV v u ∧ Dp X.K H v d) us ds
  | _, _, _, .nil, .nil => .nil
  | _, _, _, .cons a b, .cons c d => .cons ⟨_, a, c⟩ (each_of_dp I b d)
theorem zip_of {vs : List V} {us : List Value} {ds : List PyData} (K : PySem.W.Frag) (H : Hp) (r : Vals vs us) (d : DpAll K H vs ds) : EachIs (fun u d => ∃ v, RelV v u ∧ (v, d) ∈ vs.zip ds) us ds := by
  induction r generalizing ds with
  | nil => cases d; exact .nil
  | cons a b ih =>
    cases d with
    | cons c e =>
      rw [List.zip_cons_cons]
      exact .cons ⟨_, a, List.mem_cons_self⟩ ((ih e).mono fun _ _ ⟨v, h1, h2⟩ => ⟨v, h1, List.mem_cons_of_mem _ h2⟩)
theorem unzip_of {vs : List V} {ds : List PyData} : ∀ {us : List Value} {es : List PyData}, EachIs (fun u d => ∃ v, RelV v u ∧ (v, d) ∈ vs.zip ds) us es → ∃ ws, Vals ws us ∧ Among vs ds ws es
  | _, _, .nil => ⟨[], .nil, .nil⟩
  | _, _, .cons ⟨v, a, b⟩ t => by
    obtain ⟨ws, h1, h2⟩ := unzip_of t
    exact ⟨v :: ws, .cons a h1, .cons b h2⟩
/-- the state behind -/
theorem Inv.gone {X : Cx} {pins : List (Addr × Obj)} {σ : St} {H : Hp} {s s' : Shared} (I : Inv X pins σ H s) (g : Gone s s') : Inv X pins σ H s' :=
  I.call' (ch := []) g.os (Un.kept g.keep) (I.hok.kept g.keep) (by rw [g.gens]; exact I.bare) (fun _ z => nomatch z)
theorem Inv.goneNew {X : Cx} {pins : List (Addr × Obj)} {σ : St} {H : Hp} {s s' : Shared} {p : Addr} {o : HO} (I : Inv X pins σ H s) (g : Gone s s') (hp : s.heap.objs.size ≤ p) (new : ObjOk X.prog X.w (upd H p o) s'.heap p o) : Inv X pins σ (upd H p o) s' :=
  I.call' (ch := []) g.os (Un.laid g.keep hp (I.hok.fresh hp)) (I.hok.laid g.keep hp new) (by rw [g.gens]; exact I.bare) (fun _ z => nomatch z)
section
variable {X : Cx} {W : Wd}
theorem cr_sortedA (hc : X.calm = true) (hu : X.A.units + 64 < cLine) : CallR X (.builtin "sorted") (rSortedR X.K) := by
  intro pins s σ H xs us Q I r h
  obtain ⟨p, rfl, rows⟩ := h
  rw [Vals.ref1 r]
  obtain ⟨vs, ⟨ds, hd, ok, q⟩, hz, col⟩ := rows.coll I
  obtain ⟨hal, hn, hp⟩ := sortOk_iff ok
  refine PlM.sorted_src (P := fun acc _ => Vals vs acc) (R := fun u d => ∃ v, RelV v u ∧ (v, d) ∈ vs.zip ds) (C := fun bs => bs = ds) (fun E' Q' k => col _ E' Q' (I.ok.hd hc) k) (fun h' acc kp rv => ?_) fun s1 s' l out c bs g1 g hl hC ho hlen hL ei => ?_
  · refine ⟨ds, zip_of _ _ rv hd, ?_, hal, hn, ?_, fun b hb => ?_, rfl⟩
    · refine (each_of_dp I rv hd).mono fun u d ⟨v, r1, d1⟩ => ?_
      obtain ⟨as, rr⟩ := Dp.reads I d v u d1 r1
      exact ⟨as, PyProof.Rows.Reads.keeps kp rr⟩
    · have e1 := rv.length
      have e2 := (zip_of X.K H rv hd).length
      omega
    · have := (hp b hb).2
      omega
  · subst hC
    obtain ⟨ws, h1, h2⟩ := unzip_of ei
    have hlw : ws.length ≤ sizeLine := by rw [h1.length, hlen]; exact hL
    have I1 := Inv.gone I g1
    have new : ObjOk X.prog X.w (upd H l (.lst ws)) s'.heap l (.lst ws) := ⟨hlw, out, c, h1, ho⟩
    exact ⟨.ref l, _, Inv.goneNew I1 g hl new, rfl, q l ws (I1.hok.fresh hl) h2⟩
theorem dpAll_plain {ds : List PyData} (h : ∀ d ∈ ds, d.plain = true ∧ d.depth ≤ 60) : PyData.plainAll ds = true := by
  induction ds with
  | nil => rfl
  | cons d ds ih =>
    simp only [PyData.plainAll, Bool.and_eq_true]
    exact ⟨(h d List.mem_cons_self).1, ih fun e he => h e (List.mem_cons_of_mem _ he)⟩
def kSorted (x : PyData) (g : Gs) : Res PyData := match keysD x with
  | some ds => if sortOk ds then .ok (.list (sortD ds)) g else .no
  | none => .no
theorem c_sorted : Call1F W (rSortedR W.K) kSorted := by
  intro dr g G H v x Q i p h
  unfold kSorted at h
  have fin : ∀ (G1 : Hp) (vs : List V) (ds : List PyData), GI W g dr G1 H → Ext dr G H G1 H → RpL W.K G1 vs ds → okF W dr G H (if sortOk ds then .ok (.list (sortD ds)) g else .no) Q →
      ∃ ds, DpAll W.K H vs ds ∧ sortOk ds = true ∧ ∀ l ws, H l = none → Among vs ds ws (sortD ds) → Q (.ref l) (upd H l (.lst ws)) := by
    intro G1 vs ds i1 x1 r1 h
    by_cases ok : sortOk ds = true
    · rw [if_pos ok] at h
      refine ⟨ds, RpL.dp (r1.mono i1.sub) (dpAll_plain (sortOk_iff ok).2.2), ok, fun l ws hl am => ?_⟩
      exact h l _ _ (i1.new hl) (x1.trans (Ext.new hl)) hl (none_sub i1.sub hl) (dr_new i1 hl) ⟨ws, upd_same, among_rp r1 am⟩
    · rw [if_neg ok] at h; exact h.elim
  cases x with
  | list ds =>
    obtain ⟨a, vs, rfl, h1, r1⟩ := p.lst i.sub
    exact ⟨a, rfl, .inl ⟨vs, SqL.of h1, fin G vs ds i Ext.refl r1 h⟩⟩
  | tuple ds =>
    obtain ⟨a, vs, rfl, h1, r1⟩ := p.tup
    exact ⟨a, rfl, .inr (.inl ⟨vs, SqT.of (i.sub _ _ h1), fin G vs ds i Ext.refl r1 h⟩)⟩
  | dict kvs =>
    rcases p.dct i.sub with ⟨a, ks, rfl, h1, r1, e⟩ | ⟨a, ks, rfl, h1, r1, e⟩
    · refine ⟨a, rfl, .inr (.inr (.inl ⟨ks, h1, fin G _ (kvs.map Prod.fst) i Ext.refl ?_ h⟩))⟩
      rw [e]
      have z := keysV_rp (K := W.K) (G := G) (ks.map Prod.fst)
      simpa [List.map_map, Function.comp_def] using z
    · refine ⟨a, rfl, .inr (.inr (.inr ⟨ks, h1, fun bs hk => ?_⟩))⟩
      obtain ⟨G1, i1, x1, rr⟩ := freezeKeys i hk
      exact fin G1 _ (kvs.map Prod.fst) i1 x1 (by rw [e]; exact rr) h
  | none | bool | int | str => exact h.elim
end
end PL
end L2
set_option Elab.async false
set_option linter.all false
set_option maxRecDepth 100000
/-! PL 7: least and greatest, kinds, shown texts, equal dicts. -/
namespace L2
namespace PL
open PySem PySem.Spec PyProof.Rows
open PySem.W (EachIs AllAlike alike alike_unique dataLt dataLe AlikeAll minD maxD)
open PlM (Gone)

/-! ### min, max -/
theorem minD_mem (x : PyData) : ∀ xs : List PyData, minD x xs ∈ x :: xs := by
  intro xs
  unfold minD
  induction xs generalizing x with
  | nil => exact List.mem_cons_self
  | cons y r ih =>
    rw [List.foldl_cons]
    by_cases c : dataLt y x = true
    · rw [if_pos c]; exact List.mem_cons_of_mem _ (ih y)
    · rw [if_neg c]
      rcases List.mem_cons.mp (ih x) with e | e
      · rw [e]; exact List.mem_cons_self
      · exact List.mem_cons_of_mem _ (List.mem_cons_of_mem _ e)
theorem maxD_mem (x : PyData) : ∀ xs : List PyData, maxD x xs ∈ x :: xs := by
  intro xs
  unfold maxD
  induction xs generalizing x with
  | nil => exact List.mem_cons_self
  | cons y r ih =>
    rw [List.foldl_cons]
    by_cases c : dataLt x y = true
    · rw [if_pos c]; exact List.mem_cons_of_mem _ (ih y)
    · rw [if_neg c]
      rcases List.mem_cons.mp (ih x) with e | e
      · rw [e]; exact List.mem_cons_self
      · exact List.mem_cons_of_mem _ (List.mem_cons_of_mem _ e)
def minMax (mx : Bool) (x : PyData) (xs : List PyData) : PyData := if mx then maxD x xs else minD x xs
def rMinR (K : PySem.W.Frag) (mx : Bool) : List V → Hp → VK → Prop := fun xs H Q => ∃ p vs d ds, xs = [.ref p] ∧ (SqL K H p vs ∨ SqT K H p vs) ∧ DpAll K H vs (d :: ds) ∧ sortOk (d :: ds) = true ∧ ∀ v, (v, minMax mx d ds) ∈ vs.zip (d :: ds) → Q v H
theorem depthAll_le {n : Nat} : ∀ {ds : List PyData}, (∀ d ∈ ds, d.plain = true ∧ d.depth ≤ n) → PyData.depthAll ds ≤ n
  | [], _ => Nat.zero_le _
  | d :: ds, h => by
    simp only [PyData.depthAll]
    have h1 := (h d List.mem_cons_self).2
    have h2 := depthAll_le fun e he => h e (List.mem_cons_of_mem _ he)
    exact Nat.max_le.mpr ⟨h1, h2⟩
theorem zip_at : ∀ {vs : List V} {ds : List PyData} {us : List Value} {i : Nat} {u : Value}, Vals vs us → vs.length = ds.length → us[i]? = some u → ∃ v, RelV v u ∧ (v, ds.getD i .none) ∈ vs.zip ds
  | _, _, _, _, _, .nil, _, h => by simp at h
  | _, [], _, _, _, .cons a b, e, h => by simp at e
  | _, d :: ds, _, 0, _, .cons a b, e, h => by
    simp at h; subst h
    exact ⟨_, a, by simp⟩
  | _, d :: ds, _, i + 1, _, .cons a b, e, h => by
    obtain ⟨v, h1, h2⟩ := zip_at (i := i) b (by simpa using e) (by simpa using h)
    exact ⟨v, h1, by rw [List.zip_cons_cons]; exact List.mem_cons_of_mem _ (by simpa using h2)⟩
section
variable {X : Cx} {W : Wd}
theorem cr_minA (hc : X.calm = true) (hu : X.A.units + 64 < cLine) (mx : Bool) : CallR X (.builtin (if mx then "max" else "min")) (rMinR X.K mx) := by
  intro pins s σ H xs us Q I r h
  obtain ⟨p, vs, d, ds, rfl, hs, hd, ok, q⟩ := h
  rw [Vals.ref1 r]
  obtain ⟨hal, hn, hp⟩ := sortOk_iff ok
  have ha : AlikeAll (d :: ds) := ⟨fun x hx y hy => hal x hx y hy, hn⟩
  have hdep : PyData.depthAll (d :: ds) ≤ 60 := depthAll_le hp
  have hlen : vs.length = (d :: ds).length := by
    have : ∀ {vs : List V} {ds : List PyData}, DpAll X.K H vs ds → vs.length = ds.length := by
      intro vs ds h
      induction vs generalizing ds with
      | nil => cases h; rfl
      | cons v vs ih => cases h with | cons a b => rw [List.length_cons, List.length_cons, ih b]
    exact this hd
  have fin : ∀ (its : List Value) (as : List Addr) (i : Nat) (v : Value) (h' : Heap) (tk : Nat) (bs : List Addr), Vals vs its → ReadsAll s.heap its (d :: ds) as → its.toArray[i]? = some v → Reads h' v (minMax mx d ds) bs → (∀ b o, s.heap.get? b = some o → h'.get? b = some o) →
      EP X pins σ Q v { s with heap := h', toks := tk } := by
    intro its as i v h' tk bs rv ra hi rd kp
    have hi' : its[i]? = some v := by simpa using hi
    obtain ⟨w, h1, h2⟩ := zip_at (ds := d :: ds) rv hlen hi'
    obtain ⟨cs, r1, hlt, hm, _⟩ := PySem.W.readsAll_at ra i v hi'
    have mm : minMax mx d ds ∈ d :: ds := by
      unfold minMax
      cases mx with
      | true => exact maxD_mem d ds
      | false => exact minD_mem d ds
    have e := alike_unique _ _ _ _ _ (hal _ hm _ mm) (PyProof.Rows.Reads.keeps kp r1) rd
    rw [e] at h2
    exact ⟨w, H, I.kept (t' := tk) kp, h1, q w h2⟩
  have hu2 : X.A.units + 1 + PyData.depthAll (d :: ds) < cLine := by omega
  rcases hs with hs | hs
  · obtain ⟨its, rv, pl, hz⟩ := I.list hs
    obtain ⟨as, ra⟩ := Dp.readsAll I (d :: ds) vs its hd rv
    cases mx with
    | true => exact PySem.W.max_list_data (as := as) (I.ok.hd hc) pl.isList (by simpa using ra) ha hu2 fun i v h' tk bs hi rd kp => fin its as i v h' tk bs rv ra hi rd kp
    | false => exact PySem.W.min_list_data (as := as) (I.ok.hd hc) pl.isList (by simpa using ra) ha hu2 fun i v h' tk bs hi rd kp => fin its as i v h' tk bs rv ra hi rd kp
  · obtain ⟨its, rv, pl, hz⟩ := I.tuple hs
    obtain ⟨as, ra⟩ := Dp.readsAll I (d :: ds) vs its hd rv
    cases mx with
    | true => exact PySem.W.max_tuple_data (as := as) (I.ok.hd hc) pl (by simpa using ra) ha hu2 fun i v h' tk bs hi rd kp => fin its as i v h' tk bs rv ra hi rd kp
    | false => exact PySem.W.min_tuple_data (as := as) (I.ok.hd hc) pl (by simpa using ra) ha hu2 fun i v h' tk bs hi rd kp => fin its as i v h' tk bs rv ra hi rd kp
theorem rp_zip {K : PySem.W.Frag} {G : Hp} {vs : List V} {ds : List PyData} (r : RpL K G vs ds) {v : V} {d : PyData} (h : (v, d) ∈ vs.zip ds) : Rp K G v d := by
  have z : Among vs ds [v] [d] := .cons h .nil
  cases among_rp r z with
  | cons a b => exact a
def kMin (mx : Bool) (x : PyData) (g : Gs) : Res PyData := match itemsD x with
  | some (d :: ds) => if sortOk (d :: ds) then .ok (minMax mx d ds) g else .no
  | _ => .no
theorem c_min (mx : Bool) : Call1 W (rMinR W.K mx) (kMin mx) := by
  intro dr g G H v x Q i p h
  unfold kMin at h
  cases e : itemsD x with
  | none => rw [e] at h; exact h.elim
  | some l =>
    rw [e] at h
    cases l with
    | nil => exact h.elim
    | cons d ds =>
      obtain ⟨a, vs, rfl, h1, r1⟩ := p.row i.sub e
      by_cases ok : sortOk (d :: ds) = true
      · simp only [ok, if_true] at h
        exact ⟨a, vs, d, ds, rfl, h1, RpL.dp (r1.mono i.sub) (dpAll_plain (sortOk_iff ok).2.2), ok, fun w hw => h w G H i Ext.refl (rp_zip r1 hw)⟩
      · simp only [ok] at h; exact h.elim
end

/-! ### isinstance -/
def nameD : PyData → String
  | .none => "NoneType"
  | .bool _ => "bool"
  | .int _ => "int"
  | .str _ => "str"
  | .list _ => "list"
  | .tuple _ => "tuple"
  | .dict _ => "dict"
section
variable {X : Cx} {W : Wd}
def rIsiD (K : PySem.W.Frag) : List V → Hp → VK → Prop := fun xs H Q => ∃ (x : V) (T : String) (b : Bool), xs = [x, .ty T] ∧ (∃ d, Rp K H x d ∧ kitB (nameD d) T = some b) ∧ Q (.bl b) H
theorem kit_dct {pins : List (Addr × Obj)} {σ : St} {H : Hp} {s : Shared} {a : Addr} {ks : List (List Key × V)} (I : Inv X pins σ H s) (h : Rd H a (.dT ks)) : PySem.W.KitAt a "dict" s.heap := by
  obtain ⟨_, _, xs, _, o, es, ep, h1, h2, _⟩ := (show ObjOk X.prog X.w H s.heap a (.dT ks) from h.ok I.hok)
  exact ⟨o, h1, h2.1⟩
theorem call_isiD : CallR X (.builtin "isinstance") (rIsiD X.K) := by
  intro pins s σ H xs us Q I r h
  obtain ⟨x, T, b, rfl, ⟨d, rp, hk⟩, q⟩ := h
  obtain ⟨u1, u2, rfl, r1, r2⟩ := vals2 r
  obtain rfl : u2 = .type T := r2
  have base : ∀ {t : Value}, TyX X.K H x t → t = .type (nameD d) → wpAny (model X.prog X.w) X.A (call (.builtin "isinstance") [u1, .type T]) (EP X pins σ Q) X.xe s := by
    intro t ty et
    subst et
    obtain ⟨P, Z, p, hx⟩ := kit_of I r1 ty
    exact PySem.W.kia_one Z I.kIn p (kit_ty hk) hx fun tk => ⟨.bl b, H, I.tok tk, rfl, q⟩
  cases rp with
  | non => exact base (.base .non) rfl
  | bl y => exact base (.base (.bl y)) rfl
  | int i => exact base (.base (.int i)) rfl
  | str y => exact base (.base (.str y)) rfl
  | lst e _ => exact base (.base (.lst e)) rfl
  | tup e _ => exact base (.base (.tup e)) rfl
  | dK e _ _ =>
    rcases e with e | ⟨o, e⟩
    · exact base (.base (.dK e)) rfl
    · exact base (.fDict e) rfl
  | dT e _ _ _ =>
    obtain rfl : u1 = .ref _ := r1
    exact PySem.W.kia_one PySem.W.kitx_dict I.kIn (kit_dct I e) (kit_ty hk) (fun z => nomatch z) fun tk => ⟨.bl b, H, I.tok tk, rfl, q⟩
def fIsi (t : PyData → Bool) (fa : Fn) : Fn := fun ρ g => (fa ρ g).bind fun x g1 => .ok (.bool (t x)) g1
theorem ce_isi {T : String} {t : PyData → Bool} {e : Expr} {fa : Fn} {p p2 pos : Pos} {y : Str} (hK : X.K = W.K) (ht : ∀ d, kitB (nameD d) T = some (t d)) (hg : Gl X "isinstance") (hm : X.mg "isinstance" = none) (hg2 : Gl X y) (hm2 : X.mg y = none) (hv2 : bootBuiltins y = some (.type T)) (ha : PE X e (tP W fa))
    (hn : y ≠ "__name__" := by decide) (hdb : (y == ("__debug__" : Str)) = false := by decide)
    (he : starEach [e, .Name y p2] X.env = (false, eval e X.env) :: starEach [.Name y p2] X.env := by rfl) (he2 : starEach [.Name y p2] X.env = (false, eval (.Name y p2) X.env) :: starEach [] X.env := by rfl)
    (hpl : (backTo pos (starEach [.Name y p2] X.env)).any (·.1) = false := by rfl) :
    PE X (.Call (.Name "isinstance" p) [e, .Name y p2] [] pos) (tE W (fIsi t fa)) := by
  refine PE.imp (pe_callB call_isiD hg hm (by decide +kernel) (pa_cons ha (pa_cons (pe_bltn hg2 hm2 hv2 (v := .ty T) rfl hn hdb) pa_nil he2) he) (by decide) (by decide) he hpl) ?_
  rintro σ H Q ⟨ρ, g, dr, ad, G, S, h⟩
  refine seqP S poE h fun v H1 x g1 G1 S1 x1 r1 h1 => ?_
  exact ⟨v, T, t x, rfl, ⟨x, by rw [hK]; exact r1.rpH S1.gi.sub, ht x⟩, h1 _ G1 H1 S1.gi Ext.refl (.bl _)⟩
def isInt : PyData → Bool
  | .int _ => true
  | .bool _ => true
  | _ => false
def isBool : PyData → Bool
  | .bool _ => true
  | _ => false
def isStr : PyData → Bool
  | .str _ => true
  | _ => false
def isTup : PyData → Bool
  | .tuple _ => true
  | _ => false
def isLst : PyData → Bool
  | .list _ => true
  | _ => false
def isDct : PyData → Bool
  | .dict _ => true
  | _ => false
theorem isi_int (d : PyData) : kitB (nameD d) "int" = some (isInt d) := by cases d <;> (simp only [nameD, isInt]; decide +kernel)
theorem isi_bool (d : PyData) : kitB (nameD d) "bool" = some (isBool d) := by cases d <;> (simp only [nameD, isBool]; decide +kernel)
theorem isi_str (d : PyData) : kitB (nameD d) "str" = some (isStr d) := by cases d <;> (simp only [nameD, isStr]; decide +kernel)
theorem isi_tuple (d : PyData) : kitB (nameD d) "tuple" = some (isTup d) := by cases d <;> (simp only [nameD, isTup]; decide +kernel)
theorem isi_list (d : PyData) : kitB (nameD d) "list" = some (isLst d) := by cases d <;> (simp only [nameD, isLst]; decide +kernel)
theorem isi_dict (d : PyData) : kitB (nameD d) "dict" = some (isDct d) := by cases d <;> (simp only [nameD, isDct]; decide +kernel)
end

/-! ### repr -/
def flatD : PyData → Bool
  | .none => true
  | .bool _ => true
  | .int _ => true
  | .str _ => true
  | _ => false
/-- a key: a number, a text, or a tuple of such -/
def keyLike : PyData → Bool
  | .int _ => true
  | .str _ => true
  | .tuple ds => ds.all flatD
  | _ => false
/-- a value: plain, not deep -/
def valLike (d : PyData) : Bool := d.plain && decide (d.depth ≤ 50)
def reprOk : PyData → Bool
  | .dict kvs => kvs.all fun kv => keyLike kv.1 && valLike kv.2
  | d => smD d
def kRepr (x : PyData) (g : Gs) : Res PyData := if reprOk x && x.showable && decide (x.shown.length ≤ sizeLine) then .ok (.str x.shown) g else .no
theorem flat_reads {K : PySem.W.Frag} {G : Hp} {h : Heap} : ∀ {v : V} {d : PyData} {u : Value}, Rp K G v d → flatD d = true → RelV v u → Reads h u d []
  | _, _, _, .non, _, r => by cases r; exact .none
  | _, _, _, .bl b, _, r => by cases r; exact .bool _
  | _, _, _, .int i, _, r => by obtain ⟨t, rfl⟩ := r; exact .int _ _
  | _, _, _, .str i, _, r => by obtain ⟨t, rfl⟩ := r; exact .str _ _
  | _, _, _, .lst _ _, f, _ => by cases f
  | _, _, _, .tup _ _, f, _ => by cases f
  | _, _, _, .dK _ _ _, f, _ => by cases f
  | _, _, _, .dT _ _ _ _, f, _ => by cases f
theorem reads_none {h : Heap} : ∀ {us : List Value} {ds : List PyData}, EachIs (fun u d => Reads h u d []) us ds → ReadsAll h us ds []
  | _, _, .nil => .nil
  | _, _, .cons a b => by
    have := ReadsAll.cons a (reads_none b)
    simpa using this
theorem key_reads {h : Heap} : ∀ {k : Key} {u : Value}, RelV (kV k) u → Reads h u (keyD k) []
  | .inl i, _, r => by obtain ⟨t, rfl⟩ := r; exact .int _ _
  | .inr x, _, r => by obtain ⟨t, rfl⟩ := r; exact .str _ _
theorem keys_reads {h : Heap} : ∀ {ks : List Key} {us : List Value}, Vals (ks.map kV) us → ReadsAll h us (ks.map keyD) []
  | [], _, r => by cases r; exact .nil
  | k :: ks, _, .cons a b => by
    have := ReadsAll.cons (key_reads (h := h) a) (keys_reads b)
    simpa using this
section
variable {X : Cx} {W : Wd} {pins : List (Addr × Obj)} {σ : St} {H : Hp} {s : Shared}
theorem dict_parts (I : Inv X pins σ H s) {v : V} {kvs : List (PyData × PyData)} {u : Value} (p : Rp X.K H v (.dict kvs)) (hv : ∀ kv ∈ kvs, kv.2.plain = true) (r : RelV v u) :
    ∃ (a : Addr) (o : Obj) (es : Array DictEntry) (n : Nat) (bs : List Addr), u = .ref a ∧ (a == sysModules) = false ∧ s.heap.get? a = some o ∧ o.cls = .type "dict" ∧ o.data = .dict es n ∧ ReadsAll s.heap (es.toList.map (·.key)) (kvs.map (·.1)) [] ∧ ReadsAll s.heap (es.toList.map (·.val)) (kvs.map (·.2)) bs := by
  have pl : PyData.plainAll (kvs.map Prod.snd) = true := by
    have go : ∀ ds : List PyData, (∀ d ∈ ds, d.plain = true) → PyData.plainAll ds = true := by
      intro ds
      induction ds with
      | nil => intro _; rfl
      | cons d ds ih =>
        intro h
        simp only [PyData.plainAll, Bool.and_eq_true]
        exact ⟨h d List.mem_cons_self, ih fun e he => h e (List.mem_cons_of_mem _ he)⟩
    refine go _ fun d hd => ?_
    obtain ⟨kv, hk, rfl⟩ := List.mem_map.mp hd
    exact hv kv hk
  cases p with
  | @dK a ks _ h1 r1 e =>
    obtain rfl : u = .ref a := r
    obtain ⟨z, lo, ws, rk, hd⟩ := (show ObjOk X.prog X.w H s.heap a (.dK ks) from h1.ok I.hok)
    obtain ⟨o, es, ep, ho, hex, hdt, hkeys, hpair, _⟩ := id hd
    have hvals : Vals (ks.map Prod.snd) (es.toList.map (·.val)) := by
      have go : ∀ {es : List DictEntry} {ws : List (Key × Value)} {ks : List (Key × V)}, Pairs (mixKind X.prog X.w) es ws → KV ks ws → Vals (ks.map Prod.snd) (es.map (·.val)) := by
        intro es ws ks p
        induction p generalizing ks with
        | nil => intro k; cases k; exact .nil
        | cons h1 h2 _ ih =>
          intro k
          cases k with
          | cons a b => have q := a.2; rw [← h2] at q; exact .cons q (ih b)
      exact go hpair rk
    have hks : Vals (ks.map fun p => kV p.1) (es.toList.map (·.key)) := by
      have go : ∀ {es : List DictEntry} {ws : List (Key × Value)} {ks : List (Key × V)}, Pairs (mixKind X.prog X.w) es ws → KV ks ws → Vals (ks.map fun p => kV p.1) (es.map (·.key)) := by
        intro es ws ks p
        induction p generalizing ks with
        | nil => intro k; cases k; exact .nil
        | cons h1 h2 _ ih =>
          intro k
          cases k with
          | cons a b => exact .cons (keyIs_rel (by rw [a.1]; exact h1)) (ih b)
      exact go hpair rk
    have k1 : ReadsAll s.heap (es.toList.map (·.key)) (kvs.map (·.1)) [] := by
      rw [show kvs.map (·.1) = (ks.map Prod.fst).map keyD by rw [List.map_map]; exact e]
      exact keys_reads (by rw [List.map_map]; exact hks)
    obtain ⟨bs, k2⟩ := Dp.readsAll I _ _ _ (RpL.dp r1 pl) hvals
    exact ⟨a, o, es, ep, bs, rfl, lo, ho, hex.1, hdt, k1, k2⟩
  | @dT a ks _ h1 r1 e hne =>
    obtain rfl : u = .ref a := r
    obtain ⟨z, lo, xs, rk, o, es, ep, ho, hex, hdt, hent, _⟩ := (show ObjOk X.prog X.w H s.heap a (.dT ks) from h1.ok I.hok)
    have hvals : Vals (ks.map Prod.snd) (es.toList.map (·.val)) := by
      rw [hent]
      have go : ∀ {ks : List (List Key × V)} {xs : List (List Key × Addr × Value)}, KT H ks xs → Vals (ks.map Prod.snd) ((xs.map (entryOfKey (tupleKind (mixKind X.prog X.w)))).map (·.val)) := by
        intro ks xs p
        induction p with
        | nil => exact .nil
        | cons h _ ih => exact .cons h.2.2 ih
      exact go rk
    have hks : ReadsAll s.heap (es.toList.map (·.key)) (ks.map fun p => PyData.tuple (p.1.map keyD)) [] := by
      rw [hent]
      have go : ∀ {ks : List (List Key × V)} {xs : List (List Key × Addr × Value)}, KT H ks xs → ReadsAll s.heap ((xs.map (entryOfKey (tupleKind (mixKind X.prog X.w)))).map (·.key)) (ks.map fun p => PyData.tuple (p.1.map keyD)) [] := by
        intro ks xs p
        induction p with
        | nil => exact .nil
        | @cons a b _ _ h _ ih =>
          obtain ⟨_, its, rv, ⟨o, ho, hc, n, hd⟩⟩ := (show ObjOk X.prog X.w H s.heap b.2.1 (.tup (a.1.map kV)) from I.hok _ _ h.2.1)
          have t1 : Reads s.heap (.ref b.2.1) (.tuple (a.1.map keyD)) [] := .tuple ho hc hd (by simpa using keys_reads (h := s.heap) rv)
          exact ReadsAll.cons t1 ih
      exact go rk
    obtain ⟨bs, k2⟩ := Dp.readsAll I _ _ _ (RpL.dp r1 pl) hvals
    exact ⟨a, o, es, ep, bs, rfl, lo, ho, hex.1, hdt, by rw [show kvs.map (·.1) = ks.map fun p => PyData.tuple (p.1.map keyD) from e]; exact hks, k2⟩
/-- repr(x) -/
def rReprD (K : PySem.W.Frag) : List V → Hp → VK → Prop := fun xs H Q => ∃ v d, xs = [v] ∧ Rp K H v d ∧ reprOk d = true ∧ d.showable = true ∧ d.shown.length ≤ sizeLine ∧ Q (.str d.shown) H
mutual
theorem plain_noDict : ∀ d : PyData, d.plain = true → d.hasDict = false
  | .none, _ => rfl
  | .bool _, _ => rfl
  | .int _, _ => rfl
  | .str _, _ => rfl
  | .list xs, h => by simp only [PyData.hasDict]; exact plainAll_noDict xs (by simpa [PyData.plain] using h)
  | .tuple xs, h => by simp only [PyData.hasDict]; exact plainAll_noDict xs (by simpa [PyData.plain] using h)
  | .dict _, h => by simp [PyData.plain] at h
theorem plainAll_noDict : ∀ ds : List PyData, PyData.plainAll ds = true → PyData.hasDictAll ds = false
  | [], _ => rfl
  | d :: ds, h => by
    simp only [PyData.plainAll, Bool.and_eq_true] at h
    simp only [PyData.hasDictAll, plain_noDict d h.1, plainAll_noDict ds h.2, Bool.or_false]
end
theorem flat_depth {d : PyData} (h : flatD d = true) : d.depth = 0 := by cases d <;> first | rfl | cases h
theorem keyLike_depth {d : PyData} (h : keyLike d = true) : d.depth ≤ 1 := by
  cases d with
  | int => exact Nat.zero_le _
  | str => exact Nat.zero_le _
  | tuple ds =>
    simp only [PyData.depth]
    have : ∀ ds : List PyData, ds.all flatD = true → PyData.depthAll ds = 0 := by
      intro ds
      induction ds with
      | nil => intro _; rfl
      | cons d ds ih =>
        intro h
        simp only [List.all_cons, Bool.and_eq_true] at h
        simp only [PyData.depthAll, flat_depth h.1, ih h.2, Nat.max_self]
    rw [this ds h]
    exact Nat.le_refl _
  | none | bool | list | dict => cases h
theorem dict_depth : ∀ {kvs : List (PyData × PyData)}, (∀ kv ∈ kvs, keyLike kv.1 = true ∧ kv.2.depth ≤ 50) → PyData.depthKv kvs ≤ 50
  | [], _ => Nat.zero_le _
  | (a, b) :: r, h => by
    simp only [PyData.depthKv]
    have h1 := keyLike_depth (h _ List.mem_cons_self).1
    have h2 := (h _ List.mem_cons_self).2
    have h3 := dict_depth fun kv hk => h kv (List.mem_cons_of_mem _ hk)
    simp only at h1 h2
    omega
theorem keyLike_noDict {d : PyData} (h : keyLike d = true) : d.hasDict = false := by
  cases d with
  | int => rfl
  | str => rfl
  | tuple ds =>
    simp only [PyData.hasDict]
    have : ∀ ds : List PyData, ds.all flatD = true → PyData.hasDictAll ds = false := by
      intro ds
      induction ds with
      | nil => intro _; rfl
      | cons d ds ih =>
        intro h
        simp only [List.all_cons, Bool.and_eq_true] at h
        have h0 : d.hasDict = false := by cases d <;> first | rfl | cases h.1
        simp only [PyData.hasDictAll, h0, ih h.2, Bool.or_false]
    exact this ds h
  | none | bool | list | dict => cases h
theorem noDictAll {ds : List PyData} (h : ∀ d ∈ ds, d.hasDict = false) : PyData.hasDictAll ds = false := by
  induction ds with
  | nil => rfl
  | cons d ds ih => simp only [PyData.hasDictAll, h d List.mem_cons_self, ih (fun e he => h e (List.mem_cons_of_mem _ he)), Bool.or_false]
/-- repr of a dict in which no dict is -/
theorem repr_dict {P : Program} {w : World} {A : Around} {E : Value → Shared → Prop} {t : Shared} {a : Addr} {o : Obj} {es : Array DictEntry} {n : Nat} {kvs : List (PyData × PyData)} {as bs : List Addr} {Q : Value → Shared → Prop}
    (g1 : t.heap.get? a = some o) (g2 : o.cls = .type "dict") (g3 : o.data = .dict es n) (g4 : ReadsAll t.heap (es.toList.map (·.key)) (kvs.map (·.1)) as) (g5 : ReadsAll t.heap (es.toList.map (·.val)) (kvs.map (·.2)) bs) (lo : (a == sysModules) = false)
    (nk : PyData.hasDictAll (kvs.map (·.1)) = false) (nv : PyData.hasDictAll (kvs.map (·.2)) = false) (hs : (PyData.dict kvs).showable = true) (hsz : (PyData.dict kvs).shown.length ≤ sizeLine) (hg : A.guards = some []) (hu : A.units + ((PyData.dict kvs).depth + 1) < cLine)
    (hQ : ∀ h' u tk, (∀ b o, t.heap.get? b = some o → h'.get? b = some o) → Q (.str (PyData.dict kvs).shown u) { t with heap := h', toks := tk }) : wpAny (model P w) A (call (.builtin "repr") [.ref a]) Q E t := by
  have hz : (dictText (PyData.shownKv kvs)).length ≤ sizeLine := by simpa only [PyData.shown] using hsz
  obtain ⟨s1, s2⟩ := PyData.showableKv_split kvs (by simpa [PyData.showable] using hs)
  obtain ⟨b1, u1, k1⟩ := ReprAllK.of_readsAll (prog := P) (w := w) g4 s1 (fun z => by rw [nk] at z; cases z) (fun x hx => by
    obtain ⟨p, hp, hl⟩ := PyData.shownKv_key_le kvs x hx
    exact Nat.le_trans hl (Nat.le_trans (dictText_mem_le hp) hz))
  obtain ⟨b2, u2, k2⟩ := ReprAllK.of_readsAll (prog := P) (w := w) g5 s2 (fun z => by rw [nv] at z; cases z) (fun x hx => by
    obtain ⟨p, hp, hl⟩ := PyData.shownKv_val_le kvs x hx
    exact Nat.le_trans hl (Nat.le_trans (dictText_mem_le hp) hz))
  have ub : ReadAtMost t.heap (PyData.depthKv kvs) (b1 ++ b2) := (u1.mono (PyData.depthAll_keys_le kvs)).append (u2.mono (PyData.depthAll_vals_le kvs))
  have fr : a ∉ b1 ++ b2 := not_mem_of_deeper (.dict g1 g2 g3 g4 g5) (by simp only [PyData.depth]; omega) ub
  refine call_repr_slot (by omega) ⟨o, g1, g2⟩ F.slot_dict_repr ?_
  refine call_dict_reprK g1 g2 g3 lo fr (ReprEntriesK.of_two es.toList _ _ (k1.more_le (fun b hb => List.mem_append_left _ hb) (PyData.depthAll_keys_le kvs)) (k2.more_le (fun b hb => List.mem_append_right _ hb) (PyData.depthAll_vals_le kvs))) (A := A.in1) hg (fun b _ => Clear.nil b) (by simp only [PyData.depth] at hu; show A.units + 1 + (PyData.depthKv kvs + 1) < cLine; omega) (fun _ _ e => e) (fun h' u tk hk => ⟨_, _, rfl, ?_⟩) (by rw [← PyData.shownKv_eq]; exact hz)
  have := hQ h' u tk hk
  simp only [PyData.shown, PyData.shownKv_eq] at this
  exact this
theorem cr_repr (hg : X.A.guards = some []) (hu : X.A.units + 128 < cLine) : CallR X (.builtin "repr") (rReprD X.K) := by
  intro pins s σ H xs us Q I r h
  obtain ⟨v, d, rfl, p, ok, sh, hl, q⟩ := h
  obtain ⟨u, rfl, ru⟩ := vals1 r
  have byRef : ∀ (a : Addr) (as : List Addr), u = .ref a → Reads s.heap u d as → (d.hasDict = true → sysModules ∉ as) → d.depth ≤ 60 → wpAny (model X.prog X.w) X.A (call (.builtin "repr") [u]) (EP X pins σ Q) X.xe s := by
    intro a as e rd hs hd
    subst e
    exact repr_of_reads' rd sh hs hg (by omega) (fun _ _ e => e) (fun h' t tk kp => ⟨.str d.shown, H, I.kept (t' := tk) kp, ⟨t, rfl⟩, q⟩) hl
  cases p with
  | non =>
    cases ru
    exact P.repr_of_none ⟨.str _, H, I.tok _, ⟨_, rfl⟩, q⟩
  | bl b =>
    cases ru
    exact P.repr_of_bool ⟨.str _, H, I.tok _, ⟨_, rfl⟩, q⟩
  | int i =>
    obtain ⟨t, rfl⟩ := ru
    have sh' : i.natAbs.log2 < 1920 := by simpa [PyData.showable] using sh
    exact P.repr_of_int sh' ⟨.str _, H, I.tok _, ⟨_, rfl⟩, q⟩
  | str x =>
    obtain ⟨t, rfl⟩ := ru
    exact P.repr_of_str ⟨.str _, H, I.tok _, ⟨_, rfl⟩, q⟩ hl
  | @lst a vs ds e rl =>
    have rp : Rp X.K H (.ref a) (.list ds) := .lst e rl
    have ok : smD (.list ds) = true := ok
    obtain ⟨pl, dp⟩ := smD_iff.mp ok
    obtain ⟨as, rd⟩ := Dp.reads I _ _ _ (rp.dp pl) ru
    exact byRef a as ru rd (by rw [plain_noDict _ pl]; intro z; cases z) dp
  | @tup a vs ds e rl =>
    have rp : Rp X.K H (.ref a) (.tuple ds) := .tup e rl
    have ok : smD (.tuple ds) = true := ok
    obtain ⟨pl, dp⟩ := smD_iff.mp ok
    obtain ⟨as, rd⟩ := Dp.reads I _ _ _ (rp.dp pl) ru
    exact byRef a as ru rd (by rw [plain_noDict _ pl]; intro z; cases z) dp
  | @dK a ks kvs e rl ek =>
    have ok : kvs.all (fun kv => keyLike kv.1 && valLike kv.2) = true := ok
    simp only [List.all_eq_true, Bool.and_eq_true, valLike, decide_eq_true_eq] at ok
    obtain ⟨b, o, es, n, bs, rfl, lo, g1, g2, g3, g4, g5⟩ := dict_parts I (v := .ref a) (Rp.dK e rl ek) (fun kv hk => (ok kv hk).2.1) ru
    refine repr_dict g1 g2 g3 g4 g5 lo (noDictAll fun d hd => ?_) (noDictAll fun d hd => ?_) sh hl hg (by
      have := dict_depth (kvs := kvs) fun kv hk => ⟨(ok kv hk).1, (ok kv hk).2.2⟩
      simp only [PyData.depth]
      omega) fun h' t tk kp => ⟨.str (PyData.dict kvs).shown, H, I.kept (t' := tk) kp, ⟨t, rfl⟩, q⟩
    · obtain ⟨kv, hk, rfl⟩ := List.mem_map.mp hd
      exact keyLike_noDict (ok kv hk).1
    · obtain ⟨kv, hk, rfl⟩ := List.mem_map.mp hd
      exact plain_noDict _ (ok kv hk).2.1
  | @dT a ks kvs e rl ek hne =>
    have ok : kvs.all (fun kv => keyLike kv.1 && valLike kv.2) = true := ok
    simp only [List.all_eq_true, Bool.and_eq_true, valLike, decide_eq_true_eq] at ok
    obtain ⟨b, o, es, n, bs, rfl, lo, g1, g2, g3, g4, g5⟩ := dict_parts I (v := .ref a) (Rp.dT e rl ek hne) (fun kv hk => (ok kv hk).2.1) ru
    refine repr_dict g1 g2 g3 g4 g5 lo (noDictAll fun d hd => ?_) (noDictAll fun d hd => ?_) sh hl hg (by
      have := dict_depth (kvs := kvs) fun kv hk => ⟨(ok kv hk).1, (ok kv hk).2.2⟩
      simp only [PyData.depth]
      omega) fun h' t tk kp => ⟨.str (PyData.dict kvs).shown, H, I.kept (t' := tk) kp, ⟨t, rfl⟩, q⟩
    · obtain ⟨kv, hk, rfl⟩ := List.mem_map.mp hd
      exact keyLike_noDict (ok kv hk).1
    · obtain ⟨kv, hk, rfl⟩ := List.mem_map.mp hd
      exact plain_noDict _ (ok kv hk).2.1
theorem c_repr : Call1 W (rReprD W.K) kRepr := by
  intro dr g G H v x Q i p h
  unfold kRepr at h
  by_cases c : (reprOk x && x.showable && decide (x.shown.length ≤ sizeLine)) = true
  · rw [if_pos c] at h
    simp only [Bool.and_eq_true, decide_eq_true_eq] at c
    exact ⟨v, x, rfl, p.rpH i.sub, c.1.1, c.1.2, c.2, h _ G H i Ext.refl (.str _)⟩
  · rw [if_neg c] at h; exact h.elim
end
end PL
end L2
set_option Elab.async false
set_option linter.all false
set_option maxRecDepth 100000
/-! PL 8: == and != with dicts among them. -/
namespace PlM
open PySem PySem.W PySem.Calls PySem.SeqAt PyProof.Rows
section
variable {prog : Program} {w : World} {A : Around} {E : Value → Shared → Prop} {s : Shared}
theorem dict_call_none {a : Addr} {eq : Bool} {Q' : Value → Shared → Prop} (ha : s.TypeIs (.ref a) "dict") (hq : Q' .notImplemented s) : wpAny (model prog w) A (call (.builtin (if eq then "dict.__eq__" else "dict.__ne__")) [.ref a, .none]) Q' E s := by
  cases eq with
  | true =>
    refine wpAny_call_entry PySem.F.slot_dict_eq ha PySem.F.entry_dict_eq ?_ (PySem.F.args_dict_eq_2 _ _)
    show wpAny _ _ (Builtin.Dict.dictSlotArgs "__eq__" ⟨[.ref a, .none], []⟩ >>= _) _ _ s
    refine wpAny_bind ?_
    unfold Builtin.Dict.dictSlotArgs
    refine wpAny_bind (wpAny_notOrdered_dict ha ?_)
    show wpAny _ _ (pure (Value.ref a, Value.none)) _ _ s
    refine wpAny_pure ?_
    refine wpAny_bind (wpAny_isInstance (T := "NoneType") (b := false) rfl PySem.F.sub_NoneType_dict ?_)
    simp only [Bool.not_false, if_true]
    refine wpAny_bind (wpAny_rule (wpAny_pure ⟨_, rfl, hq⟩))
  | false =>
    refine wpAny_call_entry PySem.F.slot_dict_ne ha PySem.F.entry_dict_ne ?_ (PySem.F.args_dict_ne_2 _ _)
    show wpAny _ _ (Builtin.Dict.dictSlotArgs "__ne__" ⟨[.ref a, .none], []⟩ >>= _) _ _ s
    refine wpAny_bind ?_
    unfold Builtin.Dict.dictSlotArgs
    refine wpAny_bind (wpAny_notOrdered_dict ha ?_)
    show wpAny _ _ (pure (Value.ref a, Value.none)) _ _ s
    refine wpAny_pure ?_
    refine wpAny_bind (wpAny_isInstance (T := "NoneType") (b := false) rfl PySem.F.sub_NoneType_dict ?_)
    simp only [Bool.not_false, if_true]
    refine wpAny_bind (wpAny_rule (wpAny_pure ⟨_, rfl, hq⟩))
theorem dict_eq_none {a : Addr} {Q : Value → Shared → Prop} (ha : s.TypeIs (.ref a) "dict") (hu : A.units < cLine) (h : Q (.bool false) s) : wpAny (model prog w) A (compareOp .Eq (.ref a) .none) Q E s :=
  rc_eq_decline_or (k := false) ha rfl (by decide) PySem.F.sub_NoneType_dict PySem.F.slot_dict_eq PySem.F.slot_NoneType_eq_refl
    (fun _ hq => dict_call_none (eq := true) ha hq)
    (fun _ hq => call_gives PySem.F.slot_NoneType_eq_refl rfl PySem.F.entry_NoneType_eq (PySem.F.args_NoneType_eq_2 _ _) (NoneType___eq___none_ref_0 a) hq)
    (fun _ hq => wpAny_of_eq (rfl : isSame (.ref a) .none = pure false) hq) (.inr hu) h
theorem none_eq_dict {a : Addr} {Q : Value → Shared → Prop} (ha : s.TypeIs (.ref a) "dict") (hu : A.units < cLine) (h : Q (.bool false) s) : wpAny (model prog w) A (compareOp .Eq .none (.ref a)) Q E s :=
  rc_eq_decline_or (k := false) rfl ha (by decide) PySem.F.sub_dict_NoneType PySem.F.slot_NoneType_eq PySem.F.slot_dict_eq_refl
    (fun _ hq => call_gives PySem.F.slot_NoneType_eq rfl PySem.F.entry_NoneType_eq (PySem.F.args_NoneType_eq_2 _ _) (NoneType___eq___none_ref_0 a) hq)
    (fun _ hq => dict_call_none (eq := true) ha hq)
    (fun _ hq => wpAny_of_eq (rfl : isSame .none (.ref a) = pure false) hq) (.inr hu) h
theorem dict_ne_none {a : Addr} {Q : Value → Shared → Prop} (ha : s.TypeIs (.ref a) "dict") (hu : A.units < cLine) (h : Q (.bool true) s) : wpAny (model prog w) A (compareOp .NotEq (.ref a) .none) Q E s :=
  rc_ne_decline_or (k := false) ha rfl (by decide) PySem.F.sub_NoneType_dict PySem.F.slot_dict_ne PySem.F.slot_NoneType_ne_refl
    (fun _ hq => dict_call_none (eq := false) ha hq)
    (fun _ hq => call_gives PySem.F.slot_NoneType_ne_refl rfl PySem.F.entry_NoneType_ne (PySem.F.args_NoneType_ne_2 _ _) (NoneType___ne___none_ref_0 a) hq)
    (fun _ hq => wpAny_of_eq (rfl : isSame (.ref a) .none = pure false) hq) (.inr hu) h
theorem none_ne_dict {a : Addr} {Q : Value → Shared → Prop} (ha : s.TypeIs (.ref a) "dict") (hu : A.units < cLine) (h : Q (.bool true) s) : wpAny (model prog w) A (compareOp .NotEq .none (.ref a)) Q E s :=
  rc_ne_decline_or (k := false) rfl ha (by decide) PySem.F.sub_dict_NoneType PySem.F.slot_NoneType_ne PySem.F.slot_dict_ne_refl
    (fun _ hq => call_gives PySem.F.slot_NoneType_ne rfl PySem.F.entry_NoneType_ne (PySem.F.args_NoneType_ne_2 _ _) (NoneType___ne___none_ref_0 a) hq)
    (fun _ hq => dict_call_none (eq := false) ha hq)
    (fun _ hq => wpAny_of_eq (rfl : isSame .none (.ref a) = pure false) hq) (.inr hu) h
end
end PlM
namespace L2
namespace PL
open PySem PySem.Spec PyProof.Rows
open PySem.W (EachIs KeqHits)
/-! ### dicts with keys that are numbers or texts -/
def keyFlat : PyData → Bool
  | .int _ => true
  | .str _ => true
  | _ => false
def dctOk (kvs : List (PyData × PyData)) : Bool := kvs.all fun kv => keyFlat kv.1 && smD kv.2
def lookD (k : PyData) (kws : List (PyData × PyData)) : Option PyData := (kws.find? fun kw => PyData.eqv kw.1 k).map Prod.snd
def dictEq (kvs kws : List (PyData × PyData)) : Bool := (kvs.length == kws.length) && kvs.all fun kv => match lookD kv.1 kws with
  | some w => PyData.eqv kv.2 w
  | none => false
def eqX (x y : PyData) : Option Bool := if smD x && smD y then some (PyData.eqv x y) else match x, y with
  | .dict a, .dict b => if dctOk a && dctOk b then some (dictEq a b) else none
  | .dict _, .none => some false
  | .none, .dict _ => some false
  | _, _ => none
theorem keyD_eqv (a b : Key) : PyData.eqv (keyD a) (keyD b) = decide (a = b) := by
  cases a <;> cases b <;> simp [keyD, PyData.eqv]
  all_goals (rw [Bool.eq_iff_iff]; simp)
/-- the tracked rows of a dict whose keys are flat: dK, or no entry at all -/
theorem dct_rows {X : Cx} {pins : List (Addr × Obj)} {σ : St} {H : Hp} {s : Shared} (I : Inv X pins σ H s) {v : V} {kvs : List (PyData × PyData)} (p : Rp X.K H v (.dict kvs)) (ok : dctOk kvs = true) :
    ∃ a, v = .ref a ∧ (a == sysModules) = false ∧ ∃ (ks : List (Key × V)) (ws : List (Key × Value)), s.heap.DictOf (mixKind X.prog X.w) a ws ∧ KV ks ws ∧ RpL X.K H (ks.map Prod.snd) (kvs.map Prod.snd) ∧ kvs.map Prod.fst = ks.map (fun p => keyD p.1) := by
  cases p with
  | @dK a ks _ h1 r1 e =>
    obtain ⟨z, lo, ws, rk, hd⟩ := (show ObjOk X.prog X.w H s.heap a (.dK ks) from h1.ok I.hok)
    exact ⟨a, rfl, lo, ks, ws, hd, rk, r1, e⟩
  | @dT a ks _ h1 r1 e hne =>
    obtain ⟨z, lo, xs, rk, o, es, ep, ho, hex, hdt, hent, _⟩ := (show ObjOk X.prog X.w H s.heap a (.dT ks) from h1.ok I.hok)
    cases kvs with
    | nil =>
      cases ks with
      | nil =>
        cases rk
        have he : es = #[] := by
          have : es.toList = [] := hent
          simpa using this
        subst he
        exact ⟨a, rfl, lo, [], [], ⟨o, #[], ep, ho, hex, hdt, fun _ h => by simp at h, .nil, List.nodup_nil⟩, .nil, .nil, rfl⟩
      | cons k ks => simp at e
    | cons kv kvs =>
      exfalso
      cases ks with
      | nil => simp at e
      | cons k ks =>
        simp only [List.map_cons, List.cons.injEq] at e
        have : keyFlat kv.1 = true := by
          simp only [dctOk, List.all_cons, Bool.and_eq_true] at ok
          exact ok.1.1
        rw [e.1] at this; cases this
theorem rpl_len {K : PySem.W.Frag} {G : Hp} {vs : List V} {ds : List PyData} (r : RpL K G vs ds) : vs.length = ds.length := r.length
theorem look_rows {K : PySem.W.Frag} {H : Hp} : ∀ {ls : List (Key × V)} {ws : List (Key × Value)} {kws : List (PyData × PyData)} (k : Key), KV ls ws → RpL K H (ls.map Prod.snd) (kws.map Prod.snd) → kws.map Prod.fst = ls.map (fun p => keyD p.1) →
    (valueAt ws k = none ∧ lookD (keyD k) kws = none) ∨ ∃ y v d, valueAt ws k = some y ∧ RelV v y ∧ Rp K H v d ∧ lookD (keyD k) kws = some d ∧ d ∈ kws.map Prod.snd
  | [], _, kws, k, .nil, r, e => by
    cases kws with
    | nil => exact .inl ⟨rfl, rfl⟩
    | cons _ _ => simp at e
  | (k1, v1) :: ls, (k2, u2) :: ws, kws, k, .cons a b, r, e => by
    cases kws with
    | nil => simp at e
    | cons kw kws =>
      obtain ⟨d1, d2⟩ := kw
      simp only [List.map_cons, List.cons.injEq] at e r
      obtain ⟨e1, e2⟩ := a
      simp only at e1 e2
      subst e1
      cases r with
      | cons r1 r2 =>
        have he := e.1
        subst he
        by_cases hk : k1 = k
        · right
          refine ⟨u2, v1, d2, by simp [valueAt, hk], e2, r1, ?_, by simp⟩
          simp [lookD, keyD_eqv, hk]
        · rcases look_rows k b r2 e.2 with ⟨h1, h2⟩ | ⟨y, v, d, h1, h2, h3, h4, h5⟩
          · left
            refine ⟨?_, ?_⟩
            · unfold valueAt at h1 ⊢
              rw [List.find?_cons]
              simp only [decide_eq_false hk]
              exact h1
            · unfold lookD at h2 ⊢
              rw [List.find?_cons]
              simp only [keyD_eqv, decide_eq_false hk]
              exact h2
          · right
            refine ⟨y, v, d, ?_, h2, h3, ?_, by simp at h5 ⊢; exact .inr h5⟩
            · unfold valueAt at h1 ⊢
              rw [List.find?_cons]
              simp only [decide_eq_false hk]
              exact h1
            · unfold lookD at h4 ⊢
              rw [List.find?_cons]
              simp only [keyD_eqv, decide_eq_false hk]
              exact h4
theorem hits_rows {X : Cx} {pins : List (Addr × Obj)} {σ : St} {H : Hp} {s : Shared} (I : Inv X pins σ H s) {A : Around} (hu : A.units + 60 < cLine) {ls : List (Key × V)} {wb : List (Key × Value)} {kws : List (PyData × PyData)} (rb : KV ls wb) (pb : RpL X.K H (ls.map Prod.snd) (kws.map Prod.snd)) (eb : kws.map Prod.fst = ls.map (fun p => keyD p.1)) (ob : ∀ d ∈ kws.map Prod.snd, smD d = true) :
    ∀ {ks : List (Key × V)} {wa : List (Key × Value)} {kvs : List (PyData × PyData)}, KV ks wa → RpL X.K H (ks.map Prod.snd) (kvs.map Prod.snd) → kvs.map Prod.fst = ks.map (fun p => keyD p.1) → (∀ d ∈ kvs.map Prod.snd, smD d = true) →
      KeqHits A s wb wa (kvs.all fun kv => match lookD kv.1 kws with
        | some w => PyData.eqv kv.2 w
        | none => false)
  | [], _, kvs, .nil, _, e, _ => by
    cases kvs with
    | nil => exact .nil
    | cons _ _ => simp at e
  | (k1, v1) :: ks, (k2, u2) :: wa, kvs, .cons a b, r, e, o => by
    cases kvs with
    | nil => simp at e
    | cons kv kvs =>
      obtain ⟨d1, d2⟩ := kv
      simp only [List.map_cons, List.cons.injEq] at e r o
      obtain ⟨e1, e2⟩ := a
      simp only at e1 e2
      subst e1
      have he := e.1
      subst he
      cases r with
      | cons r1 r2 =>
        rw [List.all_cons]
        rcases look_rows k1 rb pb eb with ⟨h1, h2⟩ | ⟨y, v, d, h1, h2, h3, h4, h5⟩
        · simp only [h2, Bool.false_and]
          exact .miss h1
        · simp only [h4]
          obtain ⟨p1, q1⟩ := smD_iff.mp (o d2 List.mem_cons_self)
          obtain ⟨p2, q2⟩ := smD_iff.mp (ob d h5)
          obtain ⟨as, ra⟩ := Dp.reads I d2 v1 u2 (r1.dp p1) e2
          obtain ⟨bs, rd⟩ := Dp.reads I d v y (h3.dp p2) h2
          exact .hit h1 (SeqAt.eqAt_plain _ _ A s _ _ _ _ ra rd p1 p2 (by omega)) (hits_rows I hu rb pb eb ob b r2 e.2 fun d hd => o d (List.mem_cons_of_mem _ hd))
section
variable {X : Cx} {W : Wd}
def rEqX (K : PySem.W.Frag) (neg : Bool) : R2 := fun x y H Q => ∃ d e b, Rp K H x d ∧ Rp K H y e ∧ eqX d e = some b ∧ Q (.bl (if neg then !b else b)) H
theorem dct_type {pins : List (Addr × Obj)} {σ : St} {H : Hp} {s : Shared} (I : Inv X pins σ H s) {v : V} {kvs : List (PyData × PyData)} {u : Value} (p : Rp X.K H v (.dict kvs)) (r : RelV v u) : ∃ a, u = .ref a ∧ s.TypeIs (.ref a) "dict" := by
  cases p with
  | @dK a ks _ h1 _ _ =>
    obtain ⟨_, _, vs, _, o, es, ep, h1, h2, _⟩ := (show ObjOk X.prog X.w H s.heap a (.dK ks) from h1.ok I.hok)
    exact ⟨a, r, o, h1, h2.1⟩
  | @dT a ks _ h1 _ _ _ =>
    obtain ⟨_, _, xs, _, o, es, ep, h1, h2, _⟩ := (show ObjOk X.prog X.w H s.heap a (.dT ks) from h1.ok I.hok)
    exact ⟨a, r, o, h1, h2.1⟩
theorem dct_vals {kvs : List (PyData × PyData)} (ok : dctOk kvs = true) : ∀ d ∈ kvs.map Prod.snd, smD d = true := fun d hd => by
  obtain ⟨kv, hk, rfl⟩ := List.mem_map.mp hd
  simp only [dctOk, List.all_eq_true, Bool.and_eq_true] at ok
  exact (ok kv hk).2
theorem lens {ks : List (Key × V)} {ws : List (Key × Value)} {kvs : List (PyData × PyData)} (r : KV ks ws) (e : kvs.map Prod.fst = ks.map (fun p => keyD p.1)) : ws.length = kvs.length := by
  have h1 : ks.length = ws.length := Paired.length r
  have h2 := keys_len e
  omega
theorem or_eqX (hu : X.A.units + 128 < cLine) : OpR X (compareOp .Eq) (rEqX X.K false) := by
  intro pins s σ H x y v u Q I rx ry h
  obtain ⟨d, e, b, hd, he, hb, q⟩ := h
  unfold eqX at hb
  by_cases c : (smD d && smD e) = true
  · rw [if_pos c] at hb
    cases hb
    simp only [Bool.and_eq_true, smD_iff] at c
    obtain ⟨as, r1⟩ := Dp.reads I d x v (hd.dp c.1.1) rx
    obtain ⟨bs, r2⟩ := Dp.reads I e y u (he.dp c.2.1) ry
    exact SeqAt.eq_plain r1 r2 c.1.1 c.2.1 (by omega) ⟨.bl _, H, I, rfl, q⟩
  · rw [if_neg c] at hb
    cases d with
    | dict kvs =>
      cases e with
      | dict kws =>
        simp only at hb
        split at hb
        · rename_i o
          cases hb
          simp only [Bool.and_eq_true] at o
          obtain ⟨a, rfl, la, ks, wa, da, ra, pa, ea⟩ := dct_rows I hd o.1
          obtain ⟨b, rfl, lb, ls, wb, db, rb, pb, eb⟩ := dct_rows I he o.2
          obtain rfl : v = .ref a := rx
          obtain rfl : u = .ref b := ry
          refine PySem.W.keq_eq la lb da db (by omega) (fun _ => hits_rows I (by show X.A.units + 1 + 60 < _; omega) rb pb eb (dct_vals o.2) ra pa ea (dct_vals o.1)) ⟨.bl _, H, I, rfl, ?_⟩
          rw [lens ra ea, lens rb eb]
          exact q
        · cases hb
      | none =>
        cases hb
        cases he
        cases ry
        obtain ⟨a, rfl, ta⟩ := dct_type I hd rx
        exact PlM.dict_eq_none ta (by omega) ⟨.bl _, H, I, rfl, q⟩
      | bool | int | str | list | tuple => cases hb
    | none =>
      cases e with
      | dict kws =>
        cases hb
        cases hd
        cases rx
        obtain ⟨a, rfl, ta⟩ := dct_type I he ry
        exact PlM.none_eq_dict ta (by omega) ⟨.bl _, H, I, rfl, q⟩
      | none | bool | int | str | list | tuple => cases hb
    | bool | int | str | list | tuple => cases e <;> cases hb
theorem or_neX (hu : X.A.units + 128 < cLine) : OpR X (compareOp .NotEq) (rEqX X.K true) := by
  intro pins s σ H x y v u Q I rx ry h
  obtain ⟨d, e, b, hd, he, hb, q⟩ := h
  unfold eqX at hb
  by_cases c : (smD d && smD e) = true
  · rw [if_pos c] at hb
    cases hb
    simp only [Bool.and_eq_true, smD_iff] at c
    obtain ⟨as, r1⟩ := Dp.reads I d x v (hd.dp c.1.1) rx
    obtain ⟨bs, r2⟩ := Dp.reads I e y u (he.dp c.2.1) ry
    exact SeqAt.ne_plain r1 r2 c.1.1 c.2.1 (by omega) ⟨.bl _, H, I, rfl, q⟩
  · rw [if_neg c] at hb
    cases d with
    | dict kvs =>
      cases e with
      | dict kws =>
        simp only at hb
        split at hb
        · rename_i o
          cases hb
          simp only [Bool.and_eq_true] at o
          obtain ⟨a, rfl, la, ks, wa, da, ra, pa, ea⟩ := dct_rows I hd o.1
          obtain ⟨b, rfl, lb, ls, wb, db, rb, pb, eb⟩ := dct_rows I he o.2
          obtain rfl : v = .ref a := rx
          obtain rfl : u = .ref b := ry
          refine PySem.W.keq_ne la lb da db (by omega) (fun _ => hits_rows I (by show X.A.units + 1 + 60 < _; omega) rb pb eb (dct_vals o.2) ra pa ea (dct_vals o.1)) ⟨.bl _, H, I, rfl, ?_⟩
          rw [lens ra ea, lens rb eb]
          exact q
        · cases hb
      | none =>
        cases hb
        cases he
        cases ry
        obtain ⟨a, rfl, ta⟩ := dct_type I hd rx
        exact PlM.dict_ne_none ta (by omega) ⟨.bl _, H, I, rfl, q⟩
      | bool | int | str | list | tuple => cases hb
    | none =>
      cases e with
      | dict kws =>
        cases hb
        cases hd
        cases rx
        obtain ⟨a, rfl, ta⟩ := dct_type I he ry
        exact PlM.none_ne_dict ta (by omega) ⟨.bl _, H, I, rfl, q⟩
      | none | bool | int | str | list | tuple => cases hb
    | bool | int | str | list | tuple => cases e <;> cases hb
def kEqX (neg : Bool) (x y : PyData) (g : Gs) : Res PyData := match eqX x y with
  | some b => .ok (.bool (if neg then !b else b)) g
  | none => .no
theorem op_eqX (neg : Bool) : OpP W (rEqX W.K neg) (kEqX neg) := by
  intro dr g G H v w x y Q i p q h
  unfold kEqX at h
  cases e : eqX x y with
  | none => rw [e] at h; exact h.elim
  | some b =>
    rw [e] at h
    exact ⟨x, y, b, p.rpH i.sub, q.rpH i.sub, e, h (.bl _) G H i Ext.refl (.bl _)⟩
end
end PL
end L2
set_option Elab.async false
set_option linter.all false
set_option maxRecDepth 100000
/-! PL 9: places and membership, dicts too. -/
namespace L2
namespace PL
open PySem PySem.Spec PyProof.Rows
open PySem.W (EachIs)

/-- the kinds of keys: numbers and texts; tuples of such -/
def keyKindD : PyData → Nat
  | .int _ => 1
  | .str _ => 1
  | .tuple ds => if ds.all keyFlat then 2 else 0
  | _ => 0
/-- what a dict holds at a key; none: not told here -/
def getD? (kvs : List (PyData × PyData)) (y : PyData) : Option (Option PyData) := match keyKindD y with
  | 0 => none
  | n => match kvs with
    | [] => some none
    | kv :: _ => if keyKindD kv.1 = n then some (lookD y kvs) else none
theorem flat_key {K : PySem.W.Frag} {G : Hp} {v : V} {y : PyData} (r : Rp K G v y) (h : keyFlat y = true) : ∃ k, v = kV k ∧ y = keyD k := by
  cases r with
  | int i => exact ⟨.inl i, rfl, rfl⟩
  | str x => exact ⟨.inr x, rfl, rfl⟩
  | non | bl | lst | tup | dK | dT => cases h
theorem flat_keys {K : PySem.W.Frag} {G : Hp} : ∀ {vs : List V} {ds : List PyData}, RpL K G vs ds → ds.all keyFlat = true → ∃ ks : List Key, vs = ks.map kV ∧ ds = ks.map keyD
  | _, _, .nil, _ => ⟨[], rfl, rfl⟩
  | _, _, .cons a b, h => by
    simp only [List.all_cons, Bool.and_eq_true] at h
    obtain ⟨k, h1, h2⟩ := flat_key a h.1
    obtain ⟨ks, h3, h4⟩ := flat_keys b h.2
    exact ⟨k :: ks, by rw [h1, h3]; rfl, by rw [h2, h4]; rfl⟩
/-- a key as a value -/
def KeyV (H : Hp) (y : V) : Prop := (∃ k, y = kV k) ∨ ∃ b, ∃ k : List Key, y = .ref b ∧ H b = some (.tup (k.map kV))
def EmptyD (H : Hp) (a : Addr) : Prop := Rd H a (.dK []) ∨ Rd H a (.dT [])
theorem key_cases {K : PySem.W.Frag} {H : Hp} {w : V} {y : PyData} (q : Rp K H w y) (h : keyKindD y ≠ 0) : (∃ k, w = kV k ∧ y = keyD k ∧ keyKindD y = 1) ∨ ∃ b, ∃ k : List Key, w = .ref b ∧ H b = some (.tup (k.map kV)) ∧ y = .tuple (k.map keyD) ∧ keyKindD y = 2 := by
  cases q with
  | int i => exact .inl ⟨.inl i, rfl, rfl, rfl⟩
  | str x => exact .inl ⟨.inr x, rfl, rfl, rfl⟩
  | @tup a vs ds e r =>
    by_cases c : ds.all keyFlat = true
    · obtain ⟨ks, h1, h2⟩ := flat_keys r c
      exact .inr ⟨a, ks, rfl, by rw [← h1]; exact e, by rw [h2], by simp [keyKindD, c]⟩
    · simp [keyKindD, c] at h
  | non | bl | lst | dK | dT => exact absurd rfl h
theorem keysD_eqv : ∀ (a b : List Key), PyData.eqvAll (a.map keyD) (b.map keyD) = decide (a = b)
  | [], [] => by simp [PyData.eqvAll]
  | [], _ :: _ => by simp [PyData.eqvAll]
  | _ :: _, [] => by simp [PyData.eqvAll]
  | x :: a, y :: b => by
    simp only [List.map_cons, PyData.eqvAll, keyD_eqv, keysD_eqv a b, List.cons.injEq, Bool.decide_and]
/-- rows of a dict by its keys -/
theorem look_gen {κ : Type} [DecidableEq κ] {K : PySem.W.Frag} {G : Hp} (f : κ → PyData) (hf : ∀ a b, PyData.eqv (f a) (f b) = decide (a = b)) : ∀ {ls : List (κ × V)} {kws : List (PyData × PyData)} (k : κ), RpL K G (ls.map Prod.snd) (kws.map Prod.snd) → kws.map Prod.fst = ls.map (fun p => f p.1) →
    (valV ls k = none ∧ lookD (f k) kws = none) ∨ ∃ v d, valV ls k = some v ∧ Rp K G v d ∧ lookD (f k) kws = some d
  | [], kws, k, r, e => by
    cases kws with
    | nil => exact .inl ⟨rfl, rfl⟩
    | cons _ _ => simp at e
  | (k1, v1) :: ls, kws, k, r, e => by
    cases kws with
    | nil => simp at e
    | cons kw kws =>
      obtain ⟨d1, d2⟩ := kw
      simp only [List.map_cons, List.cons.injEq] at e r
      cases r with
      | cons r1 r2 =>
        have he := e.1
        subst he
        by_cases hk : k1 = k
        · right
          exact ⟨v1, d2, by simp [valV, hk], r1, by simp [lookD, hf, hk]⟩
        · rcases look_gen f hf k r2 e.2 with ⟨h1, h2⟩ | ⟨v, d, h1, h2, h3⟩
          · left
            refine ⟨?_, ?_⟩
            · unfold valV at h1 ⊢
              rw [List.find?_cons]
              simp only [decide_eq_false hk]
              exact h1
            · unfold lookD at h2 ⊢
              rw [List.find?_cons]
              simp only [hf, decide_eq_false hk]
              exact h2
          · right
            refine ⟨v, d, ?_, h2, ?_⟩
            · unfold valV at h1 ⊢
              rw [List.find?_cons]
              simp only [decide_eq_false hk]
              exact h1
            · unfold lookD at h3 ⊢
              rw [List.find?_cons]
              simp only [hf, decide_eq_false hk]
              exact h3
/-- a dict asked at a key -/
theorem dget_pk {K : PySem.W.Frag} {dr : Option Addr} {G H : Hp} {v w : V} {kvs : List (PyData × PyData)} {y : PyData} {r : Option PyData} (s : Sub G H) (p : Pk K dr G H v (.dict kvs)) (q : Pk K dr G H w y) (h : getD? kvs y = some r) :
    ∃ a, v = .ref a ∧ ((EmptyD H a ∧ KeyV H w ∧ r = none) ∨ (DGet H a w none ∧ r = none) ∨ ∃ z d, DGet H a w (some z) ∧ r = some d ∧ Rp K G z d) := by
  unfold getD? at h
  cases hk : keyKindD y with
  | zero => rw [hk] at h; simp at h
  | succ n =>
    rw [hk] at h
    simp only at h
    have kc := key_cases (q.rpH s) (by rw [hk]; exact Nat.succ_ne_zero n)
    have kv : KeyV H w := by
      rcases kc with ⟨k, h1, _⟩ | ⟨b, k, h1, h2, _⟩
      · exact .inl ⟨k, h1⟩
      · exact .inr ⟨b, k, h1, h2⟩
    cases kvs with
    | nil =>
      simp only at h
      cases h
      rcases p.dct s with ⟨a, ks, rfl, h1, r1, e⟩ | ⟨a, ks, rfl, h1, r1, e⟩
      · cases ks with
        | nil => exact ⟨a, rfl, .inl ⟨.inl h1, kv, rfl⟩⟩
        | cons _ _ => simp at e
      · cases ks with
        | nil => exact ⟨a, rfl, .inl ⟨.inr h1, kv, rfl⟩⟩
        | cons _ _ => simp at e
    | cons kv0 rest =>
      simp only at h
      by_cases c : keyKindD kv0.1 = n + 1
      · rw [if_pos c] at h
        cases h
        rcases p.dct s with ⟨a, ks, rfl, h1, r1, e⟩ | ⟨a, ks, rfl, h1, r1, e⟩
        · refine ⟨a, rfl, .inr ?_⟩
          have k1 : n + 1 = 1 := by
            cases ks with
            | nil => simp at e
            | cons k0 _ =>
              simp only [List.map_cons, List.cons.injEq] at e
              rw [← c, e.1]
              cases k0.1 <;> rfl
          rcases kc with ⟨k, hw, hy, _⟩ | ⟨b, k, hw, hb, hy, h2⟩
          · rcases look_gen keyD keyD_eqv k r1 e with ⟨l1, l2⟩ | ⟨z, d, l1, l2, l3⟩
            · exact .inl ⟨.inl ⟨ks, k, h1, hw, l1.symm⟩, by rw [hy]; exact l2⟩
            · exact .inr ⟨z, d, .inl ⟨ks, k, h1, hw, l1.symm⟩, by rw [hy]; exact l3, l2⟩
          · rw [hk, k1] at h2; cases h2
        · refine ⟨a, rfl, .inr ?_⟩
          have k2 : n + 1 ≠ 1 := by
            cases ks with
            | nil => simp at e
            | cons k0 _ =>
              simp only [List.map_cons, List.cons.injEq] at e
              rw [← c, e.1]
              simp only [keyKindD]
              split <;> decide
          rcases kc with ⟨k, hw, hy, h2⟩ | ⟨b, k, hw, hb, hy, h2⟩
          · rw [hk] at h2; exact absurd h2 k2
          · rcases look_gen (fun k : List Key => PyData.tuple (k.map keyD)) (fun a b => by simp only [PyData.eqv]; exact keysD_eqv a b) k r1 e with ⟨l1, l2⟩ | ⟨z, d, l1, l2, l3⟩
            · exact .inl ⟨.inr ⟨ks, k, b, h1, hw, hb, l1.symm⟩, by rw [hy]; exact l2⟩
            · exact .inr ⟨z, d, .inr ⟨ks, k, b, h1, hw, hb, l1.symm⟩, by rw [hy]; exact l3, l2⟩
      · rw [if_neg c] at h; cases h

section
variable {X : Cx} {W : Wd}
theorem raw_empty {pins : List (Addr × Obj)} {σ : St} {H : Hp} {s : Shared} {a : Addr} (I : Inv X pins σ H s) (h : EmptyD H a) : (a == sysModules) = false ∧ s.heap.DictOf (mixKind X.prog X.w) a [] ∧ s.heap.DictOfH (tupleKind (mixKind X.prog X.w)) a [] := by
  have fin : ∀ {o : Obj} {ep : Nat}, s.heap.get? a = some o → o.ExactDict → o.data = .dict #[] ep → s.heap.DictOf (mixKind X.prog X.w) a [] ∧ s.heap.DictOfH (tupleKind (mixKind X.prog X.w)) a [] := fun ho hx hd =>
    ⟨⟨_, #[], _, ho, hx, hd, fun _ h => by simp at h, .nil, List.nodup_nil⟩, ⟨_, #[], _, ho, hx, hd, rfl, fun _ h => by simp at h, List.nodup_nil⟩⟩
  rcases h with h | h
  · obtain ⟨z, lo, ws, rk, o, es, ep, ho, hex, hdt, hk, hp, _⟩ := (show ObjOk X.prog X.w H s.heap a (.dK []) from h.ok I.hok)
    cases rk
    have he : es = #[] := by
      have : es.toList = [] := by
        have := hp.length
        simpa using this
      simpa using this
    subst he
    exact ⟨lo, fin ho hex hdt⟩
  · obtain ⟨z, lo, xs, rk, o, es, ep, ho, hex, hdt, hent, _⟩ := (show ObjOk X.prog X.w H s.heap a (.dT []) from h.ok I.hok)
    cases rk
    have he : es = #[] := by
      have : es.toList = [] := hent
      simpa using this
    subst he
    exact ⟨lo, fin ho hex hdt⟩
def rInX (K : PySem.W.Frag) (neg : Bool) : R2 := fun y x H Q => rInP K neg y x H Q ∨ ((∃ (c : Nat) (z : Str), y = .str ⟨#[c]⟩ ∧ x = .str z ∧ Q (.bl (if neg then !decide (c ∈ z.cps.toList) else decide (c ∈ z.cps.toList))) H) ∨
  ∃ a, x = .ref a ∧ ((∃ o, DGet H a y o ∧ Q (.bl (if neg then !o.isSome else o.isSome)) H) ∨ (EmptyD H a ∧ KeyV H y ∧ Q (.bl neg) H)))
theorem or_inX (hu : X.A.units + 200 < cLine) : OpR X (compareOp .In) (rInX X.K false) := by
  refine (or_in hu).or (op_in_sign.or ?_)
  intro pins s σ H y x u v Q I ry rx h
  obtain ⟨a, rfl, h⟩ := h
  obtain rfl : v = .ref a := rx
  rcases h with ⟨o, g, q⟩ | ⟨e, k, q⟩
  · exact d_in (by omega) I g ry fun s3 I3 => ⟨.bl o.isSome, H, I3, rfl, q⟩
  · obtain ⟨lo, d1, d2⟩ := raw_empty I e
    rcases k with ⟨k, rfl⟩ | ⟨b, k, rfl, hb⟩
    · refine wpAny_in_of (kV_is ry) lo d1.mapOf ?_
      exact ⟨.bl false, H, I.tok _, rfl, q⟩
    · cases (show u = Value.ref b from ry)
      refine wpAny_in_heap (tupleKind_room_in1 (by omega)) (key_of I.hok hb) lo d2 ?_
      exact ⟨.bl false, H, I.tok _, rfl, q⟩
theorem or_notinX (hu : X.A.units + 200 < cLine) : OpR X (compareOp .NotIn) (rInX X.K true) := by
  refine (or_notin hu).or (op_notIn_sign.or ?_)
  intro pins s σ H y x u v Q I ry rx h
  obtain ⟨a, rfl, h⟩ := h
  obtain rfl : v = .ref a := rx
  rcases h with ⟨o, g, q⟩ | ⟨e, k, q⟩
  · exact d_notIn (by omega) I g ry fun s3 I3 => ⟨.bl (!o.isSome), H, I3, rfl, q⟩
  · obtain ⟨lo, d1, d2⟩ := raw_empty I e
    rcases k with ⟨k, rfl⟩ | ⟨b, k, rfl, hb⟩
    · refine wpAny_notIn_of (kV_is ry) lo d1.mapOf ?_
      exact ⟨.bl true, H, I.tok _, rfl, q⟩
    · cases (show u = Value.ref b from ry)
      refine wpAny_notIn_heap (tupleKind_room_in1 (by omega)) (key_of I.hok hb) lo d2 ?_
      exact ⟨.bl true, H, I.tok _, rfl, q⟩
/-- x in y -/
def inX (x y : PyData) : Option Bool := match y with
  | .dict kvs => (getD? kvs x).map Option.isSome
  | .str _ => signIn x y
  | _ => inD x y
def kInX (neg : Bool) (x y : PyData) (g : Gs) : Res PyData := match inX x y with
  | some b => .ok (.bool (if neg then !b else b)) g
  | none => .no
theorem op_inX (neg : Bool) : OpP W (rInX W.K neg) (kInX neg) := by
  intro dr g G H v w x y Q i p q h
  unfold kInX at h
  cases e : inX x y with
  | none => rw [e] at h; exact h.elim
  | some b =>
    rw [e] at h
    have fin : Q (.bl (if neg then !b else b)) H := h (.bl _) G H i Ext.refl (.bl _)
    have plainCase : inD x y = some b → rInX W.K neg v w H Q := by
      intro hb
      have hx : smD x = true ∧ smD y = true := by
        unfold inD at hb
        cases y with
        | list ys =>
          simp only at hb
          split at hb
          · rename_i c; simpa using c
          · cases hb
        | tuple ys =>
          simp only at hb
          split at hb
          · rename_i c; simpa using c
          · cases hb
        | none | bool | int | str | dict => cases hb
      exact .inl ⟨x, y, b, p.dp i.sub (smD_iff.mp hx.1).1, q.dp i.sub (smD_iff.mp hx.2).1, hb, fin⟩
    cases y with
    | dict kvs =>
      simp only [inX, Option.map_eq_some_iff] at e
      obtain ⟨o, e, rfl⟩ := e
      obtain ⟨a, rfl, z | ⟨z, rfl⟩ | ⟨z, d, g1, rfl, _⟩⟩ := dget_pk i.sub q p e
      · obtain ⟨z1, z2, rfl⟩ := z
        refine .inr (.inr ⟨a, rfl, .inr ⟨z1, z2, ?_⟩⟩)
        cases neg <;> exact fin
      · exact .inr (.inr ⟨a, rfl, .inl ⟨_, z, fin⟩⟩)
      · exact .inr (.inr ⟨a, rfl, .inl ⟨_, g1, fin⟩⟩)
    | str z =>
      simp only [inX, signIn] at e
      cases x with
      | str s =>
        simp only at e
        by_cases c : s.cps.size = 1
        · rw [if_pos c] at e
          cases e
          refine .inr (.inl ⟨s.cps.getD 0 0, z, ?_, q.str, fin⟩)
          rw [p.str, ← sign_eq c]
        · rw [if_neg c] at e; cases e
      | none | bool | int | list | tuple | dict => cases e
    | none | bool | int | list | tuple => exact plainCase e

/-! ### places -/
theorem ix_dict (hu : X.A.units + 1 < cLine) : IxR X (fun x y H Q => ∃ a v, x = .ref a ∧ DGet H a y (some v) ∧ Q v H) := by
  intro value slice pins s σ H x y v u Q I rx ry h hs
  obtain ⟨a, z, rfl, g, q⟩ := h
  obtain rfl : v = .ref a := rx
  have hT := dict_typeIs I g
  unfold subscriptTail
  refine wpAny_bind ?_
  rw [getitemInPython_of_ne hT.not_modules]
  refine wpAny_bind (wpAny_specialOf hT PySem.F.slot_dict_getitem.lookup ?_)
  have h2 : wpAny (model X.prog X.w) X.A (getItem (.ref a) u) (EP X pins σ Q) X.xe s := d_getItem hu I g ry fun w' s3 I3 rw' => ⟨z, H, I3, rw', q⟩
  have fin : wpAny (model X.prog X.w) X.A (subscripted slice false (.ref a) u) (fun r s₃ => wpAny (model X.prog X.w) X.A (letTemporaryGo value (.ref a) r >>= fun _ => pure r) (EP X pins σ Q) X.xe s₃) X.xe s := by
    rw [hs]
    exact wpAny_operating (wpAny_mono h2 (fun r s₃ h₃ => wpAny_bind (wpAny_letTemporaryGo (wpAny_pure h₃))) fun _ _ x => x)
  first
    | exact wpAny_pure (wpAny_bind fin)
    | exact wpAny_bind (wpAny_pure (wpAny_bind fin))
    | exact wpAny_bind fin
def rIxX (K : PySem.W.Frag) : R2 := fun x y H Q => rIxL K x y H Q ∨ (rIxT K x y H Q ∨ (rIxS x y H Q ∨ ∃ a v, x = .ref a ∧ DGet H a y (some v) ∧ Q v H))
theorem ixX (hu : X.A.units + 1 < cLine) : IxR X (rIxX X.K) := ix_list.or (ix_tup.or (ix_str.or (ix_dict hu)))
def atX (x y : PyData) : Option PyData := match x with
  | .dict kvs => (getD? kvs y).bind id
  | _ => atD x y
def kAt (x y : PyData) (g : Gs) : Res PyData := match atX x y with
  | some d => .ok d g
  | none => .no
theorem op_at : OpP W (rIxX W.K) kAt := by
  intro dr g G H v w x y Q i p q h
  unfold kAt at h
  cases e : atX x y with
  | none => rw [e] at h; exact h.elim
  | some d =>
    rw [e] at h
    have fin : ∀ z, Rp W.K G z d → Q z H := fun z rz => h z G H i Ext.refl rz
    cases x with
    | list xs =>
      cases y with
      | int j =>
        obtain ⟨a, vs, rfl, h1, r1⟩ := p.lst i.sub
        obtain ⟨z, z1, z2⟩ := atI_rp r1 e
        exact .inl ⟨a, vs, j, z, rfl, q.int, SqL.of h1, z1, fin z z2⟩
      | none | bool | str | list | tuple | dict => cases e
    | tuple xs =>
      cases y with
      | int j =>
        obtain ⟨a, vs, rfl, h1, r1⟩ := p.tup
        obtain ⟨z, z1, z2⟩ := atI_rp r1 e
        exact .inr (.inl ⟨a, vs, j, z, rfl, q.int, SqT.of (i.sub _ _ h1), z1, fin z z2⟩)
      | none | bool | str | list | tuple | dict => cases e
    | str z =>
      cases y with
      | int j =>
        simp only [atX, atD] at e
        by_cases c : z.length ≤ sizeLine
        · rw [if_pos c, Option.map_eq_some_iff] at e
          obtain ⟨n, e1, rfl⟩ := e
          exact .inr (.inr (.inl ⟨z, j, n, p.str, q.int, c, e1, fin _ (.str _)⟩))
        · rw [if_neg c] at e; cases e
      | none | bool | str | list | tuple | dict => cases e
    | dict kvs =>
      simp only [atX, Option.bind_eq_some_iff] at e
      obtain ⟨o, e1, e2⟩ := e
      obtain rfl : o = some d := e2
      obtain ⟨a, rfl, z | ⟨z, e3⟩ | ⟨z, d', g1, e3, rz⟩⟩ := dget_pk i.sub p q e1
      · cases z.2.2
      · cases e3
      · cases e3
        exact .inr (.inr (.inr ⟨a, z, rfl, g1, fin z rz⟩))
    | none | bool | int => cases e
theorem cp_at {a b : Expr} {fa fb : Fn} {pos : Pos} (hK : X.K = W.K) (hu : X.A.units + 1 < cLine) (ha : PE X a (tP W fa)) (hb : PE X b (tP W fb)) (hs : PlainIx b := by exact fun _ _ => rfl) : PE X (.Subscript a b pos) (tE W (fBin kAt fa fb)) :=
  PE.imp (pe_ix (by rw [← hK]; exact ixX hu) ha hb hs) (tOp_P op_at)
end
end PL
end L2
set_option Elab.async false
set_option linter.all false
set_option maxRecDepth 100000
/-! PL 10: statements. -/
namespace L2
namespace PL
open PySem PySem.Spec PyProof.Rows

/-- how a statement ends -/
inductive Fl where
  | nx (ρ : Env) | rt (d : PyData) | bk (ρ : Env) | ct (ρ : Env)
abbrev FnS := Env → Gs → Res Fl
/-- the state within a def that was entered at (G0, H0) -/
structure SB (W : Wd) (ρ : Env) (g : Gs) (dr : Option Addr) (ad : Nat → Addr) (σ : St) (G0 H0 G H : Hp) : Prop where
  sr : SR W ρ g dr ad σ G H
  ext : Ext dr G0 H0 G H
  own : ∀ (i : Nat) (d : PyData), ρ[i]? = some (.ow d) → H0 (ad i) = none
def okS (W : Wd) (dr : Option Addr) (G0 H0 : Hp) (r : Res Fl) (D : Ends) : Prop := match r with
  | .ok (.nx ρ) g => ∀ ad σ G H, SB W ρ g dr ad σ G0 H0 G H → D.nx σ H
  | .ok (.rt d) g => ∀ v G H, GI W g dr G H → Ext dr G0 H0 G H → Rp W.K G v d → D.rt v H
  | .ok (.bk ρ) g => ∀ ad σ G H, SB W ρ g dr ad σ G0 H0 G H → D.bk σ H
  | .ok (.ct ρ) g => ∀ ad σ G H, SB W ρ g dr ad σ G0 H0 G H → D.ct σ H
  | .bad d g => badP W dr G0 H0 d g
  | .no => False
def tS (W : Wd) (f : FnS) : TS := fun D σ H => ∃ ρ g dr ad G G0 H0, SB W ρ g dr ad σ G0 H0 G H ∧ okS W dr G0 H0 (f ρ g) D
/-- the family of posts that goes with a statement -/
def pS (W : Wd) (dr : Option Addr) (G0 H0 : Hp) (D : Ends) (G H : Hp) (r : Res Fl) : Prop := Ext dr G0 H0 G H ∧ okS W dr G0 H0 r D
theorem poS {W : Wd} {dr : Option Addr} {G0 H0 : Hp} {D : Ends} : Po W dr (pS W dr G0 H0 D) :=
  ⟨fun G H d g h => badP.mono h.2 h.1, fun _ _ h => h.2, fun _ _ _ _ _ h e => ⟨h.1.trans e, h.2⟩⟩
theorem SB.next {W : Wd} {ρ : Env} {g g' : Gs} {dr : Option Addr} {ad : Nat → Addr} {σ : St} {G0 H0 G H G' H' : Hp} (S : SB W ρ g dr ad σ G0 H0 G H) (e : Ext dr G H G' H') (i : GI W g' dr G' H') : SB W ρ g' dr ad σ G0 H0 G' H' :=
  ⟨S.sr.ext e i, S.ext.trans e, S.own⟩
theorem tS.mono {W : Wd} {f : FnS} {D D' : Ends} {σ : St} {H : Hp} (h : tS W f D σ H) (n : ∀ σ H, D.nx σ H → D'.nx σ H) (r : ∀ v H, D.rt v H → D'.rt v H) (b : ∀ σ H, D.bk σ H → D'.bk σ H) (c : ∀ σ H, D.ct σ H → D'.ct σ H) : tS W f D' σ H := by
  obtain ⟨ρ, g, dr, ad, G, G0, H0, S, h⟩ := h
  refine ⟨ρ, g, dr, ad, G, G0, H0, S, ?_⟩
  cases e : f ρ g with
  | ok fl g1 =>
    rw [e] at h
    cases fl with
    | nx ρ' => exact fun ad σ G H s => n _ _ (h ad σ G H s)
    | rt d => exact fun v G H i x rp => r _ _ (h v G H i x rp)
    | bk ρ' => exact fun ad σ G H s => b _ _ (h ad σ G H s)
    | ct ρ' => exact fun ad σ G H s => c _ _ (h ad σ G H s)
  | bad d g1 => rw [e] at h; exact h
  | no => rw [e] at h; exact h

/-! ### blocks -/
def fSkip : FnS := fun ρ g => .ok (.nx ρ) g
def fSeq (a b : FnS) : FnS := fun ρ g => (a ρ g).bind fun fl g1 => match fl with
  | .nx ρ' => b ρ' g1
  | fl => .ok fl g1
section
variable {X : Cx} {W : Wd} {st : Stmt} {rest : List Stmt} {f k : FnS} {fa fb fc : Fn} {pos : Pos} {e c : Expr}
theorem cs_nil : PSs X [] (tS W fSkip) := by
  refine PSs.imp pss_nil ?_
  rintro D σ H ⟨ρ, g, dr, ad, G, G0, H0, S, h⟩
  exact h ad σ G H S
theorem cs_cons (h1 : PS X st (tS W f)) (h2 : PSs X rest (tS W k)) : PSs X (st :: rest) (tS W (fSeq f k)) := by
  refine PSs.imp (pss_cons h1 h2) ?_
  rintro D σ H ⟨ρ, g, dr, ad, G, G0, H0, S, h⟩
  refine ⟨ρ, g, dr, ad, G, G0, H0, S, ?_⟩
  unfold fSeq at h
  cases e : f ρ g with
  | ok fl g1 =>
    rw [e] at h
    cases fl with
    | nx ρ' => exact fun ad' σ' G' H' S' => ⟨ρ', g1, dr, ad', G', G0, H0, S', h⟩
    | rt d => exact h
    | bk ρ' => exact h
    | ct ρ' => exact h
  | bad d g1 => rw [e] at h; exact h
  | no => rw [e] at h; exact h
theorem cs_one (h1 : PS X st (tS W f)) : PSs X [st] (tS W f) := by
  refine PSs.imp (pss_one h1) ?_
  intro D σ H h
  exact h
/-! ### return, raise nothing, pass, break, continue -/
def fRet (fa : Fn) : FnS := fun ρ g => (fa ρ g).bind fun d g1 => .ok (.rt d) g1
theorem cs_ret (he : PE X e (tE W fa)) : PS X (.Return (some e) pos) (tS W (fRet fa)) := by
  refine PS.imp (ps_ret he) ?_
  rintro D σ H ⟨ρ, g, dr, ad, G, G0, H0, S, h⟩
  refine seqE S.sr poS (P := pS W dr G0 H0 D) ⟨S.ext, h⟩ fun v H1 x g1 G1 S1 x1 r1 h1 => ?_
  exact h1.2 v G1 H1 S1.gi h1.1 r1
theorem cs_retN : PS X (.Return none pos) (tS W (fRet (fCst .none))) := by
  refine PS.imp ps_retN ?_
  rintro D σ H ⟨ρ, g, dr, ad, G, G0, H0, S, h⟩
  exact h .non G H S.sr.gi S.ext .non
theorem cs_pass : PS X (.Pass pos) (tS W fSkip) := by
  refine PS.imp ps_pass ?_
  rintro D σ H ⟨ρ, g, dr, ad, G, G0, H0, S, h⟩
  exact h ad σ G H S
def fBrk : FnS := fun ρ g => .ok (.bk ρ) g
def fCnt : FnS := fun ρ g => .ok (.ct ρ) g
theorem cs_break : PS X (.Break pos) (tS W fBrk) := by
  refine PS.imp ps_break ?_
  rintro D σ H ⟨ρ, g, dr, ad, G, G0, H0, S, h⟩
  exact h ad σ G H S
theorem cs_continue : PS X (.Continue pos) (tS W fCnt) := by
  refine PS.imp ps_continue ?_
  rintro D σ H ⟨ρ, g, dr, ad, G, G0, H0, S, h⟩
  exact h ad σ G H S
/-! ### if -/
def fIf (fc : Fn) (a b : FnS) : FnS := fun ρ g => (fc ρ g).bind fun x g1 => match x with
  | .bool true => a ρ g1
  | .bool false => b ρ g1
  | _ => .no
theorem cs_if {a b : List Stmt} (hc : PT X c (tT W fc)) (ha : PSs X a (tS W f)) (hb : PSs X b (tS W k)) : PS X (.If c a b pos) (tS W (fIf fc f k)) := by
  refine PS.imp (ps_if hc ha hb) ?_
  rintro D σ H ⟨ρ, g, dr, ad, G, G0, H0, S, h⟩
  refine seqT S.sr poS (P := pS W dr G0 H0 D) ⟨S.ext, h⟩ (fun x g1 n => ?_) fun b H1 g1 G1 S1 x1 h1 => ?_
  · cases x <;> first | rfl | exact absurd rfl (n _)
  · have S2 : SB W ρ g1 dr ad σ G0 H0 G1 H1 := S.next x1 S1.gi
    cases b with
    | true => exact ⟨ρ, g1, dr, ad, G1, G0, H0, S2, h1.2⟩
    | false => exact ⟨ρ, g1, dr, ad, G1, G0, H0, S2, h1.2⟩
/-! ### an expression alone -/
def fExp (fa : Fn) : FnS := fun ρ g => (fa ρ g).bind fun _ g1 => .ok (.nx ρ) g1

/-! ### slots -/
theorem SR.set {ρ : Env} {g : Gs} {dr : Option Addr} {ad : Nat → Addr} {σ : St} {G H : Hp} (S : SR W ρ g dr ad σ G H) (i : Nat) (sl : Sl) (v : V) (a : Addr) (h : SlOk W.K G H dr a sl (some (some v)))
    (dis : ∀ d, sl = .ow d → ∀ (j : Nat) (e : PyData), j ≠ i → ρ[j]? = some (.ow e) → ad j ≠ a) : SR W (ρ.set i sl) g dr (fun j => if j = i then a else ad j) (σ.set i (some v)) G H := by
  refine ⟨S.gi, by rw [List.length_set, List.length_set]; exact S.len, fun j sl' hj => ?_, fun j k d e hj hk eq => ?_⟩
  · by_cases c : j = i
    · subst c
      rw [List.getElem?_set] at hj
      simp only [if_true] at hj
      split at hj
      · rename_i hl
        cases hj
        rw [if_pos rfl, List.getElem?_set, if_pos rfl, if_pos (by rw [← S.len]; exact hl)]
        exact h
      · cases hj
    · rw [List.getElem?_set_ne (fun q => c q.symm)] at hj
      rw [if_neg c, List.getElem?_set_ne (fun q => c q.symm)]
      exact S.slot j sl' hj
  · by_cases c : j = i
    · subst c
      rw [if_pos rfl] at eq
      by_cases c2 : k = j
      · exact c2.symm
      · exfalso
        rw [if_neg c2] at eq
        rw [List.getElem?_set_ne (fun q => c2 q.symm)] at hk
        have hsl : sl = .ow d := by
          rw [List.getElem?_set] at hj
          simp only [if_true] at hj
          split at hj
          · cases hj; rfl
          · cases hj
        exact dis d hsl k e c2 hk eq.symm
    · rw [if_neg c] at eq
      rw [List.getElem?_set_ne (fun q => c q.symm)] at hj
      by_cases c2 : k = i
      · subst c2
        exfalso
        rw [if_pos rfl] at eq
        have hsl : sl = .ow e := by
          rw [List.getElem?_set] at hk
          simp only [if_true] at hk
          split at hk
          · cases hk; rfl
          · cases hk
        exact dis e hsl j d c hj eq
      · rw [if_neg c2] at eq
        rw [List.getElem?_set_ne (fun q => c2 q.symm)] at hk
        exact S.inj j k d e hj hk eq
theorem SB.set {ρ : Env} {g : Gs} {dr : Option Addr} {ad : Nat → Addr} {σ : St} {G0 H0 G H : Hp} (S : SB W ρ g dr ad σ G0 H0 G H) (i : Nat) (sl : Sl) (v : V) (a : Addr) (h : SlOk W.K G H dr a sl (some (some v)))
    (dis : ∀ d, sl = .ow d → H0 a = none ∧ ∀ (j : Nat) (e : PyData), j ≠ i → ρ[j]? = some (.ow e) → ad j ≠ a) : SB W (ρ.set i sl) g dr (fun j => if j = i then a else ad j) (σ.set i (some v)) G0 H0 G H := by
  refine ⟨S.sr.set i sl v a h fun d e => (dis d e).2, S.ext, fun j d hj => ?_⟩
  by_cases c : j = i
  · subst c
    rw [if_pos rfl]
    rw [List.getElem?_set] at hj
    simp only [if_true] at hj
    split at hj
    · cases hj; exact (dis d rfl).1
    · cases hj
  · rw [if_neg c]
    rw [List.getElem?_set_ne (fun q => c q.symm)] at hj
    exact S.own j d hj
/-- x = e, handed on -/
def fSet (i : Nat) (fa : Fn) : FnS := fun ρ g => (fa ρ g).bind fun d g1 => .ok (.nx (ρ.set i (.sh d))) g1
theorem cs_set {i : Nat} {x : Str} {px : Pos} (h : ∀ te, PE X e te → PS X (.Assign [.Name x px] e pos) (tAsg te (gName i))) (he : PE X e (tE W fa)) : PS X (.Assign [.Name x px] e pos) (tS W (fSet i fa)) := by
  refine PS.imp (h _ he) ?_
  rintro D σ H ⟨ρ, g, dr, ad, G, G0, H0, S, h⟩
  refine seqE S.sr poS (P := pS W dr G0 H0 D) ⟨S.ext, h⟩ fun v H1 d g1 G1 S1 x1 r1 h1 => ?_
  have S2 : SB W ρ g1 dr ad σ G0 H0 G1 H1 := S.next x1 S1.gi
  exact h1.2 _ _ G1 H1 (S2.set i (.sh d) v 0 ⟨v, rfl, r1⟩ fun d z => by cases z)
/-- x = e, one's own -/
def fSetO (i : Nat) (fa : Fn) : FnS := fun ρ g => (fa ρ g).bind fun d g1 => .ok (.nx (ρ.set i (.ow d))) g1
theorem seqF {β : Type} {ρ : Env} {g : Gs} {dr : Option Addr} {ad : Nat → Addr} {σ : St} {G H : Hp} {f : Fn} {k : PyData → Gs → Res β} {P : Hp → Hp → Res β → Prop} {R : VK} (S : SR W ρ g dr ad σ G H) (po : Po W dr P) (h : P G H ((f ρ g).bind k))
    (q : ∀ a H1 x g1 G1, SR W ρ g1 dr ad σ G1 H1 → Ext dr G H G1 H1 → H a = none → G1 a = none → dr ≠ some a → OwAt W.K G1 H1 a x → P G1 H1 (k x g1) → R (.ref a) H1) : tF W f σ H R := by
  refine ⟨ρ, g, dr, ad, G, S, ?_⟩
  cases e : f ρ g with
  | ok d g1 =>
    rw [e] at h
    exact fun a G1 H1 i x n1 n2 n3 o => q a H1 d g1 G1 (S.ext x i) x n1 n2 n3 o (po.mono _ _ _ _ _ h x)
  | bad d g1 => rw [e] at h; exact po.bad _ _ _ _ h
  | no => rw [e] at h; exact (po.no _ _ h).elim
theorem SR.fresh {ρ : Env} {g : Gs} {dr : Option Addr} {ad : Nat → Addr} {σ : St} {G H : Hp} (S : SR W ρ g dr ad σ G H) {a : Addr} (h : H a = none) (j : Nat) (e : PyData) (hj : ρ[j]? = some (.ow e)) : ad j ≠ a := fun q => by
  obtain ⟨_, _, _, h4⟩ := S.slot j _ hj
  obtain ⟨u, hu, _⟩ := h4.there
  rw [q, h] at hu; cases hu
theorem Ext.fresh0 {dr : Option Addr} {G0 H0 G H : Hp} (e : Ext dr G0 H0 G H) {a : Addr} (h : H a = none) : H0 a = none := e.none_of h
theorem cs_setO {i : Nat} {x : Str} {px : Pos} (h : ∀ te, PE X e te → PS X (.Assign [.Name x px] e pos) (tAsg te (gName i))) (he : PE X e (tF W fa)) : PS X (.Assign [.Name x px] e pos) (tS W (fSetO i fa)) := by
  refine PS.imp (h _ he) ?_
  rintro D σ H ⟨ρ, g, dr, ad, G, G0, H0, S, h⟩
  refine seqF S.sr poS (P := pS W dr G0 H0 D) ⟨S.ext, h⟩ fun a H1 d g1 G1 S1 x1 n1 n2 n3 o h1 => ?_
  have S2 : SB W ρ g1 dr ad σ G0 H0 G1 H1 := S.next x1 S1.gi
  exact h1.2 _ _ G1 H1 (S2.set i (.ow d) (.ref a) a ⟨rfl, n2, n3, o⟩ fun d _ => ⟨S.ext.fresh0 n1, fun j e _ hj => S.sr.fresh n1 j e hj⟩)
end
end PL
end L2
set_option Elab.async false
set_option linter.all false
set_option maxRecDepth 100000
/-! PL 11: one's own things: told at last, written, displayed. -/
namespace L2
namespace PL
open PySem PySem.Spec PyProof.Rows

section
variable {X : Cx} {W : Wd} {st : Stmt} {f k : FnS} {fa fb fc : Fn} {pos : Pos} {e c : Expr}

/-! ### writing one's own thing -/
theorem tabs_upd {T : List (Addr × Str)} {H : Hp} {a : Addr} {o u : HO} (t : LamX.Tabs T H) (h : H a = some u) (m : Mine u) : LamX.Tabs T (upd H a o) := by
  intro p hp
  obtain ⟨ps, h1, h2, h3⟩ := t p hp
  have n1 : p.1 ≠ a := fun q => by rw [q, h] at h1; cases h1; exact m
  refine ⟨ps, by rw [upd_ne n1]; exact h1, h2, fun pos cv hc => ?_⟩
  obtain ⟨c, e1, e2⟩ := h3 pos cv hc
  have n2 : c ≠ a := fun q => by rw [q, h] at e2; cases e2; exact m
  exact ⟨c, e1, by rw [upd_ne n2]; exact e2⟩
theorem SlOk.other {K : PySem.W.Frag} {G H : Hp} {dr : Option Addr} {b : Addr} {sl : Sl} {o : Option (Option V)} {a : Addr} {u w : HO} (s : SlOk K G H dr b sl o) (h : H a = some u) (m : Mine u) (d : dr ≠ some a) (n : ∀ e, sl = .ow e → b ≠ a)
    (sc : ∀ ns, sl = .sc ns → dr ≠ none) : SlOk K G (upd H a w) dr b sl o := by
  cases sl with
  | sc ns => intro q; exact absurd q (sc ns rfl)
  | un => trivial
  | sh d => exact s
  | ow e =>
    obtain ⟨h1, h2, h3, h4⟩ := s
    refine ⟨h1, h2, h3, h4.mono (fun _ _ z => z) fun o ho _ => ?_⟩
    rw [upd_ne (n e rfl)]; exact ho
  | dr => exact s
def isSc : Sl → Bool
  | .sc _ => true
  | _ => false
/-- no script is held any more -/
def wOk (ρ : Env) (g : Gs) : Bool := g.isSome || ρ.all fun sl => !isSc sl
theorem wOk_iff {ρ : Env} {g : Gs} (h : wOk ρ g = true) {dr : Option Addr} {G H : Hp} (i : GI W g dr G H) (j : Nat) (ns : List Int) (hj : ρ[j]? = some (.sc ns)) : dr ≠ none := by
  intro e
  have z := i.draw
  cases g with
  | some q => obtain ⟨x, v, h1, _⟩ := z; rw [h1] at e; cases e
  | none =>
    simp only [wOk, Option.isSome_none, Bool.false_or, List.all_eq_true] at h
    have := h _ (List.mem_of_getElem? hj)
    simp [isSc] at this
/-- the thing in slot i is written -/
theorem SB.write {ρ : Env} {g : Gs} {dr : Option Addr} {ad : Nat → Addr} {σ : St} {G0 H0 G H : Hp} (S : SB W ρ g dr ad σ G0 H0 G H) {i : Nat} {d d' : PyData} {o : HO} (hi : ρ[i]? = some (.ow d)) (ho : OwAt W.K G (upd H (ad i) o) (ad i) d') (hs : ∀ (j : Nat) ns, ρ[j]? = some (.sc ns) → dr ≠ none) :
    SB W (ρ.set i (.ow d')) g dr ad σ G0 H0 G (upd H (ad i) o) := by
  obtain ⟨h1, h2, h3, h4⟩ := S.sr.slot i _ hi
  obtain ⟨u, hu, hm⟩ := h4.there
  have gi : GI W g dr G (upd H (ad i) o) := by
    refine ⟨fun c v q => ?_, S.sr.gi.imm, ?_, tabs_upd S.sr.gi.tabs hu hm⟩
    · have n : c ≠ ad i := fun z => by rw [z, h2] at q; cases q
      rw [upd_ne n]; exact S.sr.gi.sub c v q
    · have z := S.sr.gi.draw
      cases g with
      | none => exact z
      | some q =>
        obtain ⟨x, v, z1, z2, z3, z4⟩ := z
        have n : x ≠ ad i := fun e => h3 (by rw [z1, e])
        exact ⟨x, v, z1, z2, by rw [upd_ne n]; exact z3, z4⟩
  refine ⟨⟨gi, by rw [List.length_set]; exact S.sr.len, fun j sl hj => ?_, fun j k' a b hj hk q => ?_⟩, ⟨S.ext.g, fun c v q dc n => ?_, S.ext.n, fun c v q => ?_⟩, fun j e hj => ?_⟩
  · by_cases cj : j = i
    · subst cj
      rw [List.getElem?_set] at hj
      simp only [if_true] at hj
      split at hj
      · cases hj; exact ⟨h1, h2, h3, ho⟩
      · cases hj
    · rw [List.getElem?_set_ne (fun q => cj q.symm)] at hj
      refine (S.sr.slot j sl hj).other hu hm h3 (fun e he q => cj ?_) fun ns hn => ?_
      · subst he; exact S.sr.inj j i e d hj hi q
      · subst hn; exact hs j ns hj
  · have own : ∀ {j : Nat} {a : PyData}, (ρ.set i (.ow d'))[j]? = some (.ow a) → ∃ b, ρ[j]? = some (.ow b) := by
      intro j a hj
      by_cases cj : j = i
      · subst cj; exact ⟨d, hi⟩
      · rw [List.getElem?_set_ne (fun q => cj q.symm)] at hj; exact ⟨a, hj⟩
    obtain ⟨a1, hj'⟩ := own hj
    obtain ⟨b1, hk'⟩ := own hk
    exact S.sr.inj j k' a1 b1 hj' hk' q
  · have n' : c ≠ ad i := fun z => by rw [z, S.own i d hi] at q; cases q
    rw [upd_ne n']; exact S.ext.h c v q dc n
  · have n' : c ≠ ad i := fun z => by rw [z, S.own i d hi] at q; cases q
    rw [upd_ne n']; exact S.ext.d c v q
  · by_cases cj : j = i
    · subst cj; exact S.own j d hi
    · rw [List.getElem?_set_ne (fun q => cj q.symm)] at hj; exact S.own j e hj
/-! ### telling one's own thing: from now on no one writes it -/
def frzE (ρ : Env) (i : Nat) : Env := match ρ[i]? with
  | some (.ow d) => ρ.set i (.sh d)
  | _ => ρ
def fFrz (i : Nat) (f : FnS) : FnS := fun ρ g => f (frzE ρ i) g
/-- told: what stands in G and H afterwards -/
theorem SB.told {ρ : Env} {g : Gs} {dr : Option Addr} {ad : Nat → Addr} {σ : St} {G0 H0 G H : Hp} (S : SB W ρ g dr ad σ G0 H0 G H) {i : Nat} {d : PyData} (hi : ρ[i]? = some (.ow d)) :
    (∃ vs ds, d = .list ds ∧ H (ad i) = some (.lst vs) ∧ SB W (ρ.set i (.sh d)) g dr ad σ G0 H0 (upd G (ad i) (.lst vs)) H) ∨
    (∃ u, H (ad i) = some u ∧ Mut (some u) ∧ ((wOk ρ g = true) → ∀ o, SB W (ρ.set i (.sh d)) g dr ad σ G0 H0 (upd G (ad i) (.frz o u)) (upd H (ad i) (.frz o u)))) := by
  obtain ⟨h1, h2, h3, h4⟩ := S.sr.slot i _ hi
  have base : ∀ (o' : HO), Ext dr G0 H0 G H → (∀ c v, H0 c = some v → c ≠ ad i) := fun o' _ c v q z => by rw [z, S.own i d hi] at q; cases q
  have slots : ∀ {G' H' : Hp}, Sub G G' → (∀ c, c ≠ ad i → H' c = H c) → (∀ c, c ≠ ad i → G' c = G c) → (∀ ns, (∃ j : Nat, ρ[j]? = some (.sc ns)) → dr = none → ∀ c, SqL W.K H c (ns.map V.int) → SqL W.K H' c (ns.map V.int)) →
      (∃ v, σ[i]? = some (some v) ∧ Rp W.K G' v d) → ∀ (j : Nat) (sl : Sl), (ρ.set i (.sh d))[j]? = some sl → SlOk W.K G' H' dr (ad j) sl σ[j]? := by
    intro G' H' sub hh gg sc hv j sl hj
    by_cases cj : j = i
    · subst cj
      rw [List.getElem?_set] at hj
      simp only [if_true] at hj
      split at hj
      · cases hj; exact hv
      · cases hj
    · rw [List.getElem?_set_ne (fun q => cj q.symm)] at hj
      have z := S.sr.slot j sl hj
      cases sl with
      | sc ns => intro q; obtain ⟨a, z1, z2⟩ := z q; exact ⟨a, z1, sc ns ⟨j, hj⟩ q a z2⟩
      | un => trivial
      | sh e => obtain ⟨v, z1, z2⟩ := z; exact ⟨v, z1, z2.mono sub⟩
      | ow e =>
        obtain ⟨z1, z2, z3, z4⟩ := z
        have n : ad j ≠ ad i := fun q => cj (S.sr.inj j i e d hj hi q)
        exact ⟨z1, by rw [gg _ n]; exact z2, z3, z4.mono sub fun o ho _ => by rw [hh _ n]; exact ho⟩
      | dr => exact z
  have inj : ∀ (j k : Nat) (a b : PyData), (ρ.set i (.sh d))[j]? = some (.ow a) → (ρ.set i (.sh d))[k]? = some (.ow b) → ad j = ad k → j = k := by
    have own : ∀ {j : Nat} {a : PyData}, (ρ.set i (.sh d))[j]? = some (.ow a) → ρ[j]? = some (.ow a) := by
      intro j a hj
      by_cases cj : j = i
      · subst cj
        rw [List.getElem?_set] at hj
        simp only [if_true] at hj
        split at hj <;> cases hj
      · rw [List.getElem?_set_ne (fun q => cj q.symm)] at hj; exact hj
    exact fun j k a b hj hk q => S.sr.inj j k a b (own hj) (own hk) q
  have own : ∀ (j : Nat) (e : PyData), (ρ.set i (.sh d))[j]? = some (.ow e) → H0 (ad j) = none := by
    intro j a hj
    by_cases cj : j = i
    · subst cj
      rw [List.getElem?_set] at hj
      simp only [if_true] at hj
      split at hj <;> cases hj
    · rw [List.getElem?_set_ne (fun q => cj q.symm)] at hj; exact S.own j a hj
  have dict : ∀ (u : HO), H (ad i) = some u → Mine u → Imm (.frz ⟨.none, none, .fields #[], #[]⟩ u) → (∀ o, Rp W.K (upd G (ad i) (.frz o u)) (.ref (ad i)) d) → wOk ρ g = true → ∀ o, SB W (ρ.set i (.sh d)) g dr ad σ G0 H0 (upd G (ad i) (.frz o u)) (upd H (ad i) (.frz o u)) := by
    intro u hu hm _ hr ok o
    have gi : GI W g dr (upd G (ad i) (.frz o u)) (upd H (ad i) (.frz o u)) := by
      refine ⟨fun c v q => ?_, fun c v q => ?_, ?_, tabs_upd S.sr.gi.tabs hu hm⟩
      · by_cases cj : c = ad i
        · subst cj; rw [upd_same] at q ⊢; exact q
        · rw [upd_ne cj] at q ⊢; exact S.sr.gi.sub c v q
      · by_cases cj : c = ad i
        · subst cj; rw [upd_same] at q; cases q; trivial
        · rw [upd_ne cj] at q; exact S.sr.gi.imm c v q
      · have z := S.sr.gi.draw
        cases g with
        | none => exact z
        | some q =>
          obtain ⟨x, v, z1, z2, z3, z4⟩ := z
          have n : x ≠ ad i := fun e => h3 (by rw [z1, e])
          exact ⟨x, v, z1, by rw [upd_ne n]; exact z2, by rw [upd_ne n]; exact z3, z4.mono (sub_new h2)⟩
    refine ⟨⟨gi, by rw [List.length_set]; exact S.sr.len, slots (sub_new h2) (fun c n => upd_ne n) (fun c n => upd_ne n) (fun ns hj q => ?_) ⟨_, h1, hr o⟩, inj⟩, ⟨fun c v q => sub_new h2 c v (S.ext.g c v q), fun c v q dc n => ?_, fun c v q dc m n => ?_, fun c v q => ?_⟩, own⟩
    · obtain ⟨j, hj⟩ := hj
      exact absurd q (wOk_iff ok S.sr.gi j ns hj)
    · rw [upd_ne (base u S.ext c v q)]; exact S.ext.h c v q dc n
    · rw [upd_ne (base u S.ext c v q)]; exact S.ext.n c v q dc m n
    · rw [upd_ne (base u S.ext c v q)]; exact S.ext.d c v q
  cases d with
  | list ds =>
    obtain ⟨vs, hv, r⟩ := h4
    refine .inl ⟨vs, ds, rfl, hv, ?_⟩
    refine ⟨⟨S.sr.gi.freeze hv h2 h3, by rw [List.length_set]; exact S.sr.len, slots (sub_new h2) (fun c _ => rfl) (fun c n => upd_ne n) (fun ns _ _ c z => z) ⟨_, h1, .lst upd_same (r.mono (sub_new h2))⟩, inj⟩, ⟨fun c v q => sub_new h2 c v (S.ext.g c v q), S.ext.h, fun c v q dc m n => ?_, S.ext.d⟩, own⟩
    rw [upd_ne (base (.lst vs) S.ext c v q)]; exact S.ext.n c v q dc m n
  | dict kvs =>
    rcases h4 with ⟨ks, hk, r, e⟩ | ⟨ks, hk, r, e, n⟩
    · exact .inr ⟨_, hk, trivial, dict _ hk trivial trivial fun o => .dK (.inr ⟨o, upd_same⟩) (r.mono (sub_new h2)) e⟩
    · exact .inr ⟨_, hk, trivial, dict _ hk trivial trivial fun o => .dT (.inr ⟨o, upd_same⟩) (r.mono (sub_new h2)) e n⟩
  | none => exact h4.elim
  | bool => exact h4.elim
  | int => exact h4.elim
  | str => exact h4.elim
  | tuple => exact h4.elim
/-- a dict is locked for good, unseen by the program -/
theorem PS.lock {t : TS} (h : PS X st t) : PS X st (fun D σ H => t D σ H ∨ ∃ a u, H a = some u ∧ Mut (some u) ∧ ∀ o, t D σ (upd H a (.frz o u))) := by
  refine ⟨fun pins s σ H D I q => ?_⟩
  rcases q with q | ⟨a, u, hu, mu, q⟩
  · exact h.run pins s σ H D I q
  · obtain ⟨o, J⟩ := I.lock hu mu
    exact h.run pins s σ _ D J (q o)
theorem cs_frz (i : Nat) (h : PS X st (tS W f)) : PS X st (tS W (fun ρ g => if wOk ρ g then fFrz i f ρ g else .no)) := by
  refine PS.imp (PS.lock h) ?_
  rintro D σ H ⟨ρ, g, dr, ad, G, G0, H0, S, h⟩
  by_cases ok : wOk ρ g = true
  · simp only [ok, if_true] at h
    unfold fFrz frzE at h
    cases e : ρ[i]? with
    | none => rw [e] at h; exact .inl ⟨ρ, g, dr, ad, G, G0, H0, S, h⟩
    | some sl =>
      rw [e] at h
      cases sl with
      | ow d =>
        rcases S.told e with ⟨vs, ds, rfl, hv, S2⟩ | ⟨u, hu, mu, S2⟩
        · exact .inl ⟨_, g, dr, ad, _, G0, H0, S2, h⟩
        · exact .inr ⟨_, u, hu, mu, fun o => ⟨_, g, dr, ad, _, G0, H0, S2 ok o, h⟩⟩
      | un => exact .inl ⟨ρ, g, dr, ad, G, G0, H0, S, h⟩
      | sh d => exact .inl ⟨ρ, g, dr, ad, G, G0, H0, S, h⟩
      | dr => exact .inl ⟨ρ, g, dr, ad, G, G0, H0, S, h⟩
      | sc ns => exact .inl ⟨ρ, g, dr, ad, G, G0, H0, S, h⟩
  · simp only [ok] at h
    exact h.elim
/-- as an expression: a dict made here is locked for good -/
theorem PE.lock {t : TE} (h : PE X e t) : PE X e (fun σ H Q => t σ H fun v H1 => Q v H1 ∨ ∃ a u, v = .ref a ∧ H1 a = some u ∧ Mut (some u) ∧ ∀ o, Q v (upd H1 a (.frz o u))) := by
  refine ⟨fun pins s σ H Q I q => thn (h.run pins s σ H _ I q) fun v s1 ⟨x, H1, I1, r1, q1⟩ => ?_⟩
  rcases q1 with q1 | ⟨a, u, ex, hu, mu, q1⟩
  · exact ⟨x, H1, I1, r1, q1⟩
  · obtain ⟨o, J⟩ := I1.lock hu mu
    exact ⟨x, _, J, r1, q1 o⟩
/-- what is made here is told at once -/
def fTell (fa : Fn) : Fn := fun ρ g => if wOk ρ g then fa ρ g else .no
theorem ce_tell (h : PE X e (tF W fa)) : PE X e (tE W (fTell fa)) := by
  refine PE.imp (PE.lock h) ?_
  rintro σ H Q ⟨ρ, g, dr, ad, G, S, h⟩
  unfold fTell at h
  by_cases ok : wOk ρ g = true
  · rw [if_pos ok] at h
    refine ⟨ρ, g, dr, ad, G, S, ?_⟩
    cases e : fa ρ g with
    | ok d g1 =>
      rw [e] at h
      intro l G' H' i x n1 n2 n3 o
      have up : ∀ {G2 H2 : Hp}, Sub G' G2 → (∀ c, c ≠ l → H2 c = H' c) → (∀ c, c ≠ l → G2 c = G' c) → (∃ v, H2 l = some v) → Ext dr G H G2 H2 := fun s hh gg hl =>
        ⟨fun c v q => s c v (x.g c v q), fun c v q dc n => by rw [hh c (fun z => by rw [z, n1] at q; cases q)]; exact x.h c v q dc n, fun c v q dc m n => by rw [gg c (fun z => by rw [z, n1] at q; cases q)]; exact x.n c v q dc m n,
          fun c v q => by rw [hh c (fun z => by rw [z, n1] at q; cases q)]; exact x.d c v q⟩
      have dict : ∀ (u : HO), H' l = some u → Mine u → (∀ o, Imm (.frz o u)) → (∀ o, Rp W.K (upd G' l (.frz o u)) (.ref l) d) → ∀ o, Q (.ref l) (upd H' l (.frz o u)) := by
        intro u hu hm _ hr o
        refine h _ (upd G' l (.frz o u)) (upd H' l (.frz o u)) ⟨fun c v q => ?_, fun c v q => ?_, ?_, tabs_upd i.tabs hu hm⟩ (up (sub_new n2) (fun c n => upd_ne n) (fun c n => upd_ne n) ⟨_, upd_same⟩) (hr o)
        · by_cases cj : c = l
          · subst cj; rw [upd_same] at q ⊢; exact q
          · rw [upd_ne cj] at q ⊢; exact i.sub c v q
        · by_cases cj : c = l
          · subst cj; rw [upd_same] at q; cases q; trivial
          · rw [upd_ne cj] at q; exact i.imm c v q
        · have z := i.draw
          cases g1 with
          | none => exact z
          | some q =>
            obtain ⟨y, v, z1, z2, z3, z4⟩ := z
            have n : y ≠ l := fun e => n3 (by rw [z1, e])
            exact ⟨y, v, z1, by rw [upd_ne n]; exact z2, by rw [upd_ne n]; exact z3, z4.mono (sub_new n2)⟩
      cases d with
      | list ds =>
        obtain ⟨vs, h1, r1⟩ := o
        exact .inl (h _ (upd G' l (.lst vs)) H' (i.freeze h1 n2 n3) (up (sub_new n2) (fun c n => rfl) (fun c n => upd_ne n) ⟨_, h1⟩) (.lst upd_same (r1.mono (sub_new n2))))
      | dict kvs =>
        rcases o with ⟨ks, hk, r, e⟩ | ⟨ks, hk, r, e, n⟩
        · exact .inr ⟨l, _, rfl, hk, trivial, dict _ hk trivial (fun _ => trivial) fun o => .dK (.inr ⟨o, upd_same⟩) (r.mono (sub_new n2)) e⟩
        · exact .inr ⟨l, _, rfl, hk, trivial, dict _ hk trivial (fun _ => trivial) fun o => .dT (.inr ⟨o, upd_same⟩) (r.mono (sub_new n2)) e n⟩
      | none => exact o.elim
      | bool => exact o.elim
      | int => exact o.elim
      | str => exact o.elim
      | tuple => exact o.elim
    | bad d g1 => rw [e] at h; exact h
    | no => rw [e] at h; exact h
  · rw [if_neg ok] at h; exact h.elim

/-! ### xs.append(e) -/
def fApp (i : Nat) (fa : Fn) : FnS := fun ρ g => match ρ[i]? with
  | some (.ow (.list _)) => (fa ρ g).bind fun d g1 => match ρ[i]? with
    | some (.ow (.list xs)) => if wOk ρ g1 && decide (xs.length < sizeLine) then .ok (.nx (ρ.set i (.ow (.list (xs ++ [d]))))) g1 else .no
    | _ => .no
  | _ => .no
theorem RpL.snoc {K : PySem.W.Frag} {G : Hp} {vs : List V} {ds : List PyData} {v : V} {d : PyData} (r : RpL K G vs ds) (h : Rp K G v d) : RpL K G (vs ++ [v]) (ds ++ [d]) := r.append (.cons h .nil)
theorem cs_append {i : Nat} {x : Expr} {p2 p3 : Pos} (hx : PE X x (tVar i)) (h : ∀ {te : TE} {ta : TA}, PE X x te → PA X [e] ta → PS X (.Expr (.Call (.Attribute x "append" p2) [e] [] p3) pos) (tDrop (tBM X.K "list" rAppend te ta))) (ha : PE X e (tE W fa))
    (he : starEach (e :: []) X.env = (false, eval e X.env) :: starEach [] X.env := by rfl) : PS X (.Expr (.Call (.Attribute x "append" p2) [e] [] p3) pos) (tS W (fApp i fa)) := by
  refine PS.imp (h hx (pa_cons ha pa_nil he)) ?_
  rintro D σ H ⟨ρ, g, dr, ad, G, G0, H0, S, h⟩
  unfold fApp at h
  cases e : ρ[i]? with
  | none => rw [e] at h; exact h.elim
  | some sl =>
    rw [e] at h
    cases sl with
    | ow d =>
      cases d with
      | list xs0 =>
        obtain ⟨h1, h2, h3, vs, hv, r⟩ := S.sr.slot i _ e
        refine ⟨_, h1, .inl ⟨rfl, vs, SqL.of hv⟩, ?_⟩
        refine seqE S.sr poS (P := pS W dr G0 H0 D) ⟨S.ext, h⟩ fun v H1 d g1 G1 S1 x1 r1 hh => ?_
        have hh := hh.2
        by_cases c : (wOk ρ g1 && decide (xs0.length < sizeLine)) = true
        · simp only [c, if_true] at hh
          simp only [Bool.and_eq_true, decide_eq_true_eq] at c
          have S2 : SB W ρ g1 dr ad σ G0 H0 G1 H1 := S.next x1 S1.gi
          have hv1 := x1.h _ _ hv h3 (fun ps z => by cases z)
          refine ⟨ad i, vs, v, rfl, rfl, hv1, by rw [r.length]; exact c.2, ?_⟩
          exact hh _ _ G1 _ (S2.write e (d' := .list (xs0 ++ [d])) ⟨_, upd_same, (r.mono x1.g).snoc r1⟩ fun j ns hj => wOk_iff c.1 S1.gi j ns hj)
        · simp only [c] at hh
          exact hh.elim
      | none | bool | int | str | tuple | dict => exact h.elim
    | un => exact h.elim
    | sh d => exact h.elim
    | dr => exact h.elim
    | sc ns => exact h.elim
end
end PL
end L2
set_option Elab.async false
set_option linter.all false
set_option maxRecDepth 100000
/-! PL 12: dicts written, displayed, copied. -/
namespace L2
namespace PL
open PySem PySem.Spec PyProof.Rows

def putD (kvs : List (PyData × PyData)) (k v : PyData) : List (PyData × PyData) :=
  if kvs.any (fun p => PyData.eqv p.1 k) then kvs.map (fun p => if PyData.eqv p.1 k then (p.1, v) else p) else kvs ++ [(k, v)]
/-- may this key go into this dict -/
def putOk (kvs : List (PyData × PyData)) (k : PyData) : Bool := match keyKindD k with
  | 0 => false
  | n => decide (kvs.length < sizeLine) && match kvs with
    | [] => true
    | kv :: _ => decide (keyKindD kv.1 = n)
theorem put_gen {κ : Type} [DecidableEq κ] {K : PySem.W.Frag} {G : Hp} (f : κ → PyData) (hf : ∀ a b, PyData.eqv (f a) (f b) = decide (a = b)) {ls : List (κ × V)} {kws : List (PyData × PyData)} (k : κ) {v : V} {d : PyData} (rv : Rp K G v d) (r : RpL K G (ls.map Prod.snd) (kws.map Prod.snd)) (e : kws.map Prod.fst = ls.map (fun p => f p.1)) :
    RpL K G ((putK ls k v).map Prod.snd) ((putD kws (f k) d).map Prod.snd) ∧ (putD kws (f k) d).map Prod.fst = (putK ls k v).map (fun p => f p.1) := by
  have any : ∀ {ls : List (κ × V)} {kws : List (PyData × PyData)}, kws.map Prod.fst = ls.map (fun p => f p.1) → (kws.any fun p => PyData.eqv p.1 (f k)) = (ls.any fun kv => decide (kv.1 = k)) := by
    intro ls
    induction ls with
    | nil => intro kws e; cases kws with | nil => rfl | cons _ _ => simp at e
    | cons l ls ih =>
      intro kws e
      cases kws with
      | nil => simp at e
      | cons kw kws =>
        simp only [List.map_cons, List.cons.injEq] at e
        rw [List.any_cons, List.any_cons, ih e.2, e.1, hf]
  have upd : ∀ {ls : List (κ × V)} {kws : List (PyData × PyData)}, RpL K G (ls.map Prod.snd) (kws.map Prod.snd) → kws.map Prod.fst = ls.map (fun p => f p.1) →
      RpL K G ((ls.map (fun kv => if kv.1 = k then (kv.1, v) else kv)).map Prod.snd) ((kws.map (fun p => if PyData.eqv p.1 (f k) then (p.1, d) else p)).map Prod.snd) ∧
      (kws.map (fun p => if PyData.eqv p.1 (f k) then (p.1, d) else p)).map Prod.fst = (ls.map (fun kv => if kv.1 = k then (kv.1, v) else kv)).map (fun p => f p.1) := by
    intro ls
    induction ls with
    | nil => intro kws r e; cases kws with | nil => exact ⟨.nil, rfl⟩ | cons _ _ => simp at e
    | cons l ls ih =>
      intro kws r e
      cases kws with
      | nil => simp at e
      | cons kw kws =>
        simp only [List.map_cons, List.cons.injEq] at e r
        cases r with
        | cons r1 r2 =>
          obtain ⟨i1, i2⟩ := ih r2 e.2
          simp only [List.map_cons]
          rw [e.1, hf]
          by_cases c : l.1 = k
          · simp only [c, decide_true, if_true]
            exact ⟨.cons rv i1, by rw [i2]⟩
          · simp only [c, decide_false, if_false]
            exact ⟨.cons r1 i1, by rw [i2, ← e.1]; simp⟩
  unfold putD putK
  rw [any e]
  by_cases c : (ls.any fun kv => decide (kv.1 = k)) = true
  · rw [if_pos c, if_pos c]
    exact upd r e
  · rw [if_neg c, if_neg c]
    simp only [List.map_append, List.map_cons, List.map_nil]
    exact ⟨r.append (.cons rv .nil), by rw [e]⟩
theorem putK_ne {κ : Type} [DecidableEq κ] (ks : List (κ × V)) (k : κ) (v : V) : putK ks k v ≠ [] := by
  unfold putK
  split
  · rename_i h
    cases ks with
    | nil => simp at h
    | cons _ _ => simp
  · simp
/-- the heap behind a[y] = v, an empty dict taking either kind of key -/
def DPutX (H : Hp) (a : Addr) (y v : V) (H' : Hp) : Prop := DPut H a y v H' ∨ (H a = some (.dK []) ∧ DPut (upd H a (.dT [])) a y v H')
/-- one's own dict is given an entry -/
theorem dput_ow {K : PySem.W.Frag} {G H : Hp} {a : Addr} {w v : V} {kvs : List (PyData × PyData)} {k d : PyData} (s : Sub G H) (n : G a = none) (o : OwAt K G H a (.dict kvs)) (q : Rp K H w k) (rv : Rp K G v d) (ok : putOk kvs k = true) :
    ∃ u, OwAt K G (upd H a u) a (.dict (putD kvs k d)) ∧ Mine u ∧ ∃ H', DPutX H a w v H' ∧ H' = upd H a u := by
  unfold putOk at ok
  cases hk : keyKindD k with
  | zero => rw [hk] at ok; cases ok
  | succ m =>
    rw [hk] at ok
    simp only [Bool.and_eq_true, decide_eq_true_eq] at ok
    obtain ⟨len, fst⟩ := ok
    have kc := key_cases q (by rw [hk]; exact Nat.succ_ne_zero m)
    have dk : ∀ (H1 : Hp) {ks : List (Key × V)} {key : Key}, H1 a = some (.dK ks) → (∀ u, upd H1 a u = upd H a u) → RpL K G (ks.map Prod.snd) (kvs.map Prod.snd) → kvs.map Prod.fst = ks.map (fun p => keyD p.1) → w = kV key → k = keyD key → (∀ H', DPut H1 a w v H' → DPutX H a w v H') →
        ∃ u, OwAt K G (upd H a u) a (.dict (putD kvs k d)) ∧ Mine u ∧ ∃ H', DPutX H a w v H' ∧ H' = upd H a u := by
      intro H1 ks key h1 hu r e hw hy put
      obtain ⟨p1, p2⟩ := put_gen keyD keyD_eqv key rv r e
      refine ⟨.dK (putK ks key v), .inl ⟨_, upd_same, by rw [hy]; exact p1, by rw [hy]; exact p2⟩, trivial, _, put _ ?_, rfl⟩
      rw [hw, ← hu]
      exact .k h1 (by rw [keys_len e]; exact len)
    have dt : ∀ (H1 : Hp) {ks : List (List Key × V)} {key : List Key} {b : Addr}, H1 a = some (.dT ks) → (∀ u, upd H1 a u = upd H a u) → H1 b = some (.tup (key.map kV)) → RpL K G (ks.map Prod.snd) (kvs.map Prod.snd) → kvs.map Prod.fst = ks.map (fun p => .tuple (p.1.map keyD)) → w = .ref b → k = .tuple (key.map keyD) → (∀ H', DPut H1 a w v H' → DPutX H a w v H') →
        ∃ u, OwAt K G (upd H a u) a (.dict (putD kvs k d)) ∧ Mine u ∧ ∃ H', DPutX H a w v H' ∧ H' = upd H a u := by
      intro H1 ks key b h1 hu hb r e hw hy put
      obtain ⟨p1, p2⟩ := put_gen (fun k : List Key => PyData.tuple (k.map keyD)) (fun a b => by simp only [PyData.eqv]; exact keysD_eqv a b) key rv r e
      refine ⟨.dT (putK ks key v), .inr ⟨_, upd_same, by rw [hy]; exact p1, by rw [hy]; exact p2, putK_ne ks key v⟩, trivial, _, put _ ?_, rfl⟩
      rw [hw, ← hu]
      exact .t h1 hb (by rw [keys_len e]; exact len)
    have updupd : ∀ (u u' : HO), upd (upd H a u) a u' = upd H a u' := fun u u' => by
      funext c
      by_cases z : c = a
      · subst z; rw [upd_same, upd_same]
      · rw [upd_ne z, upd_ne z, upd_ne z]
    rcases o with ⟨ks, h1, r, e⟩ | ⟨ks, h1, r, e, hne⟩
    · rcases kc with ⟨key, hw, hy, h2⟩ | ⟨b, key, hw, hb, hy, h2⟩
      · exact dk H h1 (fun _ => rfl) r e hw hy fun _ z => .inl z
      · cases ks with
        | nil =>
          have hk0 : kvs = [] := by cases kvs with | nil => rfl | cons _ _ => simp at e
          subst hk0
          have nb : b ≠ a := fun z => by rw [z, h1] at hb; cases hb
          exact dt (upd H a (.dT [])) (ks := []) upd_same (fun u => updupd _ u) (by rw [upd_ne nb]; exact hb) .nil rfl hw hy fun _ z => .inr ⟨h1, z⟩
        | cons k0 ks =>
          exfalso
          cases kvs with
          | nil => simp at e
          | cons kv kvs =>
            simp only [List.map_cons, List.cons.injEq] at e
            simp only [decide_eq_true_eq] at fst
            rw [e.1] at fst
            have : keyKindD (keyD k0.1) = 1 := by cases k0.1 <;> rfl
            omega
    · rcases kc with ⟨key, hw, hy, h2⟩ | ⟨b, key, hw, hb, hy, h2⟩
      · cases ks with
        | nil => exact absurd rfl hne
        | cons k0 ks =>
          exfalso
          cases kvs with
          | nil => simp at e
          | cons kv kvs =>
            simp only [List.map_cons, List.cons.injEq] at e
            simp only [decide_eq_true_eq] at fst
            rw [e.1] at fst
            have : keyKindD (.tuple (k0.1.map keyD)) ≠ 1 := by
              simp only [keyKindD]
              split <;> decide
            omega
      · exact dt H h1 (fun _ => rfl) hb r e hw hy fun _ z => .inl z
section
variable {X : Cx} {W : Wd} {st : Stmt} {f k : FnS} {fa fb fc : Fn} {pos : Pos} {e c : Expr}
theorem retagT {pins : List (Addr × Obj)} {σ : St} {H : Hp} {s : Shared} {a : Addr} (I : Inv X pins σ H s) (h : H a = some (.dK [])) : Inv X pins σ (upd H a (.dT [])) s := by
  obtain ⟨lo, ⟨o, es, ep, ho, hex, hd, _, hp, _⟩, _⟩ := raw_empty I (.inl (.inl h))
  have he : es = #[] := by
    have : es.toList = [] := by have := hp.length; simpa using this
    simpa using this
  subst he
  exact I.write (x := a) (e := a) (t' := s.toks) (h' := s.heap) (by rw [h]; trivial) (.inl rfl) (fun b u _ q => q) ⟨o, ho⟩ ⟨Nat.zero_le _, lo, [], .nil, o, #[], ep, ho, hex, hd, rfl, List.nodup_nil⟩
def sDPutX (td ty tv : TE) : TS := fun D σ H => tv σ H fun v H1 => td σ H1 fun x H2 => ty σ H2 fun y H3 => ∃ a H4, x = .ref a ∧ DPutX H3 a y v H4 ∧ D.nx σ H4
theorem ps_dputX {o i value : Expr} {td ty tv : TE} {pos' : Pos} (hu : X.A.units + 1 < cLine) (ho : PE X o td) (hi : PE X i ty) (hv : PE X value tv) (hs : swapsWith value (some (.Subscript o i pos')) pos.line X.env = pure false) :
    PS X (.Assign [.Subscript o i pos'] value pos) (sDPutX td ty tv) := by
  refine ⟨fun pins s σ H D I h => ?_⟩
  refine wpAny_Assign_Subscript (thn (hv.run pins s σ H _ I h) fun r s1 ⟨v, H1, I1, rv, q1⟩ => thn (ho.run pins s1 σ H1 _ I1 q1) fun u s2 ⟨x, H2, I2, rx, q2⟩ => thn (hi.run pins s2 σ H2 _ I2 q2) fun iv s3 ⟨y, H3, I3, ry, a, H4, ex, g, q3⟩ => ?_) hs
  subst ex
  obtain rfl : u = Value.ref a := rx
  rcases g with g | ⟨h, g⟩
  · exact d_setItem hu I3 g ry rv fun s4 I4 => ⟨σ, H4, I4, q3⟩
  · exact d_setItem hu (retagT I3 h) g ry rv fun s4 I4 => ⟨σ, H4, I4, q3⟩
/-- d[k] = v, d in slot i -/
def fPut (i : Nat) (fk fv : Fn) : FnS := fun ρ g => match ρ[i]? with
  | some (.ow (.dict kvs)) => (fv ρ g).bind fun v g1 => (fk ρ g1).bind fun k g2 => if wOk ρ g2 && putOk kvs k then .ok (.nx (ρ.set i (.ow (.dict (putD kvs k v))))) g2 else .no
  | _ => .no
theorem cs_put {i : Nat} {o y value : Expr} {fk fv : Fn} {pos' : Pos} (hu : X.A.units + 1 < cLine) (ho : PE X o (tVar i)) (hy : PE X y (tP W fk)) (hv : PE X value (tE W fv)) (hs : swapsWith value (some (.Subscript o y pos')) pos.line X.env = pure false := by rfl) :
    PS X (.Assign [.Subscript o y pos'] value pos) (tS W (fPut i fk fv)) := by
  refine PS.imp (ps_dputX hu ho hy hv hs) ?_
  rintro D σ H ⟨ρ, g, dr, ad, G, G0, H0, S, h⟩
  unfold fPut at h
  cases e : ρ[i]? with
  | none => rw [e] at h; exact h.elim
  | some sl =>
    rw [e] at h
    cases sl with
    | ow d =>
      cases d with
      | dict kvs =>
        refine seqE S.sr poS (P := pS W dr G0 H0 D) ⟨S.ext, h⟩ fun v H1 d g1 G1 S1 x1 r1 h1 => ?_
        have S2 : SB W ρ g1 dr ad σ G0 H0 G1 H1 := S.next x1 S1.gi
        obtain ⟨z1, _⟩ := S1.slot i _ e
        refine ⟨_, z1, ?_⟩
        refine seqP S1 poS (P := pS W dr G0 H0 D) h1 fun w H2 k g2 G2 S3 x2 r2 h2 => ?_
        obtain ⟨y1, y2, y3, y4⟩ := S3.slot i _ e
        have hh := h2.2
        by_cases c : (wOk ρ g2 && putOk kvs k) = true
        · simp only [c, if_true] at hh
          simp only [Bool.and_eq_true] at c
          obtain ⟨u, o1, m1, H', p1, rfl⟩ := dput_ow S3.gi.sub y2 y4 (r2.rpH S3.gi.sub) (r1.mono x2.g) c.2
          refine ⟨ad i, _, rfl, p1, ?_⟩
          exact hh _ _ G2 _ ((S2.next x2 S3.gi).write e o1 fun j ns hj => wOk_iff c.1 S3.gi j ns hj)
        · simp only [c] at hh
          exact hh.elim
      | none | bool | int | str | tuple | list => exact h.elim
    | un => exact h.elim
    | sh d => exact h.elim
    | dr => exact h.elim
    | sc ns => exact h.elim

/-! ### {}, {k: v, ..} -/
def fNewD : Fn := fun _ g => .ok (.dict []) g
theorem cf_newD : PE X (.Dict [] [] pos) (tF W fNewD) := by
  refine PE.imp pe_dnewK ?_
  rintro σ H Q ⟨ρ, g, dr, ad, G, S, h⟩
  intro p hp
  exact h p G _ (S.gi.new hp) (Ext.new hp) hp (none_sub S.gi.sub hp) (dr_new S.gi hp) (.inl ⟨[], upd_same, .nil, rfl⟩)
def fPairs : List (Fn × Fn) → Env → Gs → Res (List (PyData × PyData))
  | [], _, g => .ok [] g
  | (fk, fv) :: r, ρ, g => (fk ρ g).bind fun k g1 => (fv ρ g1).bind fun v g2 => (fPairs r ρ g2).bind fun ps g3 => .ok ((k, v) :: ps) g3
def okPairs (W : Wd) (dr : Option Addr) (G H : Hp) (r : Res (List (PyData × PyData))) (Q : List (V × V) → Hp → Prop) : Prop := match r with
  | .ok ds g' => ∀ ps G' H', GI W g' dr G' H' → Ext dr G H G' H' → RpL W.K G' (ps.map Prod.snd) (ds.map Prod.snd) → RpL W.K H' (ps.map Prod.fst) (ds.map Prod.fst) → Q ps H'
  | .bad d g' => badP W dr G H d g'
  | .no => False
theorem poPairs {dr : Option Addr} {Q : List (V × V) → Hp → Prop} : Po W dr (fun G H r => okPairs W dr G H r Q) := ⟨fun _ _ _ _ h => h, fun _ _ h => h, fun G H G1 H1 r h e => by
  cases r with
  | ok ds g => exact fun ps G' H' i x => h ps G' H' i (e.trans x)
  | bad d g => exact badP.mono h e
  | no => exact h⟩
/-- the keys are looked at: they must be numbers or texts, told at once -/
def fKeyE (fa : Fn) : Fn := fun ρ g => (fa ρ g).bind fun k g1 => if keyFlat k then .ok k g1 else .no
def fPairsK : List (Fn × Fn) → Env → Gs → Res (List (PyData × PyData))
  | [], _, g => .ok [] g
  | (fk, fv) :: r, ρ, g => (fk ρ g).bind fun k g1 => if keyFlat k then (fv ρ g1).bind fun v g2 => (fPairsK r ρ g2).bind fun ps g3 => .ok ((k, v) :: ps) g3 else .no
def okPairsK (W : Wd) (dr : Option Addr) (G H : Hp) (r : Res (List (PyData × PyData))) (Q : List (V × V) → Hp → Prop) : Prop := match r with
  | .ok ds g' => ∀ (kvs : List (Key × V)) G' H', GI W g' dr G' H' → Ext dr G H G' H' → RpL W.K G' (kvs.map Prod.snd) (ds.map Prod.snd) → ds.map Prod.fst = kvs.map (fun p => keyD p.1) → Q (kvs.map fun kv => (kV kv.1, kv.2)) H'
  | .bad d g' => badP W dr G H d g'
  | .no => False
theorem poPairsK {dr : Option Addr} {Q : List (V × V) → Hp → Prop} : Po W dr (fun G H r => okPairsK W dr G H r Q) := ⟨fun _ _ _ _ h => h, fun _ _ h => h, fun G H G1 H1 r h e => by
  cases r with
  | ok ds g => exact fun ps G' H' i x => h ps G' H' i (e.trans x)
  | bad d g => exact badP.mono h e
  | no => exact h⟩
theorem tPairs_of : ∀ (l : List (Fn × Fn)) {ρ : Env} {g : Gs} {dr : Option Addr} {ad : Nat → Addr} {σ : St} {G H : Hp} {Q : List (V × V) → Hp → Prop}, SR W ρ g dr ad σ G H → okPairsK W dr G H (fPairsK l ρ g) Q → tPairs (l.map fun p => (tP W p.1, tE W p.2)) σ H Q
  | [], ρ, g, dr, ad, σ, G, H, Q, S, h => h [] G H S.gi Ext.refl .nil rfl
  | (fk, fv) :: r, ρ, g, dr, ad, σ, G, H, Q, S, h => by
    refine seqP S poPairsK h fun w H1 k g1 G1 S1 x1 r1 h1 => ?_
    by_cases c : keyFlat k = true
    · rw [if_pos c] at h1
      obtain ⟨key, hw, hy⟩ := flat_key (r1.rpH S1.gi.sub) c
      refine seqE S1 poPairsK h1 fun v H2 d g2 G2 S2 x2 r2 h2 => ?_
      refine tPairs_of r S2 ?_
      cases e : fPairsK r ρ g2 with
      | ok ds g3 =>
        rw [e] at h2
        intro kvs G3 H3 i3 x3 rp ek
        rw [hw]
        exact h2 ((key, v) :: kvs) G3 H3 i3 x3 (.cons (r2.mono x3.g) rp) (by simp only [List.map_cons, hy, ek])
      | bad d g3 => rw [e] at h2; exact h2
      | no => rw [e] at h2; exact h2
    · rw [if_neg c] at h1; exact h1.elim
def mergeD (kvs more : List (PyData × PyData)) : List (PyData × PyData) := more.foldl (fun acc p => putD acc p.1 p.2) kvs
theorem merge_rp {K : PySem.W.Frag} {G : Hp} : ∀ {more : List (Key × V)} {ds : List (PyData × PyData)} {ls : List (Key × V)} {kws : List (PyData × PyData)}, RpL K G (more.map Prod.snd) (ds.map Prod.snd) → ds.map Prod.fst = more.map (fun p => keyD p.1) → RpL K G (ls.map Prod.snd) (kws.map Prod.snd) → kws.map Prod.fst = ls.map (fun p => keyD p.1) →
    RpL K G ((mergeK ls more).map Prod.snd) ((mergeD kws ds).map Prod.snd) ∧ (mergeD kws ds).map Prod.fst = (mergeK ls more).map (fun p => keyD p.1)
  | [], ds, ls, kws, r, e, r2, e2 => by
    cases ds with
    | nil => exact ⟨r2, e2⟩
    | cons _ _ => simp at e
  | (k, v) :: more, ds, ls, kws, r, e, r2, e2 => by
    cases ds with
    | nil => simp at e
    | cons d ds =>
      simp only [List.map_cons, List.cons.injEq] at e r
      cases r with
      | cons a b =>
        obtain ⟨p1, p2⟩ := put_gen keyD keyD_eqv k a r2 e2
        have := merge_rp b e.2 p1 p2
        unfold mergeK mergeD at this ⊢
        rw [List.foldl_cons, List.foldl_cons, e.1]
        exact this
def fDisp (l : List (Fn × Fn)) : Fn := fun ρ g => (fPairsK l ρ g).bind fun ds g1 => if ds.length ≤ 15 then .ok (.dict (mergeD [] ds)) g1 else .no
theorem cf_disp {keys : List (Option Expr)} {values : List Expr} (l : List (Fn × Fn)) (h : PPs X pos keys values (l.map fun p => (tP W p.1, tE W p.2))) (hall : keys.all (·.isSome) = true) (hl : keys.length = values.length) (h0 : keys ≠ []) (h15 : keys.length ≤ 15) :
    PE X (.Dict keys values pos) (tF W (fDisp l)) := by
  refine PE.imp (pe_disp h hall hl h0 h15) ?_
  rintro σ H Q ⟨ρ, g, dr, ad, G, S, h⟩
  intro p hp
  have S1 : SR W ρ g dr ad σ G (upd H p (.dK [])) := S.ext (Ext.new hp) (S.gi.new hp)
  refine tPairs_of l S1 ?_
  unfold fDisp at h
  cases e : fPairsK l ρ g with
  | ok ds g1 =>
    rw [e] at h
    intro kvs G1 H1 i1 x1 rp ek
    have h : okF W dr G H (if ds.length ≤ 15 then .ok (.dict (mergeD [] ds)) g1 else .no) Q := h
    by_cases c : ds.length ≤ 15
    · rw [if_pos c] at h
      have hpd : dr ≠ some p := dr_new S.gi hp
      have h1p := x1.h p _ upd_same hpd (fun ps z => by cases z)
      have g1p : G1 p = none := x1.n p _ upd_same hpd trivial (none_sub S.gi.sub hp)
      have hlen := keys_len ek
      refine ⟨h1p, kvs, rfl, by omega, ?_⟩
      obtain ⟨m1, m2⟩ := merge_rp (K := W.K) (G := G1) rp ek (ls := []) (kws := []) .nil rfl
      have gi : GI W g1 dr G1 (upd H1 p (.dK (mergeK [] kvs))) := by
        refine ⟨fun a v q => ?_, i1.imm, ?_, tabs_upd i1.tabs h1p trivial⟩
        · have n : a ≠ p := fun z => by rw [z, g1p] at q; cases q
          rw [upd_ne n]; exact i1.sub a v q
        · have z := i1.draw
          cases g1 with
          | none => exact z
          | some q =>
            obtain ⟨y, v, z1, z2, z3, z4⟩ := z
            have n : y ≠ p := fun e => hpd (by rw [z1, e])
            exact ⟨y, v, z1, z2, by rw [upd_ne n]; exact z3, z4⟩
      refine h p G1 _ gi ⟨fun a v q => x1.g a v q, fun a v q d n => ?_, fun a v q d m n => ?_, fun a v q => ?_⟩ hp g1p hpd (.inl ⟨_, upd_same, m1, m2⟩)
      · have na : a ≠ p := ne_of_none q hp
        rw [upd_ne na]; exact x1.h a v (by rw [upd_ne na]; exact q) d n
      · have na : a ≠ p := ne_of_none q hp
        exact x1.n a v (by rw [upd_ne na]; exact q) d m n
      · have na : a ≠ p := ne_of_none q hp
        rw [upd_ne na]; exact x1.d a v (by rw [upd_ne na]; exact q)
    · rw [if_neg c] at h; exact h.elim
  | bad d g1 =>
    rw [e] at h
    have h : badP W dr G H d g1 := h
    exact badP.mono h (Ext.new hp)
  | no => rw [e] at h; exact h
end
end PL
end L2
set_option Elab.async false
set_option linter.all false
set_option maxRecDepth 100000
/-! PL 13: what is walked; loops. -/
namespace L2
namespace PL
open PySem PySem.Spec PyProof.Rows

/-- the walk J gives the data ds, one by one, from (G1, H1) on -/
def ItOk (W : Wd) (dr : Option Addr) (J : It) (ds : List PyData) (G1 H1 : Hp) : Prop := ∃ (C : Hp → Prop) (Y : Nat → Hp → V → Hp → Prop), Walk J ds.length C Y ∧ (∀ G H, Sub G1 G → Sub G H → C H) ∧
  ∀ i G H x H' g, i < ds.length → GI W g dr G H → Sub G1 G → Y i H x H' → ∃ G' d, GI W g dr G' H' ∧ Ext dr G H G' H' ∧ ds[i]? = some d ∧ Rp W.K G' x d
def okI (W : Wd) (dr : Option Addr) (G H : Hp) (r : Res (List PyData)) (R : It → Hp → Prop) : Prop := match r with
  | .ok ds g' => ∀ J G' H', GI W g' dr G' H' → Ext dr G H G' H' → ItOk W dr J ds G' H' → R J H'
  | .bad d g' => badP W dr G H d g'
  | .no => False
def tI (W : Wd) (f : FnL) : TI := fun σ H R => ∃ ρ g dr ad G, SR W ρ g dr ad σ G H ∧ okI W dr G H (f ρ g) R
theorem okI.mono {W : Wd} {dr : Option Addr} {G H G1 H1 : Hp} {r : Res (List PyData)} {R : It → Hp → Prop} (h : okI W dr G H r R) (e : Ext dr G H G1 H1) : okI W dr G1 H1 r R := by
  cases r with
  | ok d g' => exact fun J G' H' i x => h J G' H' i (e.trans x)
  | bad d g' => exact badP.mono h e
  | no => exact h
theorem poI {W : Wd} {dr : Option Addr} {R : It → Hp → Prop} : Po W dr (fun G H r => okI W dr G H r R) := ⟨fun _ _ _ _ h => h, fun _ _ h => h, fun _ _ _ _ _ h e => okI.mono h e⟩
theorem PI.imp {X : Cx} {tg e : Expr} {t t' : TI} (h : PI X tg e t) (i : ∀ σ H R, t' σ H R → t σ H R) : PI X tg e t' := ⟨fun pins s σ H R I q => h.run pins s σ H R I (i σ H R q)⟩
theorem PI.or {X : Cx} {tg e : Expr} {t t' : TI} (h : PI X tg e t) (h' : PI X tg e t') : PI X tg e (fun σ H R => t σ H R ∨ t' σ H R) := ⟨fun pins s σ H R I q => q.elim (h.run pins s σ H R I) (h'.run pins s σ H R I)⟩
section
variable {X : Cx} {W : Wd} {tg e a b : Expr} {fa fb : Fn} {p pos : Pos}
theorem seqI {β : Type} {ρ : Env} {g : Gs} {dr : Option Addr} {ad : Nat → Addr} {σ : St} {G H : Hp} {f : FnL} {k : List PyData → Gs → Res β} {P : Hp → Hp → Res β → Prop} {R : It → Hp → Prop} (S : SR W ρ g dr ad σ G H) (po : Po W dr P) (h : P G H ((f ρ g).bind k))
    (q : ∀ J H1 ds g1 G1, SR W ρ g1 dr ad σ G1 H1 → Ext dr G H G1 H1 → ItOk W dr J ds G1 H1 → P G1 H1 (k ds g1) → R J H1) : tI W f σ H R := by
  refine ⟨ρ, g, dr, ad, G, S, ?_⟩
  cases e : f ρ g with
  | ok d g1 =>
    rw [e] at h
    exact fun J G1 H1 i x o => q J H1 d g1 G1 (S.ext x i) x o (po.mono _ _ _ _ _ h x)
  | bad d g1 => rw [e] at h; exact po.bad _ _ _ _ h
  | no => rw [e] at h; exact (po.no _ _ h).elim

/-! ### lists, tuples, texts, dicts -/
theorem itOk_list {dr : Option Addr} {G1 H1 : Hp} {a : Addr} {vs : List V} {ds : List PyData} (h : G1 a = some (.lst vs)) (r : RpL W.K G1 vs ds) : ItOk W dr (Itl W.K a) ds G1 H1 := by
  refine ⟨fun H => SqL W.K H a vs, YAt vs, ?_, fun G H s1 s2 => SqL.of (s2 _ _ (s1 _ _ h)), fun i G H x H' g hi gi s1 y => ?_⟩
  · rw [← r.length]; exact walk_list
  · obtain ⟨rfl, hx⟩ := y
    obtain ⟨d, hd, rd⟩ := r.getV hx
    exact ⟨G, d, gi, Ext.refl, hd, rd.mono s1⟩
theorem itOk_tup {dr : Option Addr} {G1 H1 : Hp} {a : Addr} {vs : List V} {ds : List PyData} (h : G1 a = some (.tup vs)) (r : RpL W.K G1 vs ds) : ItOk W dr (Itt W.K a) ds G1 H1 := by
  refine ⟨fun H => SqT W.K H a vs, YAt vs, ?_, fun G H s1 s2 => SqT.of (s2 _ _ (s1 _ _ h)), fun i G H x H' g hi gi s1 y => ?_⟩
  · rw [← r.length]; exact walk_tup
  · obtain ⟨rfl, hx⟩ := y
    obtain ⟨d, hd, rd⟩ := r.getV hx
    exact ⟨G, d, gi, Ext.refl, hd, rd.mono s1⟩
theorem itOk_str {dr : Option Addr} {G1 H1 : Hp} {z : Str} : ItOk W dr (Its z) (z.cps.toList.map fun c => .str ⟨#[c]⟩) G1 H1 := by
  refine ⟨fun _ => True, _, by rw [List.length_map, Array.length_toList]; exact walk_str, fun _ _ _ _ => trivial, fun i G H x H' g hi gi s1 y => ?_⟩
  obtain ⟨rfl, c, hc, rfl⟩ := y
  exact ⟨G, _, gi, Ext.refl, by rw [List.getElem?_map, Array.getElem?_toList, hc]; rfl, .str _⟩
theorem itOk_keys {dr : Option Addr} {G1 H1 : Hp} {a : Addr} {o : Obj} {ks : List (Key × V)} {kvs : List (PyData × PyData)} (h : G1 a = some (.frz o (.dK ks))) (e : kvs.map Prod.fst = ks.map (fun p => keyD p.1)) : ItOk W dr (Itk a o ks) (kvs.map Prod.fst) G1 H1 := by
  refine ⟨fun H => H a = some (.frz o (.dK ks)), _, by rw [e, List.length_map]; exact walk_keys, fun G H s1 s2 => s2 _ _ (s1 _ _ h), fun i G H x H' g hi gi s1 y => ?_⟩
  obtain ⟨rfl, k, v, hk, rfl⟩ := y
  exact ⟨G, keyD k, gi, Ext.refl, by rw [e, List.getElem?_map, hk]; rfl, keyV_rp k⟩
theorem tellTup {dr : Option Addr} {g : Gs} {G H : Hp} {b : Addr} {ks : List Key} (i : GI W g dr G H) (hb : H b = some (.tup (ks.map kV))) : ∃ G', GI W g dr G' H ∧ Ext dr G H G' H ∧ Rp W.K G' (.ref b) (.tuple (ks.map keyD)) := by
  obtain ⟨G', i', x', r⟩ := freezeKeys (kvs := [(ks, V.non)]) (bs := [b]) i (.cons hb .nil)
  cases r with
  | cons a b => exact ⟨G', i', x', a⟩
theorem itOk_keysT {dr : Option Addr} {G1 H1 : Hp} {a : Addr} {o : Obj} {ks : List (List Key × V)} {kvs : List (PyData × PyData)} (h : G1 a = some (.frz o (.dT ks))) (e : kvs.map Prod.fst = ks.map (fun p => .tuple (p.1.map keyD))) : ItOk W dr (Itkt a o ks) (kvs.map Prod.fst) G1 H1 := by
  refine ⟨fun H => H a = some (.frz o (.dT ks)), _, by rw [e, List.length_map]; exact walk_keysT, fun G H s1 s2 => s2 _ _ (s1 _ _ h), fun i G H x H' g hi gi s1 y => ?_⟩
  obtain ⟨rfl, k, v, q, hk, rfl, hq⟩ := y
  obtain ⟨G', i', x', r⟩ := tellTup gi hq
  exact ⟨G', _, i', x', by rw [e, List.getElem?_map, hk]; rfl, r⟩
/-- what a for walks -/
def walkD : PyData → Option (List PyData)
  | .list xs => some xs
  | .tuple xs => some xs
  | .str z => some (z.cps.toList.map fun c => .str ⟨#[c]⟩)
  | .dict kvs => some (kvs.map Prod.fst)
  | _ => none
def fWalk (fa : Fn) : FnL := fun ρ g => (fa ρ g).bind fun x g1 => match walkD x with
  | some ds => .ok ds g1
  | none => .no
theorem ci_walk (hK : X.K = W.K) (h : PE X e (tE W fa)) : PI X tg e (tI W (fWalk fa)) := by
  refine PI.imp (PI.or (pi_list h) (PI.or (pi_tup h) (PI.or (pi_str h) (pi_keys h)))) ?_
  rintro σ H R ⟨ρ, g, dr, ad, G, S, h⟩
  have dec : ∃ k : Nat, k ≤ 3 ∧ ∀ x g1, fa ρ g = .ok x g1 → (k = 0 ↔ ∃ xs, x = .list xs) ∧ (k = 1 ↔ ∃ xs, x = .tuple xs) ∧ (k = 2 ↔ ∃ z, x = .str z) ∧ (k = 3 ↔ ∀ xs z, x ≠ .list xs ∧ x ≠ .tuple xs ∧ x ≠ .str z) := by
    cases e : fa ρ g with
    | ok x g1 =>
      cases x with
      | list xs => exact ⟨0, by omega, fun x g1 q => by cases q; simp⟩
      | tuple xs => exact ⟨1, by omega, fun x g1 q => by cases q; simp⟩
      | str z => exact ⟨2, by omega, fun x g1 q => by cases q; simp⟩
      | none | bool | int | dict => exact ⟨3, by omega, fun x g1 q => by cases q; simp⟩
    | bad d g1 => exact ⟨0, by omega, fun x g1 q => by cases q⟩
    | no => exact ⟨0, by omega, fun x g1 q => by cases q⟩
  obtain ⟨k, hk, hx⟩ := dec
  have fin : ∀ v H1 x g1 G1, SR W ρ g1 dr ad σ G1 H1 → Ext dr G H G1 H1 → Rp W.K G1 v x → okI W dr G1 H1 (match walkD x with
      | some ds => .ok ds g1
      | none => .no) R → (∃ a vs, v = .ref a ∧ (∃ ds, x = .list ds) ∧ SqL W.K H1 a vs ∧ R (Itl W.K a) H1) ∨ (∃ a vs, v = .ref a ∧ (∃ ds, x = .tuple ds) ∧ SqT W.K H1 a vs ∧ R (Itt W.K a) H1) ∨ (∃ z, v = .str z ∧ x = .str z ∧ R (Its z) H1) ∨
      (∃ d o, v = .ref d ∧ (∃ kvs, x = .dict kvs) ∧ ((∃ kvs, H1 d = some (.frz o (.dK kvs)) ∧ R (Itk d o kvs) H1) ∨ ∃ kvs, H1 d = some (.frz o (.dT kvs)) ∧ R (Itkt d o kvs) H1)) := by
    intro v H1 x g1 G1 S1 x1 rp h1
    cases rp with
    | lst a b => exact .inl ⟨_, _, rfl, ⟨_, rfl⟩, SqL.of (S1.gi.sub _ _ a), h1 _ G1 H1 S1.gi Ext.refl (itOk_list a b)⟩
    | tup a b => exact .inr (.inl ⟨_, _, rfl, ⟨_, rfl⟩, SqT.of (S1.gi.sub _ _ a), h1 _ G1 H1 S1.gi Ext.refl (itOk_tup a b)⟩)
    | str z => exact .inr (.inr (.inl ⟨z, rfl, rfl, h1 _ G1 H1 S1.gi Ext.refl itOk_str⟩))
    | dK a b c =>
      rcases a with a | ⟨o, a⟩
      · exact (S1.gi.imm _ _ a).elim
      · exact .inr (.inr (.inr ⟨_, o, rfl, ⟨_, rfl⟩, .inl ⟨_, S1.gi.sub _ _ a, h1 _ G1 H1 S1.gi Ext.refl (itOk_keys a c)⟩⟩))
    | dT a b c n =>
      rcases a with a | ⟨o, a⟩
      · exact (S1.gi.imm _ _ a).elim
      · exact .inr (.inr (.inr ⟨_, o, rfl, ⟨_, rfl⟩, .inr ⟨_, S1.gi.sub _ _ a, h1 _ G1 H1 S1.gi Ext.refl (itOk_keysT a c)⟩⟩))
    | non | bl | int => exact h1.elim
  have go : ∀ (Q : VK), (∀ v H1 x g1 G1, fa ρ g = .ok x g1 → SR W ρ g1 dr ad σ G1 H1 → Ext dr G H G1 H1 → Rp W.K G1 v x → okI W dr G1 H1 (match walkD x with
      | some ds => .ok ds g1
      | none => .no) R → Q v H1) → tE W fa σ H Q := by
    intro Q q
    refine ⟨ρ, g, dr, ad, G, S, ?_⟩
    unfold fWalk at h
    cases e : fa ρ g with
    | ok d g1 =>
      rw [e] at h
      exact fun v G1 H1 i x rp => q v H1 d g1 G1 e (S.ext x i) x rp (okI.mono h x)
    | bad d g1 => rw [e] at h; exact h
    | no => rw [e] at h; exact h
  match k, hk with
  | 0, _ =>
    refine .inl (go _ fun v H1 x g1 G1 e S1 x1 rp h1 => ?_)
    obtain ⟨xs, rfl⟩ := (hx _ _ e).1.mp rfl
    rcases fin v H1 _ g1 G1 S1 x1 rp h1 with ⟨a, vs, rfl, _, q1, q2⟩ | ⟨a, vs, rfl, ⟨_, z⟩, _⟩ | ⟨z, rfl, q, _⟩ | ⟨d, o, rfl, ⟨_, z⟩, _⟩
    · rw [hK]; exact ⟨a, rfl, ⟨vs, q1⟩, q2⟩
    · cases z
    · cases q
    · cases z
  | 1, _ =>
    refine .inr (.inl (go _ fun v H1 x g1 G1 e S1 x1 rp h1 => ?_))
    obtain ⟨xs, rfl⟩ := (hx _ _ e).2.1.mp rfl
    rcases fin v H1 _ g1 G1 S1 x1 rp h1 with ⟨a, vs, rfl, ⟨_, z⟩, q1, q2⟩ | ⟨a, vs, rfl, _, q1, q2⟩ | ⟨z, rfl, q, _⟩ | ⟨d, o, rfl, ⟨_, z⟩, _⟩
    · cases z
    · rw [hK]; exact ⟨a, rfl, ⟨vs, q1⟩, q2⟩
    · cases q
    · cases z
  | 2, _ =>
    refine .inr (.inr (.inl (go _ fun v H1 x g1 G1 e S1 x1 rp h1 => ?_)))
    obtain ⟨z0, rfl⟩ := (hx _ _ e).2.2.1.mp rfl
    rcases fin v H1 _ g1 G1 S1 x1 rp h1 with ⟨a, vs, rfl, ⟨_, z⟩, q1, q2⟩ | ⟨a, vs, rfl, ⟨_, z⟩, _⟩ | ⟨z, rfl, q, q2⟩ | ⟨d, o, rfl, ⟨_, z⟩, _⟩
    · cases z
    · cases z
    · exact ⟨z, rfl, q2⟩
    · cases z
  | 3, _ =>
    refine .inr (.inr (.inr (go _ fun v H1 x g1 G1 e S1 x1 rp h1 => ?_)))
    have n := (hx _ _ e).2.2.2.mp rfl
    rcases fin v H1 _ g1 G1 S1 x1 rp h1 with ⟨a, vs, rfl, ⟨xs, rfl⟩, q1, q2⟩ | ⟨a, vs, rfl, ⟨xs, rfl⟩, _⟩ | ⟨z, rfl, rfl, q2⟩ | ⟨d, o, rfl, _, q⟩
    · exact absurd rfl (n xs ⟨#[]⟩).1
    · exact absurd rfl (n xs ⟨#[]⟩).2.1
    · exact absurd rfl (n [] z).2.2
    · exact ⟨d, o, rfl, q⟩

/-! ### ranges -/
def rngD (lo hi : Int) : List PyData := (List.range (hi - lo).toNat).map fun i => .int (lo + (i : Nat))
theorem itOk_rng {dr : Option Addr} {G1 H1 : Hp} {lo hi : Int} : ItOk W dr (Itr lo (hi - lo).toNat) (rngD lo hi) G1 H1 := by
  refine ⟨fun _ => True, _, by unfold rngD; rw [List.length_map, List.length_range]; exact walk_range, fun _ _ _ _ => trivial, fun i G H x H' g hi' gi s1 y => ?_⟩
  obtain ⟨rfl, rfl⟩ := y
  have hl : i < (hi - lo).toNat := by unfold rngD at hi'; rwa [List.length_map, List.length_range] at hi'
  exact ⟨G, .int (lo + (i : Nat)), gi, Ext.refl, by unfold rngD; rw [List.getElem?_map, List.getElem?_range hl]; rfl, .int _⟩
def ok62 (i : Int) : Bool := decide (-(2 ^ 62) ≤ i) && decide (i < 2 ^ 62)
def fRng1 (fa : Fn) : FnL := fun ρ g => (fa ρ g).bind fun x g1 => match x with
  | .int n => if ok62 n then .ok (rngD 0 n) g1 else .no
  | _ => .no
def fRng2 (fa fb : Fn) : FnL := fun ρ g => (fa ρ g).bind fun x g1 => (fb ρ g1).bind fun y g2 => match x, y with
  | .int m, .int n => if ok62 m && ok62 n then .ok (rngD m n) g2 else .no
  | _, _ => .no
theorem ci_rng1 (hg : Gl X "range") (hm : X.mg "range" = none) (ha : PE X a (tP W fa)) (he : starEach [a] X.env = (false, eval a X.env) :: starEach [] X.env := by rfl) : PI X tg (.Call (.Name "range" p) [a] [] pos) (tI W (fRng1 fa)) := by
  refine PI.imp (pi_range1 hg hm (pa_cons ha pa_nil he) he) ?_
  rintro σ H R ⟨ρ, g, dr, ad, G, S, h⟩
  refine seqP S poI h fun v H1 x g1 G1 S1 x1 r1 h1 => ?_
  cases x with
  | int n =>
    simp only at h1
    by_cases c : ok62 n = true
    · rw [if_pos c] at h1
      simp only [ok62, Bool.and_eq_true, decide_eq_true_eq] at c
      refine ⟨n, by rw [r1.int], c.1, c.2, ?_⟩
      have := h1 _ G1 H1 S1.gi Ext.refl (itOk_rng (lo := 0) (hi := n))
      simpa using this
    · rw [if_neg c] at h1; exact h1.elim
  | none | bool | str | list | tuple | dict => exact h1.elim
theorem ci_rng2 (hg : Gl X "range") (hm : X.mg "range" = none) (ha : PE X a (tP W fa)) (hb : PE X b (tP W fb)) (he : starEach [a, b] X.env = (false, eval a X.env) :: starEach [b] X.env := by rfl) (he2 : starEach [b] X.env = (false, eval b X.env) :: starEach [] X.env := by rfl) :
    PI X tg (.Call (.Name "range" p) [a, b] [] pos) (tI W (fRng2 fa fb)) := by
  refine PI.imp (pi_range2 hg hm (pa_cons ha (pa_cons hb pa_nil he2) he) (by rw [he, he2]; rfl) (by rw [he2]; rfl)) ?_
  rintro σ H R ⟨ρ, g, dr, ad, G, S, h⟩
  refine seqP S poI h fun v H1 x g1 G1 S1 x1 r1 h1 => ?_
  refine seqP S1 poI h1 fun w H2 y g2 G2 S2 x2 r2 h2 => ?_
  cases x <;> cases y <;> first
    | exact h2.elim
    | skip
  rename_i m n
  simp only at h2
  by_cases c : (ok62 m && ok62 n) = true
  · rw [if_pos c] at h2
    simp only [ok62, Bool.and_eq_true, decide_eq_true_eq] at c
    refine ⟨m, n, by rw [r1.int, r2.int], ⟨c.1.1, c.1.2, c.2.1, c.2.2⟩, h2 _ G2 H2 S2.gi Ext.refl (itOk_rng (lo := m) (hi := n))⟩
  · rw [if_neg c] at h2; exact h2.elim
end
end PL
end L2
set_option Elab.async false
set_option linter.all false
set_option maxRecDepth 100000
/-! PT: enumerate over a list or a tuple -/
namespace L2
namespace PL
open PySem PySem.Spec PyProof.Rows

set_option maxHeartbeats 1000000 in
theorem meets_enum1 {v : Value} {o : Obj} {H : Heap → Prop} (B : Begins v o H) :
    Meets (Builtin.«enumerate.__new__» ⟨[.type "enumerate", v], []⟩) (fun _ R s => H s.heap ∧
      R (.ok (.ret (.ref (s.heap.push o).objs.size))) { s with heap := (s.heap.push o).push { cls := .type "enumerate", data := .fields #[.none, .bool false, .ref s.heap.objs.size, rawInt 0, .none, .none] } }) :=
  .of_wp fun prog w A R s h => by
    obtain ⟨hp, g, d, tk, os⟩ := s; obtain ⟨h1, h⟩ := h
    have hsub := sub_enumerate
    have q1 : ∀ {A' : Around} {E : Value → Shared → Prop} {Q : Value → Shared → Prop}, Q (.ref hp.objs.size) ⟨hp.push o, g, d, tk, os⟩ → wpAny (model prog w) A' (pyIter v) Q E ⟨hp, g, d, tk, os⟩ :=
      fun q => B.iter prog w _ _ ⟨hp, g, d, tk, os⟩ _ h1 q
    wp_walk using q1
    refine wpAny_stack_any fun st => wpAny_pure ?_
    split
    · rename_i c _ _ _ _ _
      cases (c == Value.type "enumerate")
      · wp_walk using q1
        exact ⟨_, rfl, h⟩
      · wp_walk using q1
        exact ⟨_, rfl, h⟩
    · wp_walk using q1
      exact ⟨_, rfl, h⟩
theorem call_enum1 {prog : Program} {w : World} {A : Around} {E : Value → Shared → Prop} {s : Shared} {v : Value} {o : Obj} {H : Heap → Prop} {Q : Value → Shared → Prop} (B : Begins v o H) (h1 : H s.heap)
    (h : ∀ h', IsEnum h' (s.heap.objs.size + 1) s.heap.objs.size 0 .none → h'.get? s.heap.objs.size = some o → h'.objs.size = s.heap.objs.size + 2 →
      (∀ b o, s.heap.get? b = some o → h'.get? b = some o) → Q (.ref (s.heap.objs.size + 1)) { s with heap := h' }) :
    wpAny (model prog w) A (call (.type "enumerate") [v]) Q E s := by
  refine callType_new F.called_enumerate (by decide) (F.typeCall_enumerate_1 _) (F.newCall_enumerate_1 _) (fun obj => F.args_object_init_2 obj _) F.entry_enumerate_new (meets_enum1 B) ⟨h1, ?_⟩
  have hz : (s.heap.push o).objs.size = s.heap.objs.size + 1 := Heap.size_push ..
  show _ ∧ _
  rw [hz]
  have he : IsEnum ((s.heap.push o).push { cls := .type "enumerate", data := .fields #[.none, .bool false, .ref s.heap.objs.size, rawInt 0, .none, .none] }) (s.heap.objs.size + 1) s.heap.objs.size 0 .none := by
    have := Heap.get?_push_size (s.heap.push o) (o := { cls := .type "enumerate", data := .fields #[.none, .bool false, .ref s.heap.objs.size, rawInt 0, .none, .none] }) rfl
    rw [hz] at this; exact this
  refine ⟨⟨_, he, rfl⟩, h _ he (Heap.get?_push_of_some _ (Heap.get?_push_size _ B.free)) (by rw [Heap.size_push, hz]) fun b o x => Heap.get?_push_of_some _ (Heap.get?_push_of_some _ x)⟩

/-- the tuple at a as it stands at each turn, each item in a new pair -/
def IteT (K : PySem.W.Frag) (a : Addr) : It :=
  ⟨fun i H => ∃ (xs : List V) (x : V), SqT K H a xs ∧ xs[i]? = some x, fun i H v H' => ∃ T x, v = .ref T ∧ H T = none ∧ H' = upd H T (.tup [.int (i : Nat), x]) ∧ ∀ xs, SqT K H a xs → xs[i]? = some x, fun i H => ∃ xs : List V, SqT K H a xs ∧ xs.length = i⟩
theorem tupIter_ne {h : Heap} {a it : Addr} {i : Nat} {vs : Array Value} (h1 : h.IsTuple a vs) (h2 : h.IsTupleIter it a i) : a ≠ it := by
  rintro rfl
  obtain ⟨o, e, c, _⟩ := h1
  obtain ⟨o', e', c', _⟩ := h2
  rw [e] at e'
  cases e'
  rw [c] at c'
  injection c' with q
  exact absurd q (by decide)
theorem turn_enumT {P : Program} {w : World} {K : PySem.W.Frag} {elts : List Expr} {kk : Nat} {tpos : Pos} (a e it : Addr) :
    Turn P w K (.Tuple elts kk tpos) (IteT K a) [e, it] e (fun i h => (∃ old, IsEnum h e it ((i : Nat) : Int) old) ∧ h.IsTupleIter it a i ∧ e ≠ it) where
  mem := by simp
  obj := fun i h st b hb => by
    obtain ⟨⟨old, he⟩, ⟨o, ho, hc, hd⟩, _⟩ := st
    have e' : b = e ∨ b = it := by simpa using hb
    rcases e' with z | z
    · rw [z]; exact ⟨_, he, fun v q => nomatch q⟩
    · rw [z]; exact ⟨o, ho, fun v q => by rw [hd] at q; cases q⟩
  keep := fun i h h' st k => let ⟨⟨old, he⟩, hi, hne⟩ := st; ⟨⟨old, k e (by simp) _ he⟩, hi.at fun o q => k it (by simp) o q, hne⟩
  item := by
    intro X hP hw hK hc i pins s σ H E I hf st hg
    subst hP hw hK
    obtain ⟨⟨old, he⟩, hit, hne⟩ := st
    obtain ⟨xs, x, hq, hx⟩ := hg
    obtain ⟨its, rv, p, hz⟩ := I.tuple hq
    have p : s.heap.IsTuple a its.toArray := p
    obtain ⟨u, hu, ru⟩ := rv.get hx
    have hel : e < s.heap.objs.size := Heap.lt_size he
    have hil : it < s.heap.objs.size := by obtain ⟨_, q, _⟩ := hit; exact Heap.lt_size q
    have hlt : i < its.toArray.size := by
      rcases Nat.lt_or_ge i its.length with q | q
      · simpa using q
      · rw [List.getElem?_eq_none q] at hu; cases hu
    have hea : e ≠ a := by
      rintro rfl
      obtain ⟨o, e1, c1, _⟩ := p
      rw [he] at e1
      cases e1
      injection c1 with q
      exact absurd q (by decide)
    refine wpAny_pyNext_enum_itemC (Draws.tuple (prog := X.prog) (w := X.w) (A := X.A.in1) (show X.A.in1.handled = none from I.ok.hd hc) it a (tupIter_ne p hit) its.toArray) he ⟨hit, p⟩ hlt hne (by simp [hne, hea]) fun u' h' tk hP ho hs' hT hsz hk => ?_
    have eu : u' = u := by
      have h1 : its.toArray[i]? = some u := by simpa using hu
      exact Option.some.inj (hP.symm.trans h1)
    subst eu
    refine ⟨_, rfl, wpAny_letOwnedTupleGo_enum (s := { s with heap := h', toks := tk + 1 }) ho fun h'' he' sb => ?_⟩
    have hT2 : h''.get? s.heap.objs.size = some { cls := .type "tuple", data := .seq #[.int i tk, u'] } := (sb.2 _ (Nat.ne_of_gt hel)).trans hT
    have new : ObjOk X.prog X.w (upd H s.heap.objs.size (.tup [.int (i : Nat), x])) h'' s.heap.objs.size (.tup [.int (i : Nat), x]) :=
      ⟨by show 2 ≤ sizeLine; decide, [.int i tk, u'], .cons ⟨_, rfl⟩ (.cons ru .nil), ⟨_, hT2, rfl, _, rfl⟩⟩
    have I1 : Inv X pins σ (upd H s.heap.objs.size (.tup [.int (i : Nat), x])) { s with heap := h'', toks := tk + 1 } :=
      I.turnedNew (ch := [e, it]) (fun b ob hb q => (sb.2 b (fun z => hb (by simp [z]))).trans (hk b ob (fun z => hb (by simp [z])) (fun z => hb (by simp [z])) q)) hf (Nat.le_refl _) new
    refine ⟨.ref s.heap.objs.size, _, I1, rfl, ⟨_, x, rfl, I.hok.fresh (Nat.le_refl _), rfl, fun ys hy => by rw [I.tuple_inj hy hq]; exact hx⟩, ⟨⟨u', ?_⟩, hs'.1.at fun o q => (sb.2 it (Ne.symm hne)).trans q, hne⟩, fun b hb => ?_⟩
    · have e1 : ((i + 1 : Nat) : Int) = (i : Int) + 1 := by omega
      rw [e1]; exact he'
    · have hb' : b < s.heap.objs.size := by
        have e' : b = e ∨ b = it := by simpa using hb
        rcases e' with z | z
        · rw [z]; exact hel
        · rw [z]; exact hil
      rw [upd_ne (Nat.ne_of_lt hb')]
      exact (hf b hb).1
  done := by
    intro X hP hw hK hc i pins s σ H E I hf st hg
    subst hP hw hK
    obtain ⟨⟨old, he⟩, hit, hne⟩ := st
    obtain ⟨xs, hq, hx⟩ := hg
    obtain ⟨its, rv, p, hz⟩ := I.tuple hq
    have p : s.heap.IsTuple a its.toArray := p
    obtain ⟨f0, f1, f2, f3, f4, f5⟩ := hf it (by simp)
    have hl := rv.length
    have en : i = its.toArray.size := by simp; omega
    subst en
    exact wpAny_pyNext_enum_endD (Draws.tuple (prog := X.prog) (w := X.w) (A := X.A.in1) (show X.A.in1.handled = none from I.ok.hd hc) it a (tupIter_ne p hit) its.toArray) he ⟨hit, p⟩ fun h' eb => ⟨rfl, I.turned (t' := s.toks) (fun b o hb q => eb b o hb q) f0 f1 f3 f4 f5⟩
  self := fun A i s Q E st h => let ⟨⟨_, he⟩, _⟩ := st; wpAny_pyIter_enum he h
def iEnumA (K : PySem.W.Frag) (ta : TA) : TI := fun σ H R => ta σ H fun vs H1 => ∃ a xs, vs = [.ref a] ∧ ((SqL K H1 a xs ∧ R (Ite K a) H1) ∨ (SqT K H1 a xs ∧ R (IteT K a) H1))
theorem pi_enumA {X : Cx} {e : Expr} {ta : TA} {p pos tpos : Pos} {elts : List Expr} {kk : Nat} (hg : Gl X "enumerate") (hm : X.mg "enumerate" = none) (ha : PA X [e] ta) (hs : starEach [e] X.env = [(false, eval e X.env)] := by rfl) :
    PI X (.Tuple elts kk tpos) (.Call (.Name "enumerate" p) [e] [] pos) (iEnumA X.K ta) := by
  refine ⟨fun pins s σ H R I h => ?_⟩
  refine Call_ (ld_blt I hg hm boot_enumerate (PyProof.Rows.callWith_type1 (thn (ha.run pos pins s σ H _ I h) fun us s1 ⟨vs, H1, I1, r1, q1⟩ => ?_) hs rfl))
  obtain ⟨a, xs, ex, q1⟩ := q1
  subst ex
  cases r1 with
  | cons r rr =>
    cases rr
    cases r
    have fresh : ∀ b, b ∈ [s1.heap.objs.size + 1, s1.heap.objs.size] → FpOk X pins H1 b := fun b hb => by
      have e' : b = s1.heap.objs.size + 1 ∨ b = s1.heap.objs.size := by simpa using hb
      have hle : s1.heap.objs.size ≤ b := by
        rcases e' with z | z
        · rw [z]; exact Nat.le_add_right _ _
        · rw [z]; exact Nat.le_refl _
      exact I1.fpOk hle (I1.hok.fresh hle)
    rcases q1 with ⟨hq, q⟩ | ⟨hq, q⟩
    · obtain ⟨its, rv, p', hz⟩ := I1.list hq
      refine call_enumerate_list p'.isList fun h' he hit hsz hk => wpAny_pyIter_enum he ?_
      have I2 : Inv X pins σ H1 { s1 with heap := h' } := I1.kept (t' := s1.toks) hk
      exact ⟨s1.heap.objs.size + 1, [s1.heap.objs.size + 1, s1.heap.objs.size], _, _, H1, rfl, I2, turn_enum a (s1.heap.objs.size + 1) s1.heap.objs.size, ⟨⟨.none, he⟩, hit, Nat.succ_ne_self _⟩, fresh, q⟩
    · obtain ⟨its, rv, p', hz⟩ := I1.tuple hq
      refine call_enum1 (begins_tuple a its.toArray) (show s1.heap.IsTuple a its.toArray from p') fun h' he hit hsz hk => wpAny_pyIter_enum he ?_
      have I2 : Inv X pins σ H1 { s1 with heap := h' } := I1.kept (t' := s1.toks) hk
      exact ⟨s1.heap.objs.size + 1, [s1.heap.objs.size + 1, s1.heap.objs.size], _, _, H1, rfl, I2, turn_enumT a (s1.heap.objs.size + 1) s1.heap.objs.size, ⟨⟨.none, he⟩, ⟨_, hit, rfl, rfl⟩, Nat.succ_ne_self _⟩, fresh, q⟩
theorem walk_enumT {K : PySem.W.Frag} {a : Addr} {xs : List V} : Walk (IteT K a) xs.length (fun H => SqT K H a xs) (YPair (fun i => some (.int (i : Nat))) (fun i => xs[i]?)) := by
  refine ⟨fun i _ hi q => ⟨xs, xs[i], q, by simp [hi]⟩, fun _ q => ⟨xs, q, rfl⟩, fun i H v H' _ q y => ?_⟩
  obtain ⟨T, x, h1, h2, h3, h4⟩ := y
  exact ⟨T, .int (i : Nat), x, h1, h2, h3, rfl, h4 xs q⟩
end PL
end L2
set_option Elab.async false
set_option linter.all false
set_option maxRecDepth 100000
/-! PL 14: more walks, targets, for. -/
namespace L2
namespace PL
open PySem PySem.Spec PyProof.Rows

section
variable {X : Cx} {W : Wd} {tg e a b : Expr} {fa fb : Fn} {p pos : Pos}
/-! ### values, items -/
theorem itOk_vals {dr : Option Addr} {G1 H1 : Hp} {a : Addr} {o : Obj} {ks : List (Key × V)} {kvs : List (PyData × PyData)} (h : G1 a = some (.frz o (.dK ks))) (r : RpL W.K G1 (ks.map Prod.snd) (kvs.map Prod.snd)) : ItOk W dr (Itd a o ks) (kvs.map Prod.snd) G1 H1 := by
  have hl : ks.length = (kvs.map Prod.snd).length := by rw [← r.length, List.length_map]
  refine ⟨fun H => H a = some (.frz o (.dK ks)), _, by rw [← hl]; exact walk_values, fun G H s1 s2 => s2 _ _ (s1 _ _ h), fun i G H x H' g hi gi s1 y => ?_⟩
  obtain ⟨rfl, k, hk⟩ := y
  obtain ⟨d, hd, rd⟩ := r.getV (i := i) (v := x) (by rw [List.getElem?_map, hk]; rfl)
  exact ⟨G, d, gi, Ext.refl, hd, rd.mono s1⟩
theorem pair_add {dr : Option Addr} {g : Gs} {G H : Hp} {T : Addr} {x y : V} {d e : PyData} (gi : GI W g dr G H) (hT : H T = none) (rx : Rp W.K G x d) (ry : Rp W.K G y e) :
    ∃ G', GI W g dr G' (upd H T (.tup [x, y])) ∧ Ext dr G H G' (upd H T (.tup [x, y])) ∧ Rp W.K G' (.ref T) (.tuple [d, e]) :=
  ⟨_, gi.add hT trivial, Ext.add gi hT, .tup upd_same (.cons (rx.mono (Ext.add (dr := dr) (o := .tup [x, y]) gi hT).g) (.cons (ry.mono (Ext.add (dr := dr) (o := .tup [x, y]) gi hT).g) .nil))⟩
theorem itOk_items {dr : Option Addr} {G1 H1 : Hp} {a : Addr} {o : Obj} {ks : List (Key × V)} {kvs : List (PyData × PyData)} (h : G1 a = some (.frz o (.dK ks))) (r : RpL W.K G1 (ks.map Prod.snd) (kvs.map Prod.snd)) (e : kvs.map Prod.fst = ks.map (fun p => keyD p.1)) :
    ItOk W dr (Iti a o ks) (kvs.map fun kv => .tuple [kv.1, kv.2]) G1 H1 := by
  have hl : ks.length = (kvs.map fun kv => PyData.tuple [kv.1, kv.2]).length := by rw [List.length_map]; exact keys_len e
  refine ⟨fun H => H a = some (.frz o (.dK ks)), _, by rw [← hl]; exact walk_items, fun G H s1 s2 => s2 _ _ (s1 _ _ h), fun i G H x H' g hi gi s1 y => ?_⟩
  obtain ⟨T, x, z, rfl, hT, rfl, h1, h2⟩ := y
  rw [Option.map_eq_some_iff] at h1 h2
  obtain ⟨kv, hk, rfl⟩ := h1
  obtain ⟨kv', hk', rfl⟩ := h2
  rw [hk] at hk'
  cases hk'
  obtain ⟨d, hd, rd⟩ := r.getV (i := i) (v := kv.2) (by rw [List.getElem?_map, hk]; rfl)
  rw [List.getElem?_map, Option.map_eq_some_iff] at hd
  obtain ⟨kd, hkd, rfl⟩ := hd
  have ek : kd.1 = keyD kv.1 := by
    have z1 : (kvs.map Prod.fst)[i]? = some kd.1 := by rw [List.getElem?_map, hkd]; rfl
    rw [e, List.getElem?_map, hk] at z1
    exact (Option.some.inj z1).symm
  obtain ⟨G', g1, x1, r1⟩ := pair_add gi hT (keyV_rp kv.1) (rd.mono s1)
  exact ⟨G', _, g1, x1, by rw [List.getElem?_map, hkd]; rfl, by show Rp W.K G' _ (.tuple [kd.1, kd.2]); rw [ek]; exact r1⟩
def dctV : PyData → Option (List PyData)
  | .dict kvs => if kvs.all (fun kv => keyFlat kv.1) then some (kvs.map Prod.snd) else none
  | _ => none
def dctI : PyData → Option (List PyData)
  | .dict kvs => if kvs.all (fun kv => keyFlat kv.1) then some (kvs.map fun kv => .tuple [kv.1, kv.2]) else none
  | _ => none
theorem rp_dK {dr : Option Addr} {g : Gs} {G H : Hp} {v : V} {kvs : List (PyData × PyData)} (i : GI W g dr G H) (r : Rp W.K G v (.dict kvs)) (f : kvs.all (fun kv => keyFlat kv.1) = true) :
    ∃ a o ks, v = .ref a ∧ G a = some (.frz o (.dK ks)) ∧ RpL W.K G (ks.map Prod.snd) (kvs.map Prod.snd) ∧ kvs.map Prod.fst = ks.map (fun p => keyD p.1) := by
  cases r with
  | dK a b c =>
    rcases a with a | ⟨o, a⟩
    · exact (i.imm _ _ a).elim
    · exact ⟨_, o, _, rfl, a, b, c⟩
  | @dT _ ks _ a b c n =>
    exfalso
    cases ks with
    | nil => exact n rfl
    | cons k ks =>
      cases kvs with
      | nil => simp at c
      | cons kv kvs =>
        simp only [List.map_cons, List.cons.injEq] at c
        simp only [List.all_cons, Bool.and_eq_true] at f
        rw [c.1] at f
        cases f.1
def fOn (k : PyData → Option (List PyData)) (fa : Fn) : FnL := fun ρ g => (fa ρ g).bind fun x g1 => match k x with
  | some ds => .ok ds g1
  | none => .no
theorem ci_values {apos : Pos} (h : PE X e (tE W fa)) (hbase : attributeBase e "values" X.env (eval e X.env) = eval e X.env := by rfl) (hline : (apos.endLine == p.line) = true := by rfl) : PI X tg (.Call (.Attribute e "values" apos) [] [] p) (tI W (fOn dctV fa)) := by
  refine PI.imp (pi_values h hbase hline) ?_
  rintro σ H R ⟨ρ, g, dr, ad, G, S, h⟩
  refine seqE S poI h fun v H1 x g1 G1 S1 x1 r1 h1 => ?_
  cases x with
  | dict kvs =>
    simp only [dctV] at h1
    by_cases c : kvs.all (fun kv => keyFlat kv.1) = true
    · rw [if_pos c] at h1
      obtain ⟨a, o, ks, rfl, h2, r2, e2⟩ := rp_dK S1.gi r1 c
      exact ⟨a, o, ks, rfl, S1.gi.sub _ _ h2, h1 _ G1 H1 S1.gi Ext.refl (itOk_vals h2 r2)⟩
    · rw [if_neg c] at h1; exact h1.elim
  | none | bool | int | str | list | tuple => exact h1.elim
theorem ci_items {apos tpos : Pos} {elts : List Expr} {kk : Nat} (h : PE X e (tE W fa)) (hbase : attributeBase e "items" X.env (eval e X.env) = eval e X.env := by rfl) (hline : (apos.endLine == p.line) = true := by rfl) : PI X (.Tuple elts kk tpos) (.Call (.Attribute e "items" apos) [] [] p) (tI W (fOn dctI fa)) := by
  refine PI.imp (pi_items h hbase hline) ?_
  rintro σ H R ⟨ρ, g, dr, ad, G, S, h⟩
  refine seqE S poI h fun v H1 x g1 G1 S1 x1 r1 h1 => ?_
  cases x with
  | dict kvs =>
    simp only [dctI] at h1
    by_cases c : kvs.all (fun kv => keyFlat kv.1) = true
    · rw [if_pos c] at h1
      obtain ⟨a, o, ks, rfl, h2, r2, e2⟩ := rp_dK S1.gi r1 c
      exact ⟨a, o, ks, rfl, S1.gi.sub _ _ h2, h1 _ G1 H1 S1.gi Ext.refl (itOk_items h2 r2 e2)⟩
    · rw [if_neg c] at h1; exact h1.elim
  | none | bool | int | str | list | tuple => exact h1.elim

/-! ### enumerate, zip -/
def enumD (ds : List PyData) : List PyData := ds.zipIdx.map fun p => .tuple [.int (p.2 : Nat), p.1]
theorem enumD_length (ds : List PyData) : (enumD ds).length = ds.length := by unfold enumD; simp
theorem enumD_get (ds : List PyData) (i : Nat) : (enumD ds)[i]? = ds[i]?.map fun d => .tuple [.int (i : Nat), d] := by
  unfold enumD
  rw [List.getElem?_map, List.getElem?_zipIdx]
  cases ds[i]? <;> simp
theorem itOk_enum {dr : Option Addr} {G1 H1 : Hp} {a : Addr} {vs : List V} {ds : List PyData} (h : G1 a = some (.lst vs)) (r : RpL W.K G1 vs ds) : ItOk W dr (Ite W.K a) (enumD ds) G1 H1 := by
  refine ⟨fun H => SqL W.K H a vs, _, by rw [enumD_length, ← r.length]; exact walk_enum, fun G H s1 s2 => SqL.of (s2 _ _ (s1 _ _ h)), fun i G H x H' g hi gi s1 y => ?_⟩
  obtain ⟨T, x, z, rfl, hT, rfl, h1, h2⟩ := y
  cases h1
  obtain ⟨d, hd, rd⟩ := r.getV h2
  obtain ⟨G', g1, x1, r1⟩ := pair_add gi hT (.int (i : Nat)) (rd.mono s1)
  exact ⟨G', _, g1, x1, by rw [enumD_get, hd]; rfl, r1⟩
def lstD : PyData → Option (List PyData)
  | .list xs => some xs
  | _ => none
theorem itOk_enumT {dr : Option Addr} {G1 H1 : Hp} {a : Addr} {vs : List V} {ds : List PyData} (h : G1 a = some (.tup vs)) (r : RpL W.K G1 vs ds) : ItOk W dr (IteT W.K a) (enumD ds) G1 H1 := by
  refine ⟨fun H => SqT W.K H a vs, _, by rw [enumD_length, ← r.length]; exact walk_enumT, fun G H s1 s2 => SqT.of (s2 _ _ (s1 _ _ h)), fun i G H x H' g hi gi s1 y => ?_⟩
  obtain ⟨T, x, z, rfl, hT, rfl, h1, h2⟩ := y
  cases h1
  obtain ⟨d, hd, rd⟩ := r.getV h2
  obtain ⟨G', g1, x1, r1⟩ := pair_add gi hT (.int (i : Nat)) (rd.mono s1)
  exact ⟨G', _, g1, x1, by rw [enumD_get, hd]; rfl, r1⟩
def fEnum (fa : Fn) : FnL := fun ρ g => (fa ρ g).bind fun x g1 => match x with
  | .list xs => .ok (enumD xs) g1
  | .tuple xs => .ok (enumD xs) g1
  | _ => .no
theorem ci_enum {tpos p2 : Pos} {elts : List Expr} {kk : Nat} (hK : X.K = W.K) (hg : Gl X "enumerate") (hm : X.mg "enumerate" = none) (ha : PE X e (tE W fa)) (he : starEach [e] X.env = (false, eval e X.env) :: starEach [] X.env := by rfl) :
    PI X (.Tuple elts kk tpos) (.Call (.Name "enumerate" p2) [e] [] p) (tI W (fEnum fa)) := by
  refine PI.imp (pi_enumA hg hm (pa_cons ha pa_nil he) he) ?_
  rintro σ H R ⟨ρ, g, dr, ad, G, S, h⟩
  refine seqE S poI h fun v H1 x g1 G1 S1 x1 r1 h1 => ?_
  cases r1 with
  | lst a b => rw [hK]; exact ⟨_, _, rfl, .inl ⟨SqL.of (S1.gi.sub _ _ a), h1 _ G1 H1 S1.gi Ext.refl (itOk_enum a b)⟩⟩
  | tup a b => rw [hK]; exact ⟨_, _, rfl, .inr ⟨SqT.of (S1.gi.sub _ _ a), h1 _ G1 H1 S1.gi Ext.refl (itOk_enumT a b)⟩⟩
  | non | bl | int | str | dK | dT => exact h1.elim
def zipD (xs ys : List PyData) : List PyData := (xs.zip ys).map fun p => .tuple [p.1, p.2]
theorem zipD_length (xs ys : List PyData) : (zipD xs ys).length = min xs.length ys.length := by unfold zipD; simp
theorem zipD_get (xs ys : List PyData) (i : Nat) {x y : PyData} (h1 : xs[i]? = some x) (h2 : ys[i]? = some y) : (zipD xs ys)[i]? = some (.tuple [x, y]) := by
  unfold zipD
  rw [List.getElem?_map]
  have : (xs.zip ys)[i]? = some (x, y) := by
    rw [List.getElem?_zip_eq_some]
    exact ⟨h1, h2⟩
  rw [this]; rfl
theorem itOk_zip {dr : Option Addr} {G1 H1 : Hp} {a b : Addr} {vs ws : List V} {ds es : List PyData} (h : G1 a = some (.lst vs)) (r : RpL W.K G1 vs ds) (h' : G1 b = some (.lst ws)) (r' : RpL W.K G1 ws es) : ItOk W dr (Itz W.K a b) (zipD ds es) G1 H1 := by
  refine ⟨fun H => SqL W.K H a vs ∧ SqL W.K H b ws, _, walk_zip (by rw [zipD_length, r.length, r'.length]), fun G H s1 s2 => ⟨SqL.of (s2 _ _ (s1 _ _ h)), SqL.of (s2 _ _ (s1 _ _ h'))⟩, fun i G H x H' g hi gi s1 y => ?_⟩
  obtain ⟨T, x, z, rfl, hT, rfl, h1, h2⟩ := y
  obtain ⟨d, hd, rd⟩ := r.getV h1
  obtain ⟨e, he, re⟩ := r'.getV h2
  obtain ⟨G', g1, x1, r1⟩ := pair_add gi hT (rd.mono s1) (re.mono s1)
  exact ⟨G', _, g1, x1, zipD_get _ _ _ hd he, r1⟩
theorem walk_zipT {K : PySem.W.Frag} {a b : Addr} {xs ys : List V} {n : Nat} (hn : n = min xs.length ys.length) : Walk (RZ.ItzT K a b) n (fun H => SqT K H a xs ∧ SqT K H b ys) (YPair (fun i => xs[i]?) (fun i => ys[i]?)) := by
  subst hn
  refine ⟨fun i _ hi q => ?_, fun _ q => ⟨xs, ys, q.1, q.2, by omega⟩, fun i H v H' _ q y => ?_⟩
  · have h1 : i < xs.length := by omega
    have h2 : i < ys.length := by omega
    exact ⟨xs, ys, xs[i], ys[i], q.1, q.2, by simp [h1], by simp [h2]⟩
  · obtain ⟨T, x, z, h1, h2, h3, h4, h5⟩ := y
    exact ⟨T, x, z, h1, h2, h3, h4 xs q.1, h5 ys q.2⟩
theorem itOk_zipT {dr : Option Addr} {G1 H1 : Hp} {a b : Addr} {vs ws : List V} {ds es : List PyData} (h : G1 a = some (.tup vs)) (r : RpL W.K G1 vs ds) (h' : G1 b = some (.tup ws)) (r' : RpL W.K G1 ws es) : ItOk W dr (RZ.ItzT W.K a b) (zipD ds es) G1 H1 := by
  refine ⟨fun H => SqT W.K H a vs ∧ SqT W.K H b ws, _, walk_zipT (by rw [zipD_length, r.length, r'.length]), fun G H s1 s2 => ⟨SqT.of (s2 _ _ (s1 _ _ h)), SqT.of (s2 _ _ (s1 _ _ h'))⟩, fun i G H x H' g hi gi s1 y => ?_⟩
  obtain ⟨T, x, z, rfl, hT, rfl, h1, h2⟩ := y
  obtain ⟨d, hd, rd⟩ := r.getV h1
  obtain ⟨e, he, re⟩ := r'.getV h2
  obtain ⟨G', g1, x1, r1⟩ := pair_add gi hT (rd.mono s1) (re.mono s1)
  exact ⟨G', _, g1, x1, zipD_get _ _ _ hd he, r1⟩
def fZip (fa fb : Fn) : FnL := fun ρ g => (fa ρ g).bind fun x g1 => (fb ρ g1).bind fun y g2 => match x, y with
  | .list xs, .list ys => .ok (zipD xs ys) g2
  | .tuple xs, .tuple ys => .ok (zipD xs ys) g2
  | _, _ => .no
theorem ci_zip {tpos p2 : Pos} {elts : List Expr} {kk : Nat} (hK : X.K = W.K) (hg : Gl X "zip") (hm : X.mg "zip" = none) (ha : PE X a (tE W fa)) (hb : PE X b (tE W fb)) (he : starEach [a, b] X.env = (false, eval a X.env) :: starEach [b] X.env := by rfl) (he2 : starEach [b] X.env = (false, eval b X.env) :: starEach [] X.env := by rfl)
    (hpl : (backTo p (starEach [b] X.env)).any (·.1) = false := by rfl) : PI X (.Tuple elts kk tpos) (.Call (.Name "zip" p2) [a, b] [] p) (tI W (fZip fa fb)) := by
  refine PI.imp (RZ.pi_zipA hg hm (pa_cons ha (pa_cons hb pa_nil he2) he) he hpl) ?_
  rintro σ H R ⟨ρ, g, dr, ad, G, S, h⟩
  refine seqE S poI h fun v H1 x g1 G1 S1 x1 r1 h1 => ?_
  refine seqE S1 poI h1 fun w H2 y g2 G2 S2 x2 r2 h2 => ?_
  have r1 := r1.mono x2.g
  cases r1 with
  | lst a1 b1 =>
    cases r2 with
    | lst a2 b2 => rw [hK]; exact ⟨_, _, _, _, rfl, .inl ⟨SqL.of (S2.gi.sub _ _ a1), SqL.of (S2.gi.sub _ _ a2), h2 _ G2 H2 S2.gi Ext.refl (itOk_zip a1 b1 a2 b2)⟩⟩
    | non | bl | int | str | tup | dK | dT => exact h2.elim
  | tup a1 b1 =>
    cases r2 with
    | tup a2 b2 => rw [hK]; exact ⟨_, _, _, _, rfl, .inr ⟨SqT.of (S2.gi.sub _ _ a1), SqT.of (S2.gi.sub _ _ a2), h2 _ G2 H2 S2.gi Ext.refl (itOk_zipT a1 b1 a2 b2)⟩⟩
    | non | bl | int | str | lst | dK | dT => exact h2.elim
  | non | bl | int | str | dK | dT => cases y <;> exact h2.elim

/-! ### targets -/
inductive Tg where
  | nm (i : Nat) | tp (ts : List Tg)
mutual
def bindT : Tg → PyData → Option (List (Nat × PyData))
  | .nm i, d => some [(i, d)]
  | .tp ts, .tuple ds => bindTs ts ds
  | .tp _, _ => none
def bindTs : List Tg → List PyData → Option (List (Nat × PyData))
  | [], [] => some []
  | t :: ts, d :: ds => match bindT t d, bindTs ts ds with
    | some l, some r => some (l ++ r)
    | _, _ => none
  | _, _ => none
end
def setV : St → List Nat → List V → St
  | σ, i :: is, v :: vs => setV (σ.set i (some v)) is vs
  | σ, _, _ => σ
def setE : Env → List (Nat × PyData) → Env
  | ρ, [] => ρ
  | ρ, (i, d) :: r => setE (ρ.set i (.sh d)) r
theorem setV_append {vs ws : List V} : ∀ {is js : List Nat} {σ : St}, is.length = vs.length → setV σ (is ++ js) (vs ++ ws) = setV (setV σ is vs) js ws := by
  induction vs with
  | nil => intro is js σ h; cases is with | nil => rfl | cons _ _ => simp at h
  | cons v vs ih =>
    intro is js σ h
    cases is with
    | nil => simp at h
    | cons i is => exact ih (by simpa using h)
def TgOk (K : PySem.W.Frag) (t : Tg) (g : TG) : Prop := ∀ (G H : Hp) (x : V) (d : PyData) (l : List (Nat × PyData)), Sub G H → Rp K G x d → bindT t d = some l → ∃ vs, RpL K G vs (l.map Prod.snd) ∧ ∀ σ Q, Q (setV σ (l.map Prod.fst) vs) H → g x σ H Q
def TgsOk (K : PySem.W.Frag) (ts : List Tg) (g : TGs) : Prop := ∀ (G H : Hp) (xs : List V) (ds : List PyData) (l : List (Nat × PyData)), Sub G H → RpL K G xs ds → bindTs ts ds = some l → ∃ vs, RpL K G vs (l.map Prod.snd) ∧ ∀ σ Q, Q (setV σ (l.map Prod.fst) vs) H → g xs σ H Q
theorem tg_nm {K : PySem.W.Frag} (i : Nat) : TgOk K (.nm i) (gName i) := by
  intro G H x d l s r h
  cases h
  exact ⟨[x], .cons r .nil, fun σ Q q => q⟩
theorem tgs_nil {K : PySem.W.Frag} : TgsOk K [] gNil := by
  intro G H xs ds l s r h
  cases r with
  | nil => cases h; exact ⟨[], .nil, fun σ Q q => ⟨rfl, q⟩⟩
  | cons _ _ => cases h
theorem tgs_cons {K : PySem.W.Frag} {t : Tg} {ts : List Tg} {g : TG} {gs : TGs} (h1 : TgOk K t g) (h2 : TgsOk K ts gs) : TgsOk K (t :: ts) (gCons g gs) := by
  intro G H xs ds l s r h
  cases r with
  | nil => cases h
  | cons a b =>
    simp only [bindTs] at h
    split at h
    · rename_i l1 l2 e1 e2
      cases h
      obtain ⟨vs, r1, k1⟩ := h1 G H _ _ l1 s a e1
      obtain ⟨ws, r2, k2⟩ := h2 G H _ _ l2 s b e2
      refine ⟨vs ++ ws, by rw [List.map_append]; exact r1.append r2, fun σ Q q => ⟨_, _, rfl, k1 σ _ (k2 _ Q ?_)⟩⟩
      rw [List.map_append, setV_append (by rw [List.length_map]; simpa using r1.length.symm)] at q
      exact q
    · cases h
theorem tg_tp {K : PySem.W.Frag} {ts : List Tg} {gs : TGs} {n : Nat} (hn : ts.length = n) (h : TgsOk K ts gs) : TgOk K (.tp ts) (gTup K n gs) := by
  intro G H x d l s r hb
  cases r with
  | tup a b =>
    simp only [bindT] at hb
    obtain ⟨vs, r1, k1⟩ := h G H _ _ l s b hb
    refine ⟨vs, r1, fun σ Q q => ⟨_, _, rfl, SqT.of (s _ _ a), ?_, k1 σ Q q⟩⟩
    rw [b.length, ← hn]
    have : ∀ {ts : List Tg} {ds : List PyData} {l : List (Nat × PyData)}, bindTs ts ds = some l → ds.length = ts.length := by
      intro ts
      induction ts with
      | nil => intro ds l h; cases ds with | nil => rfl | cons _ _ => cases h
      | cons t ts ih =>
        intro ds l h
        cases ds with
        | nil => cases h
        | cons d ds =>
          simp only [bindTs] at h
          split at h
          · rename_i e2; rw [List.length_cons, List.length_cons, ih e2]
          · cases h
    exact this hb
  | non | bl | int | str | lst | dK | dT => cases hb
theorem SR.setAll {g : Gs} {dr : Option Addr} {G H : Hp} : ∀ {l : List (Nat × PyData)} {vs : List V} {ρ : Env} {ad : Nat → Addr} {σ : St}, SR W ρ g dr ad σ G H → RpL W.K G vs (l.map Prod.snd) → ∃ ad', SR W (setE ρ l) g dr ad' (setV σ (l.map Prod.fst) vs) G H
  | [], _, ρ, ad, σ, S, r => by cases r; exact ⟨ad, S⟩
  | (i, d) :: l, _, ρ, ad, σ, S, .cons a b => by
    have z := SR.setAll (S.set i (.sh d) _ 0 ⟨_, rfl, a⟩ fun d z => by cases z) b
    exact z
theorem SB.setAll {g : Gs} {dr : Option Addr} {G0 H0 G H : Hp} : ∀ {l : List (Nat × PyData)} {vs : List V} {ρ : Env} {ad : Nat → Addr} {σ : St}, SB W ρ g dr ad σ G0 H0 G H → RpL W.K G vs (l.map Prod.snd) → ∃ ad', SB W (setE ρ l) g dr ad' (setV σ (l.map Prod.fst) vs) G0 H0 G H
  | [], _, ρ, ad, σ, S, r => by cases r; exact ⟨ad, S⟩
  | (i, d) :: l, _, ρ, ad, σ, S, .cons a b => by
    have z := SB.setAll (S.set i (.sh d) _ 0 ⟨_, rfl, a⟩ fun d z => by cases z) b
    exact z

/-! ### a, b = e -/
def fAsg (t : Tg) (fa : Fn) : FnS := fun ρ g => (fa ρ g).bind fun d g1 => match bindT t d with
  | some l => .ok (.nx (setE ρ l)) g1
  | none => .no
theorem cs_asg {tpos : Pos} {g : TG} {t : Tg} (h : ∀ te, PE X e te → PS X (.Assign [tg] e p) (tAsg te g)) (ht : TgOk W.K t g) (he : PE X e (tE W fa)) : PS X (.Assign [tg] e p) (tS W (fAsg t fa)) := by
  refine PS.imp (h _ he) ?_
  rintro D σ H ⟨ρ, g, dr, ad, G, G0, H0, S, h⟩
  refine seqE S.sr poS (P := pS W dr G0 H0 D) ⟨S.ext, h⟩ fun v H1 d g1 G1 S1 x1 r1 h1 => ?_
  have S2 : SB W ρ g1 dr ad σ G0 H0 G1 H1 := S.next x1 S1.gi
  have hh := h1.2
  cases e : bindT t d with
  | none => simp only [e] at hh; exact hh.elim
  | some l =>
    simp only [e] at hh
    obtain ⟨vs, r2, k⟩ := ht G1 H1 v d l S1.gi.sub r1 e
    obtain ⟨ad', S3⟩ := S2.setAll r2
    exact k _ _ (hh _ _ _ _ S3)

/-! ### for -/
/-- a new beginning within a def: what is told by now stays -/
theorem SB.rebase {ρ : Env} {g : Gs} {dr : Option Addr} {ad : Nat → Addr} {σ : St} {G0 H0 G H : Hp} (S : SB W ρ g dr ad σ G0 H0 G H) : ∃ H1, SB W ρ g dr ad σ G H1 G H ∧ (∀ G' H', Ext dr G H1 G' H' → Ext dr G0 H0 G' H') ∧ ∀ a, H1 a = none → H0 a = none := by
  refine ⟨fun c => match G c with
    | some o => some o
    | none => H0 c, ⟨S.sr, ⟨fun _ _ h => h, fun c o h d n => ?_, fun c o h d m n => n, fun c o h => ?_⟩, fun i d hi => ?_⟩, fun G' H' x => ⟨fun c o h => x.g c o (S.ext.g c o h), fun c o h d n => ?_, fun c o h d m n => ?_, fun c o h => ?_⟩, fun a h => ?_⟩
  · cases e : G c with
    | some u => rw [e] at h; cases h; exact S.sr.gi.sub _ _ e
    | none => rw [e] at h; exact S.ext.h c o h d n
  · cases e : G c with
    | some u => exact ⟨u, S.sr.gi.sub _ _ e⟩
    | none => rw [e] at h; exact S.ext.d c o h
  · obtain ⟨_, h2, _, _⟩ := S.sr.slot i _ hi
    show (match G (ad i) with
      | some o => some o
      | none => H0 (ad i)) = none
    rw [h2]; exact S.own i d hi
  · have hc := S.ext.h c o h d n
    cases e : G c with
    | some u =>
      have := S.sr.gi.sub _ _ e
      rw [hc] at this
      cases this
      refine x.h c o ?_ d n
      simp only [e]
    | none =>
      refine x.h c o ?_ d n
      simp only [e]; exact h
  · have hn := S.ext.n c o h d m n
    refine x.n c o ?_ d m hn
    simp only [hn]; exact h
  · cases e : G c with
    | some u => exact x.d c u (by simp only [e])
    | none => exact x.d c o (by simp only [e]; exact h)
  · cases e : G a with
    | some u => simp only [e] at h; cases h
    | none => simp only [e] at h; exact h
theorem SB.back {ρ : Env} {g : Gs} {dr : Option Addr} {ad : Nat → Addr} {σ : St} {G0 H0 G1 H1 G H : Hp} (S : SB W ρ g dr ad σ G1 H1 G H) (x : ∀ G' H', Ext dr G1 H1 G' H' → Ext dr G0 H0 G' H') (n : ∀ a, H1 a = none → H0 a = none) : SB W ρ g dr ad σ G0 H0 G H :=
  ⟨S.sr, x _ _ S.ext, fun i d hi => n _ (S.own i d hi)⟩
theorem okS.back {dr : Option Addr} {G0 H0 G1 H1 : Hp} {r : Res Fl} {D : Ends} (h : okS W dr G0 H0 r D) (x : ∀ G' H', Ext dr G1 H1 G' H' → Ext dr G0 H0 G' H') (n : ∀ a, H1 a = none → H0 a = none) : okS W dr G1 H1 r D := by
  cases r with
  | ok fl g =>
    cases fl with
    | nx ρ => exact fun ad σ G H S => h ad σ G H (S.back x n)
    | rt d => exact fun v G H i e r => h v G H i (x _ _ e) r
    | bk ρ => exact fun ad σ G H S => h ad σ G H (S.back x n)
    | ct ρ => exact fun ad σ G H S => h ad σ G H (S.back x n)
  | bad d g => exact fun v dx G' H' i e => h v dx G' H' i (x _ _ e)
  | no => exact h
def loopF (t : Tg) (body : FnS) : List PyData → Env → Gs → Res Fl
  | [], ρ, g => .ok (.nx ρ) g
  | d :: ds, ρ, g => match bindT t d with
    | none => .no
    | some l => (body (setE ρ l) g).bind fun fl g1 => match fl with
      | .nx ρ' => loopF t body ds ρ' g1
      | .ct ρ' => loopF t body ds ρ' g1
      | .bk ρ' => .ok (.nx ρ') g1
      | .rt d => .ok (.rt d) g1
def fFor (fi : FnL) (t : Tg) (body : FnS) : FnS := fun ρ g => (fi ρ g).bind fun ds g1 => loopF t body ds ρ g1
theorem cs_for {it : Expr} {body : List Stmt} {fi : FnL} {g : TG} {t : Tg} {f : FnS} (h : ∀ {wi : TI} {tb : TS}, PI X tg it wi → PSs X body tb → PS X (.For tg it body [] p) (tFor wi g tb)) (ht : TgOk W.K t g) (hi : PI X tg it (tI W fi)) (hb : PSs X body (tS W f)) :
    PS X (.For tg it body [] p) (tS W (fFor fi t f)) := by
  refine PS.imp (h hi hb) ?_
  rintro D σ H ⟨ρ, g0, dr, ad, G, G0, H0, S, h⟩
  refine seqI S.sr poS (P := pS W dr G0 H0 D) ⟨S.ext, h⟩ fun J H1 ds g1 G1 S1 x1 o h1 => ?_
  have S2 : SB W ρ g1 dr ad σ G0 H0 G1 H1 := S.next x1 S1.gi
  obtain ⟨C, Y, w, hC, hY⟩ := o
  obtain ⟨Hb, S3, bk, nn⟩ := S2.rebase
  have hh := h1.2
  refine for_it w (fun i σ H => ∃ ρ g ad G, SB W ρ g dr ad σ G1 Hb G H ∧ okS W dr G0 H0 (loopF t f (ds.drop i) ρ g) D) ⟨ρ, g1, ad, G1, S3, hh⟩ (fun i σ H _ ⟨ρ, g, ad, G, S, _⟩ => hC G H S.ext.g S.sr.gi.sub) ?_ ?_
  · rintro i x σ H H' hlt ⟨ρ, g, ad, G, S, hl⟩ y
    obtain ⟨G', d, gi, xe, hd, rd⟩ := hY i G H x H' g hlt S.sr.gi S.ext.g y
    have hdrop : ds.drop i = d :: ds.drop (i + 1) := by
      rw [List.drop_eq_getElem_cons hlt]
      congr 1
      have := List.getElem?_eq_getElem hlt
      rw [hd] at this
      exact (Option.some.inj this).symm
    rw [hdrop] at hl
    have S4 : SB W ρ g dr ad σ G1 Hb G' H' := S.next xe gi
    simp only [loopF] at hl
    cases eb : bindT t d with
    | none => simp only [eb] at hl; exact hl.elim
    | some l =>
      simp only [eb] at hl
      obtain ⟨vs, r2, k⟩ := ht G' H' x d l gi.sub rd eb
      obtain ⟨ad', S5⟩ := S4.setAll r2
      refine k _ _ ⟨_, g, dr, ad', G', G1, Hb, S5, ?_⟩
      cases ef : f (setE ρ l) g with
      | ok fl g2 =>
        rw [ef] at hl
        cases fl with
        | nx ρ' => exact fun ad'' σ'' G'' H'' S'' => ⟨ρ', g2, ad'', G'', S'', hl⟩
        | ct ρ' => exact fun ad'' σ'' G'' H'' S'' => ⟨ρ', g2, ad'', G'', S'', hl⟩
        | bk ρ' => exact fun ad'' σ'' G'' H'' S'' => hl ad'' σ'' G'' H'' (S''.back bk nn)
        | rt e => exact fun v G'' H'' i e r => hl v G'' H'' i (bk _ _ e) r
      | bad e g2 =>
        rw [ef] at hl
        exact fun v dx G'' H'' i e => hl v dx G'' H'' i (bk _ _ e)
      | no => rw [ef] at hl; exact hl
  · rintro σ H ⟨ρ, g, ad, G, S, hl⟩
    rw [List.drop_length] at hl
    exact hl ad σ G H (S.back bk nn)
end
end PL
end L2
set_option Elab.async false
set_option linter.all false
set_option maxRecDepth 100000
/-! PL 15: comprehensions of lists. -/
namespace L2
namespace PL
open PySem PySem.Spec PyProof.Rows

/-- within a comprehension nothing may be raised -/
def Wd.calm (W : Wd) : Wd := { W with E := fun _ _ _ => False }
def Res.calm {α : Type} : Res α → Res α
  | .ok a g => .ok a g
  | .bad _ _ => .no
  | .no => .no
def wipeE (ρ : Env) : List Nat → Env
  | [] => ρ
  | v :: vs => (wipeE ρ vs).set v .un
def tgSlots : Tg → List Nat
  | .nm i => [i]
  | .tp ts => tgsSlots ts
where tgsSlots : List Tg → List Nat
  | [] => []
  | t :: ts => tgSlots t ++ tgsSlots ts
mutual
theorem bindT_slots : ∀ (t : Tg) (d : PyData) (l : List (Nat × PyData)), bindT t d = some l → l.map Prod.fst = tgSlots t
  | .nm i, d, l, h => by cases h; rfl
  | .tp ts, .tuple ds, l, h => by
    simp only [bindT] at h
    simp only [tgSlots]
    exact bindTs_slots ts ds l h
  | .tp _, .none, _, h => by cases h
  | .tp _, .bool _, _, h => by cases h
  | .tp _, .int _, _, h => by cases h
  | .tp _, .str _, _, h => by cases h
  | .tp _, .list _, _, h => by cases h
  | .tp _, .dict _, _, h => by cases h
theorem bindTs_slots : ∀ (ts : List Tg) (ds : List PyData) (l : List (Nat × PyData)), bindTs ts ds = some l → l.map Prod.fst = tgSlots.tgsSlots ts
  | [], [], l, h => by cases h; rfl
  | [], _ :: _, _, h => by cases h
  | _ :: _, [], _, h => by cases h
  | t :: ts, d :: ds, l, h => by
    simp only [bindTs] at h
    split at h
    · rename_i l1 l2 e1 e2
      cases h
      simp only [tgSlots.tgsSlots, List.map_append, bindT_slots t d l1 e1, bindTs_slots ts ds l2 e2]
    · cases h
end
theorem wipe_set {σ : St} {i : Nat} {v : Option V} : ∀ {vs : List Nat}, i ∈ vs → wipe (σ.set i v) vs = wipe σ vs
  | [], h => by cases h
  | w :: vs, h => by
    unfold wipe
    by_cases c : i ∈ vs
    · rw [wipe_set c]
    · have e : i = w := by rcases List.mem_cons.mp h with h | h; exact h; exact absurd h c
      subst e
      have out : ∀ {vs : List Nat} {σ : St}, i ∉ vs → wipe (σ.set i v) vs = (wipe σ vs).set i v := by
        intro vs
        induction vs with
        | nil => intro σ _; rfl
        | cons u us ih =>
          intro σ hn
          have h1 : i ≠ u := fun e => hn (by rw [e]; exact List.mem_cons_self)
          have h2 : i ∉ us := fun e => hn (List.mem_cons_of_mem _ e)
          unfold wipe
          rw [ih h2, List.set_comm _ _ h1]
      rw [out c, List.set_set]
theorem wipe_setV {vs : List Nat} : ∀ {is : List Nat} {ws : List V} {σ : St}, (∀ i ∈ is, i ∈ vs) → wipe (setV σ is ws) vs = wipe σ vs
  | [], _, _, _ => by unfold setV; rfl
  | _ :: _, [], _, _ => by unfold setV; rfl
  | i :: is, w :: ws, σ, h => by
    show wipe (setV (σ.set i (some w)) is ws) vs = _
    rw [wipe_setV fun j hj => h j (List.mem_cons_of_mem _ hj), wipe_set (h i List.mem_cons_self)]
theorem wipe_wipe (σ : St) : ∀ vs us : List Nat, (∀ v ∈ vs, v ∈ us) → wipe (wipe σ vs) us = wipe σ us
  | [], us, _ => rfl
  | v :: vs, us, h => by
    show wipe ((wipe σ vs).set v none) us = _
    rw [wipe_set (h v List.mem_cons_self)]
    exact wipe_wipe σ vs us fun w hw => h w (List.mem_cons_of_mem _ hw)
section
variable {X : Cx} {W : Wd}
theorem SR.wipe {ρ : Env} {g : Gs} {dr : Option Addr} {ad : Nat → Addr} {σ : St} {G H : Hp} : ∀ (vs : List Nat), SR W ρ g dr ad σ G H → SR W (wipeE ρ vs) g dr ad (L2.wipe σ vs) G H
  | [], S => S
  | v :: vs, S => by
    have T := SR.wipe vs S
    refine ⟨T.gi, ?_, fun j sl hj => ?_, fun j k d e hj hk q => ?_⟩
    · show ((wipeE ρ vs).set v .un).length = ((L2.wipe σ vs).set v none).length
      rw [List.length_set, List.length_set]; exact T.len
    · have hj : ((wipeE ρ vs).set v .un)[j]? = some sl := hj
      show SlOk W.K G H dr (ad j) sl ((L2.wipe σ vs).set v none)[j]?
      by_cases c : v = j
      · subst c
        rw [List.getElem?_set] at hj
        simp only [if_true] at hj
        split at hj
        · cases hj; trivial
        · cases hj
      · rw [List.getElem?_set_ne c] at hj ⊢
        exact T.slot j sl hj
    · have own : ∀ {j : Nat} {a : PyData}, ((wipeE ρ vs).set v .un)[j]? = some (.ow a) → (wipeE ρ vs)[j]? = some (.ow a) := by
        intro j a hj
        by_cases c : v = j
        · subst c
          rw [List.getElem?_set] at hj
          simp only [if_true] at hj
          split at hj <;> cases hj
        · rw [List.getElem?_set_ne c] at hj; exact hj
      exact T.inj j k d e (own hj) (own hk) q
theorem SR.calm {ρ : Env} {g : Gs} {dr : Option Addr} {ad : Nat → Addr} {σ : St} {G H : Hp} (S : SR W ρ g dr ad σ G H) : SR W.calm ρ g dr ad σ G H := ⟨⟨S.gi.sub, S.gi.imm, S.gi.draw, S.gi.tabs⟩, S.len, S.slot, S.inj⟩
theorem GI.uncalm {g : Gs} {dr : Option Addr} {G H : Hp} (i : GI W.calm g dr G H) : GI W g dr G H := ⟨i.sub, i.imm, i.draw, i.tabs⟩
/-- a family of posts to be used within: from what the outer wants -/
theorem calmE {β : Type} {ρ : Env} {g : Gs} {dr : Option Addr} {ad : Nat → Addr} {σ : St} {G H : Hp} {f : Fn} {k : PyData → Gs → Res β} {P : Res β → Prop} {R : VK} (S : SR W ρ g dr ad σ G H) (pn : P .no → False) (h : P ((f ρ g).calm.bind k))
    (q : ∀ v H1 x g1 G1, SR W ρ g1 dr ad σ G1 H1 → Ext dr G H G1 H1 → Rp W.K G1 v x → P (k x g1) → R v H1) : tE W.calm f σ H R := by
  refine ⟨ρ, g, dr, ad, G, S.calm, ?_⟩
  cases e : f ρ g with
  | ok d g1 =>
    rw [e] at h
    exact fun v G1 H1 i x rp => q v H1 d g1 G1 (S.ext x i.uncalm) x rp h
  | bad d g1 => rw [e] at h; exact (pn h).elim
  | no => rw [e] at h; exact (pn h).elim
theorem calmT {β : Type} {ρ : Env} {g : Gs} {dr : Option Addr} {ad : Nat → Addr} {σ : St} {G H : Hp} {f : Fn} {k : PyData → Gs → Res β} {P : Res β → Prop} {R : Bool → Hp → Prop} (S : SR W ρ g dr ad σ G H) (pn : P .no → False) (h : P ((f ρ g).calm.bind k))
    (nb : ∀ x g1, (∀ b, x ≠ .bool b) → k x g1 = .no) (q : ∀ b H1 g1 G1, SR W ρ g1 dr ad σ G1 H1 → Ext dr G H G1 H1 → P (k (.bool b) g1) → R b H1) : tT W.calm f σ H R := by
  refine ⟨ρ, g, dr, ad, G, S.calm, ?_⟩
  cases e : f ρ g with
  | ok d g1 =>
    rw [e] at h
    have h : P (k d g1) := h
    cases d with
    | bool b => exact fun G1 H1 i x => q b H1 g1 G1 (S.ext x i.uncalm) x h
    | none => rw [nb _ _ (fun b z => by cases z)] at h; exact (pn h).elim
    | int => rw [nb _ _ (fun b z => by cases z)] at h; exact (pn h).elim
    | str => rw [nb _ _ (fun b z => by cases z)] at h; exact (pn h).elim
    | list => rw [nb _ _ (fun b z => by cases z)] at h; exact (pn h).elim
    | tuple => rw [nb _ _ (fun b z => by cases z)] at h; exact (pn h).elim
    | dict => rw [nb _ _ (fun b z => by cases z)] at h; exact (pn h).elim
  | bad d g1 => rw [e] at h; exact (pn h).elim
  | no => rw [e] at h; exact (pn h).elim
theorem calmI {β : Type} {ρ : Env} {g : Gs} {dr : Option Addr} {ad : Nat → Addr} {σ : St} {G H : Hp} {f : FnL} {k : List PyData → Gs → Res β} {P : Res β → Prop} {R : It → Hp → Prop} (S : SR W ρ g dr ad σ G H) (pn : P .no → False) (h : P ((f ρ g).calm.bind k))
    (q : ∀ J H1 ds g1 G1, SR W ρ g1 dr ad σ G1 H1 → Ext dr G H G1 H1 → ItOk W dr J ds G1 H1 → P (k ds g1) → R J H1) : tI W.calm f σ H R := by
  refine ⟨ρ, g, dr, ad, G, S.calm, ?_⟩
  cases e : f ρ g with
  | ok d g1 =>
    rw [e] at h
    refine fun J G1 H1 i x o => q J H1 d g1 G1 (S.ext x i.uncalm) x ?_ h
    obtain ⟨C, Y, w, hC, hY⟩ := o
    refine ⟨C, Y, w, hC, fun i G H x H' g hi gi s y => ?_⟩
    obtain ⟨G', d, gi', r⟩ := hY i G H x H' g hi ⟨gi.sub, gi.imm, gi.draw, gi.tabs⟩ s y
    exact ⟨G', d, gi'.uncalm, r⟩
  | bad d g1 => rw [e] at h; exact (pn h).elim
  | no => rw [e] at h; exact (pn h).elim
end
/-- the tests of a clause -/
def fYes : Fn := fCst (.bool true)
theorem ct_yes {X : Cx} {W : Wd} : PTs X [] (tT W fYes) := by
  refine ⟨fun pins s σ H Q I h => pts_nil.run pins s σ H Q I ?_⟩
  obtain ⟨ρ, g, dr, ad, G, S, h⟩ := h
  exact h G H S.gi Ext.refl
theorem ct_if {X : Cx} {W : Wd} {c : Expr} {f : Fn} (h : PT X c (tT W f)) : PTs X [c] (tT W f) := pts_one h
def lcF (t : Tg) (fc fe : Fn) (vs : List Nat) (ρ : Env) : List PyData → List PyData → Gs → Res PyData
  | [], acc, g => .ok (.list acc) g
  | d :: ds, acc, g => match bindT t d with
    | none => .no
    | some l => (fc (setE (wipeE ρ vs) l) g).calm.bind fun b g1 => match b with
      | .bool true => (fe (setE (wipeE ρ vs) l) g1).calm.bind fun y g2 => if acc.length < sizeLine then lcF t fc fe vs ρ ds (acc ++ [y]) g2 else .no
      | .bool false => lcF t fc fe vs ρ ds acc g1
      | _ => .no
def fLc (fi : FnL) (t : Tg) (fc fe : Fn) (vs : List Nat) : Fn := fun ρ g => (fi ρ g).bind fun ds g1 => lcF t fc fe vs ρ ds [] g1
section
variable {X : Cx} {W : Wd}
/-- the state while a list at D is being made -/
structure LcS (W : Wd) (dr : Option Addr) (D : Addr) (G1 H1 G H : Hp) (acc : List PyData) (g : Gs) : Prop where
  gi : GI W g dr G H
  ext : Ext dr G1 H1 G H
  own : ∃ vs, H D = some (.lst vs) ∧ RpL W.K G vs acc
  gn : G D = none
theorem LcS.ofExt {dr : Option Addr} {D : Addr} {G1 H1 G H G' H' : Hp} {acc : List PyData} {g g' : Gs} (d : dr ≠ some D) (s : LcS W dr D G1 H1 G H acc g) (e : Ext dr G H G' H') (i : GI W g' dr G' H') : LcS W dr D G1 H1 G' H' acc g' := by
  obtain ⟨vs, h1, h2⟩ := s.own
  exact ⟨i, s.ext.trans e, ⟨vs, e.h _ _ h1 d (fun ps z => by cases z), h2.mono e.g⟩, e.n _ _ h1 d trivial s.gn⟩
theorem LcS.push {dr : Option Addr} {D : Addr} {G1 H1 G H : Hp} {acc : List PyData} {g : Gs} {v : V} {y : PyData} (d : dr ≠ some D) (h1 : H1 D = none) (s : LcS W dr D G1 H1 G H acc g) (r : Rp W.K G v y) :
    ∃ vs, H D = some (.lst vs) ∧ vs.length = acc.length ∧ LcS W dr D G1 H1 G (upd H D (.lst (vs ++ [v]))) (acc ++ [y]) g := by
  obtain ⟨vs, h, rl⟩ := s.own
  refine ⟨vs, h, rl.length, ⟨fun c u q => ?_, s.gi.imm, ?_, tabs_upd s.gi.tabs h trivial⟩, ⟨s.ext.g, fun c u q dc n => ?_, s.ext.n, fun c u q => ?_⟩, ⟨_, upd_same, rl.snoc r⟩, s.gn⟩
  · have n : c ≠ D := fun z => by rw [z, s.gn] at q; cases q
    rw [upd_ne n]; exact s.gi.sub c u q
  · have z := s.gi.draw
    cases g with
    | none => exact z
    | some q =>
      obtain ⟨x, v, z1, z2, z3, z4⟩ := z
      have n : x ≠ D := fun e => d (by rw [z1, e])
      exact ⟨x, v, z1, z2, by rw [upd_ne n]; exact z3, z4⟩
  · have nc : c ≠ D := ne_of_none q h1
    rw [upd_ne nc]; exact s.ext.h c u q dc n
  · have nc : c ≠ D := ne_of_none q h1
    rw [upd_ne nc]; exact s.ext.d c u q
theorem tLc_of {fi : FnL} {t : Tg} {g : TG} {fc fe : Fn} {vs : List Nat} (ht : TgOk W.K t g) (hv : ∀ i ∈ tgSlots t, i ∈ vs) (σ : St) (H : Hp) (Q : VK) (h : tF W (fLc fi t fc fe vs) σ H Q) : tLc (tI W fi) g (tT W.calm fc) (tE W.calm fe) vs σ H Q := by
  obtain ⟨ρ, g0, dr, ad, G, S, h⟩ := h
  refine seqI S poF h fun J H1 ds g1 G1 S1 x1 o h1 => ?_
  intro D hD
  obtain ⟨C, Y, w, hC, hY⟩ := o
  have dD : dr ≠ some D := dr_new S1.gi hD
  have L0 : LcS W dr D G1 H1 G1 (upd H1 D (.lst [])) [] g1 := ⟨S1.gi.new hD, Ext.new hD, ⟨[], upd_same, .nil⟩, none_sub S1.gi.sub hD⟩
  refine lc_it w (Qd := Q (.ref D)) (fun i H => ∃ G g acc, LcS W dr D G1 H1 G H acc g ∧ okF W dr G1 H1 (lcF t fc fe vs ρ (ds.drop i) acc g) Q) ⟨G1, g1, [], L0, h1⟩ (fun i H _ ⟨G, g, acc, L, _⟩ => hC G H L.ext.g L.gi.sub) ?_ ?_
  · rintro i x H2 H' hlt ⟨G2, g2, acc, L, hl⟩ y
    obtain ⟨G3, d, gi, xe, hd, rd⟩ := hY i G2 H2 x H' g2 hlt L.gi L.ext.g y
    have hdrop : ds.drop i = d :: ds.drop (i + 1) := by
      rw [List.drop_eq_getElem_cons hlt]
      congr 1
      have := List.getElem?_eq_getElem hlt
      rw [hd] at this
      exact (Option.some.inj this).symm
    rw [hdrop] at hl
    have L3 := L.ofExt dD xe gi
    simp only [lcF] at hl
    cases eb : bindT t d with
    | none => simp only [eb] at hl; exact hl.elim
    | some l =>
      simp only [eb] at hl
      obtain ⟨ws, r2, k⟩ := ht G3 H' x d l gi.sub rd eb
      have SW : SR W (wipeE ρ vs) g2 dr ad (L2.wipe σ vs) G3 H' := ((S1.ext L3.ext gi).wipe vs)
      obtain ⟨ad', S5⟩ := SW.setAll r2
      refine k _ _ ⟨?_, ?_⟩
      · have hs := bindT_slots t d l eb
        rw [wipe_setV (fun j hj => hv j (by rw [← hs]; exact hj)), wipe_wipe _ _ _ fun v hv => hv]
      · refine calmT S5 (P := fun r => okF W dr G1 H1 r Q) (fun hb => hb) hl (fun x g n => ?_) fun b H4 g3 G4 S6 x6 hl => ?_
        · cases x <;> first | rfl | exact absurd rfl (n _)
        · have L4 := L3.ofExt dD x6 S6.gi
          cases b with
          | false =>
            rw [if_neg Bool.false_ne_true]
            exact ⟨G4, g3, acc, L4, hl⟩
          | true =>
            rw [if_pos rfl]
            refine calmE S6 (P := fun r => okF W dr G1 H1 r Q) (fun hb => hb) hl fun v H5 y g5 G5 S7 x7 r7 hl => ?_
            by_cases c : acc.length < sizeLine
            · rw [if_pos c] at hl
              obtain ⟨ws', w1, w2, L6⟩ := (L4.ofExt dD x7 S7.gi).push dD hD r7
              exact ⟨ws', w1, by omega, G5, g5, _, L6, hl⟩
            · rw [if_neg c] at hl; exact hl.elim
  · rintro H2 ⟨G2, g2, acc, L, hl⟩
    rw [List.drop_length] at hl
    have hl : okF W dr G1 H1 (.ok (.list acc) g2) Q := hl
    obtain ⟨ws, o1, o2⟩ := L.own
    exact hl D G2 H2 L.gi L.ext hD L.gn dD ⟨ws, o1, o2⟩
/-- what is made here, a list, told at once: the reading alone -/
theorem tell_lst {fa : Fn} {σ : St} {H : Hp} {Q : VK} (h : tE W (fLstO fa) σ H Q) : tF W fa σ H Q := by
  obtain ⟨ρ, g, dr, ad, G, S, h⟩ := h
  refine ⟨ρ, g, dr, ad, G, S, ?_⟩
  unfold fLstO at h
  cases e : fa ρ g with
  | ok d g1 =>
    rw [e] at h
    intro l G' H' i x n1 n2 n3 o
    cases d with
    | list ds =>
      obtain ⟨vs, h1, r1⟩ := o
      have h : okE W dr G H (.ok (.list ds) g1) Q := h
      refine h _ (upd G' l (.lst vs)) H' (i.freeze h1 n2 n3) ?_ (.lst upd_same (r1.mono (sub_new n2)))
      refine ⟨fun c u e => sub_new n2 _ _ (x.g c u e), x.h, fun c u e y m q => ?_, x.d⟩
      have ne : c ≠ l := fun z => by rw [z, n1] at e; cases e
      rw [upd_ne ne]
      exact x.n c u e y m q
    | none | bool | int | str | tuple | dict => exact h.elim
  | bad d g1 => rw [e] at h; exact h
  | no => rw [e] at h; exact h
section
variable {elt tg iter e : Expr} {ifs : List Expr} {scope : Scope} {own : List (Str × Nat)} {pos spos : Pos} {g : TG} {t : Tg} {fi : FnL} {fc fe : Fn}
theorem cf_lc (h : ∀ {wi : TI} {tt : TT} {te : TE}, PI X tg iter wi → (∀ (s : Shared) (H : Hp) (C : Addr) (cl : List (Str × Addr)) (fp : List Addr), PTs (X.blk s H scope (compEnvC scope cl C X.env) fp) ifs tt) →
      (∀ (s : Shared) (H : Hp) (C : Addr) (cl : List (Str × Addr)) (fp : List Addr), PE (X.blk s H scope (compEnvC scope cl C X.env) fp) elt te) → PE X (.ListComp elt [⟨tg, iter, ifs, 0⟩] scope pos) (tLc wi g tt te (own.map (·.2))))
    (ht : TgOk W.K t g) (hv : (tgSlots t).all (fun i => decide (i ∈ own.map (·.2))) = true) (hi : PI X tg iter (tI W fi))
    (hc : ∀ (s : Shared) (H : Hp) (C : Addr) (cl : List (Str × Addr)) (fp : List Addr), PTs (X.blk s H scope (compEnvC scope cl C X.env) fp) ifs (tT W.calm fc))
    (he : ∀ (s : Shared) (H : Hp) (C : Addr) (cl : List (Str × Addr)) (fp : List Addr), PE (X.blk s H scope (compEnvC scope cl C X.env) fp) elt (tE W.calm fe)) :
    PE X (.ListComp elt [⟨tg, iter, ifs, 0⟩] scope pos) (tF W (fLc fi t fc fe (own.map (·.2)))) := by
  refine PE.imp (h hi hc he) (tLc_of ht fun i hi => ?_)
  simp only [List.all_eq_true, decide_eq_true_eq] at hv
  exact hv i hi
theorem asgO_of {i : Nat} {fa : Fn} (D : Ends) (σ : St) (H : Hp) (h : tS W (fSetO i fa) D σ H) : tAsg (tF W fa) (gName i) D σ H := by
  obtain ⟨ρ, g, dr, ad, G, G0, H0, S, h⟩ := h
  refine seqF S.sr poS (P := pS W dr G0 H0 D) ⟨S.ext, h⟩ fun a H1 d g1 G1 S1 x1 n1 n2 n3 o h1 => ?_
  have S2 : SB W ρ g1 dr ad σ G0 H0 G1 H1 := S.next x1 S1.gi
  exact h1.2 _ _ G1 H1 (S2.set i (.ow d) (.ref a) a ⟨rfl, n2, n3, o⟩ fun d _ => ⟨S.ext.fresh0 n1, fun j e _ hj => S.sr.fresh n1 j e hj⟩)
theorem asgE_of {i : Nat} {fa : Fn} (D : Ends) (σ : St) (H : Hp) (h : tS W (fSet i fa) D σ H) : tAsg (tE W fa) (gName i) D σ H := by
  obtain ⟨ρ, g, dr, ad, G, G0, H0, S, h⟩ := h
  refine seqE S.sr poS (P := pS W dr G0 H0 D) ⟨S.ext, h⟩ fun v H1 d g1 G1 S1 x1 r1 h1 => ?_
  have S2 : SB W ρ g1 dr ad σ G0 H0 G1 H1 := S.next x1 S1.gi
  exact h1.2 _ _ G1 H1 (S2.set i (.sh d) v 0 ⟨v, rfl, r1⟩ fun d z => by cases z)
/-- x = [..], one's own -/
theorem cs_setLcO {i : Nat} {y : Str} {py : Pos} (h : ∀ {wi : TI} {tt : TT} {te : TE}, PI X tg iter wi → (∀ (s : Shared) (H : Hp) (C : Addr) (cl : List (Str × Addr)) (fp : List Addr), PTs (X.blk s H scope (compEnvC scope cl C X.env) fp) ifs tt) →
      (∀ (s : Shared) (H : Hp) (C : Addr) (cl : List (Str × Addr)) (fp : List Addr), PE (X.blk s H scope (compEnvC scope cl C X.env) fp) elt te) → PS X (.Assign [.Name y py] (.ListComp elt [⟨tg, iter, ifs, 0⟩] scope pos) spos) (tAsg (tLc wi g tt te (own.map (·.2))) (gName i)))
    (ht : TgOk W.K t g) (hv : (tgSlots t).all (fun i => decide (i ∈ own.map (·.2))) = true) (hi : PI X tg iter (tI W fi))
    (hc : ∀ (s : Shared) (H : Hp) (C : Addr) (cl : List (Str × Addr)) (fp : List Addr), PTs (X.blk s H scope (compEnvC scope cl C X.env) fp) ifs (tT W.calm fc))
    (he : ∀ (s : Shared) (H : Hp) (C : Addr) (cl : List (Str × Addr)) (fp : List Addr), PE (X.blk s H scope (compEnvC scope cl C X.env) fp) elt (tE W.calm fe)) :
    PS X (.Assign [.Name y py] (.ListComp elt [⟨tg, iter, ifs, 0⟩] scope pos) spos) (tS W (fSetO i (fLc fi t fc fe (own.map (·.2))))) := by
  refine PS.imp (h hi hc he) fun D σ H q => ?_
  refine tLc_of ht (fun i hi => ?_) σ H _ (asgO_of D σ H q)
  simp only [List.all_eq_true, decide_eq_true_eq] at hv
  exact hv i hi
/-- x = [..], told -/
theorem cs_setLc {i : Nat} {y : Str} {py : Pos} (h : ∀ {wi : TI} {tt : TT} {te : TE}, PI X tg iter wi → (∀ (s : Shared) (H : Hp) (C : Addr) (cl : List (Str × Addr)) (fp : List Addr), PTs (X.blk s H scope (compEnvC scope cl C X.env) fp) ifs tt) →
      (∀ (s : Shared) (H : Hp) (C : Addr) (cl : List (Str × Addr)) (fp : List Addr), PE (X.blk s H scope (compEnvC scope cl C X.env) fp) elt te) → PS X (.Assign [.Name y py] (.ListComp elt [⟨tg, iter, ifs, 0⟩] scope pos) spos) (tAsg (tLc wi g tt te (own.map (·.2))) (gName i)))
    (ht : TgOk W.K t g) (hv : (tgSlots t).all (fun i => decide (i ∈ own.map (·.2))) = true) (hi : PI X tg iter (tI W fi))
    (hc : ∀ (s : Shared) (H : Hp) (C : Addr) (cl : List (Str × Addr)) (fp : List Addr), PTs (X.blk s H scope (compEnvC scope cl C X.env) fp) ifs (tT W.calm fc))
    (he : ∀ (s : Shared) (H : Hp) (C : Addr) (cl : List (Str × Addr)) (fp : List Addr), PE (X.blk s H scope (compEnvC scope cl C X.env) fp) elt (tE W.calm fe)) :
    PS X (.Assign [.Name y py] (.ListComp elt [⟨tg, iter, ifs, 0⟩] scope pos) spos) (tS W (fSet i (fLstO (fLc fi t fc fe (own.map (·.2)))))) := by
  refine PS.imp (h hi hc he) fun D σ H q => ?_
  refine tLc_of ht (fun i hi => ?_) σ H _ (tell_lst (asgE_of D σ H q))
  simp only [List.all_eq_true, decide_eq_true_eq] at hv
  exact hv i hi
end
end
end PL
end L2
set_option Elab.async false
set_option linter.all false
set_option maxRecDepth 100000
/-! PL 16: comprehensions of dicts, keys of either kind. -/
namespace L2
namespace PL
open PySem PySem.Spec PyProof.Rows

/-- a comprehension's store of any key -/
theorem put_set {X : Cx} {pins : List (Addr × Obj)} {σ : St} {H H' : Hp} {s : Shared} {E : Value → Shared → Prop} {D : Addr} {y v : V} {u r : Value} {Q : Unit → Shared → Prop} (hu : X.A.units + 1 < cLine) (I : Inv X pins σ H s) (p : DPutX H D y v H') (ry : RelV y u) (rv : RelV v r)
    (h : ∀ s', Inv X pins σ H' s' → Q () s') : wpAny (model X.prog X.w) X.A (dictSet D u r) Q E s := by
  have base : ∀ {H : Hp} {s : Shared}, Inv X pins σ H s → DPut H D y v H' → wpAny (model X.prog X.w) X.A (dictSet D u r) Q E s := by
    intro H s I p
    rcases p with ⟨kvs, k, hD, rfl, hz, rfl⟩ | ⟨kvs, k, b, hD, rfl, hb, hz, rfl⟩
    · exact d_dictSet I hD hz ry rv h
    · cases (show u = Value.ref b from ry)
      obtain ⟨z, hd, xs, rel, dd⟩ := dt_of I.hok hD
      have hx : xs.length ≤ sizeLine := (Paired.length rel) ▸ z
      refine wpAny_dictSet_heap (hsz := hx) (show X.A.units < cLine by omega) (key_of I.hok hb) dd fun h' dd' sb => h _ ?_
      obtain ⟨q, es, ep, hq, e2, e3, e4, _, e5⟩ := dd'
      have nw := rel.put k hb rv
      exact d_write I (by rw [hD]; trivial) sb ⟨q, hq⟩ ⟨by have := length_putK kvs k v; omega, hd, _, nw.keeps fun c ys ec => (upd_ne (ne_of ec hD (fun z => nomatch z))).trans ec, q, es, ep, hq, e2, e3, e4, e5⟩
  rcases p with p | ⟨hD, p⟩
  · exact base I p
  · exact base (retagT I hD) p
/-- {k: v for target in iter if ..}: D the new dict -/
def tDcX (wi : TI) (g : TG) (tt : TT) (tk tv : TE) (vs : List Nat) : TE := fun σ H Q => wi σ H fun J H1 => ∀ D, H1 D = none → ∃ Wv : Nat → Nat → Hp → Prop, (∃ m, Wv 0 m (upd H1 D (.dK []))) ∧ ∀ i m H, Wv i m H →
  (J.stop i H ∧ Q (.ref D) H) ∨ (J.go i H ∧ ∃ Nx : Hp → Prop, (∀ H', Nx H' → ∃ m', m' < m ∧ Wv (i + 1) m' H') ∧ ∀ x H', J.yld i H x H' → g x (wipe σ vs) H' fun σ2 H2 => wipe σ2 vs = wipe σ vs ∧ tt σ2 H2 fun b H3 =>
    if b = true then tk σ2 H3 fun y H4 => tv σ2 H4 fun z H5 => ∃ H6, DPutX H5 D y z H6 ∧ Nx H6 else Nx H3)
section
variable {X : Cx} {W : Wd} {kx vx tg iter : Expr} {ifs : List Expr} {scope : Scope} {own : List (Str × Nat)}
theorem dcX_run {pins : List (Addr × Obj)} {s : Shared} {σ : St} {H : Hp} {Q : VK} {pos pos' : Pos} {wi : TI} {g : TG} {tt : TT} {tk tv : TE} {use : Option (Value → Sem Unit)} {Qf : Value → Shared → Prop} (hu : X.A.units + 1 < cLine) (hc : X.calm = true) (hN : X.N.Nodup) (I : Inv X pins σ H s) (hi : PI X tg iter wi) (ok : BlkOk X.N X.env.scope scope own)
    (hg : ∀ s H C cl fp, PG (X.blk s H scope (compEnvC scope cl C X.env) fp) tg g) (ht : ∀ s H C cl fp, PTs (X.blk s H scope (compEnvC scope cl C X.env) fp) ifs tt)
    (hk : ∀ s H C cl fp, PE (X.blk s H scope (compEnvC scope cl C X.env) fp) kx tk) (he : ∀ s H C cl fp, PE (X.blk s H scope (compEnvC scope cl C X.env) fp) vx tv) (hs : ∀ x, foldedSetIterable iter X.env x = pure x) (h : tDcX wi g tt tk tv (own.map (·.2)) σ H Q)
    (fin : ∀ D C s' m H', Inv X pins σ H' s' → Q (.ref D) H' → s'.heap.Ns C m → FpOk X pins H' C → compPost (model X.prog X.w) X.A X.xe use Qf (.ref D) C (.ok .next) s') :
    wpAny (model X.prog X.w) X.A (comprehension (.DictComp kx vx [⟨tg, iter, ifs, 0⟩] scope pos) scope X.env pos' newDict false (eval iter X.env) use) Qf X.xe s := by
  have free : ∀ y ∈ scope.names, y.2 = .free → ∃ c, X.env.cells.lookup y.1 = some c := fun y hy e => (ok.free y hy e).elim (fun k => I.ok.has _ (.inl k)) (fun k => I.ok.has _ (.inr k))
  refine wpAny_comprehension_free (use := use) rfl hs (closure_ok free) ok.kind (fun y hy e => (ok.uniq y hy).trans (by rw [e])) (thn (hi.run pins s σ H _ I h) fun xv s1 hx => thn hx fun itv s2 got => ?_)
  obtain ⟨it, fp, tn, J, H2, rfl, I2, T, st2, ok2, q⟩ := got
  refine wpAny_newObj_type (newEnv_comp ?_)
  obtain ⟨D, eD⟩ : ∃ D, s2.heap.objs.size = D := ⟨_, rfl⟩
  rw [eD]
  obtain ⟨Wv, ⟨m0, w0⟩, turn⟩ := q D (I2.hok.fresh (Nat.le_of_eq eD))
  obtain ⟨s3, e3⟩ : ∃ s3 : Shared, { s2 with heap := s2.heap.push { cls := .type "dict", data := .dict #[] } } = s3 := ⟨_, rfl⟩
  rw [e3]
  have hp3 : s3.heap = s2.heap.push { cls := .type "dict", data := .dict #[] } := by rw [← e3]
  have I3 : Inv X pins σ (upd H2 D (.dK [])) s3 := by
    rw [← e3]
    exact I2.laid (t' := s2.toks) (fun b o e => Heap.get?_push_of_some _ e) (Nat.le_of_eq eD) (by rw [← eD]; exact dk_empty s2.heap I2.big)
  have there : ∀ b ∈ fp, b < s2.heap.objs.size := fun b hb => let ⟨o, e, _⟩ := T.obj _ _ st2 b hb; Heap.lt_size e
  have ok3 : ∀ b ∈ fp, FpOk X pins (upd H2 D (.dK [])) b ∧ b < s3.heap.objs.size := fun b hb =>
    ⟨⟨(upd_ne (by rw [← eD]; exact Nat.ne_of_lt (there b hb))).trans (ok2 b hb).1, (ok2 b hb).2⟩, by rw [hp3, Heap.size_push]; exact Nat.lt_succ_of_lt (there b hb)⟩
  have st3 : tn 0 s3.heap := T.keep _ _ _ st2 fun b _ o e => by rw [hp3]; exact Heap.get?_push_of_some _ e
  obtain ⟨cl, ecl⟩ : ∃ cl, cellsFrom (s3.heap.objs.size + 1) scope.names (cloFrom X.env.cells scope.names []) = cl := ⟨_, rfl⟩
  have I4 := block_start I3 ok hN ok3
  rw [ecl] at I4
  have pg := hg s3 (upd H2 D (.dK [])) s3.heap.objs.size cl fp
  have pt := ht s3 (upd H2 D (.dK [])) s3.heap.objs.size cl fp
  have pk := hk s3 (upd H2 D (.dK [])) s3.heap.objs.size cl fp
  have pv := he s3 (upd H2 D (.dK [])) s3.heap.objs.size cl fp
  rw [ecl]
  obtain ⟨ce, ece⟩ : ∃ ce, compEnvC scope cl s3.heap.objs.size X.env = ce := ⟨_, rfl⟩
  have cL : ce.locals = s3.heap.objs.size := by rw [← ece]; rfl
  rw [ece] at I4 pg pt pk pv
  show codeAny _ _ (.compStart (.DictComp kx vx [⟨tg, iter, ifs, 0⟩] scope pos) 0 (.ref it) (.ref D) (compEnvC scope cl s3.heap.objs.size X.env)) (compPost (model X.prog X.w) X.A X.xe use Qf (.ref D) s3.heap.objs.size) { s3 with heap := pushCells (s3.heap.push { cls := .type "dict", data := .dict #[] }) scope.names }
  rw [ece]
  have none3 : ∀ b ∈ fp, (upd H2 D (.dK [])) b = none := fun b hb => (ok3 b hb).1.1
  generalize upd H2 D (.dK []) = H3 at I3 I4 pg pt pk pv w0 none3 ok3
  obtain ⟨s4, e4⟩ : ∃ s4 : Shared, { s3 with heap := pushCells (s3.heap.push { cls := .type "dict", data := .dict #[] }) scope.names } = s4 := ⟨_, rfl⟩
  rw [e4] at I4 ⊢
  have st4 : tn 0 s4.heap := T.keep _ _ _ st3 fun b _ o e => by rw [← e4]; exact pushCells_keeps _ _ _ _ (Heap.get?_push_of_some _ e)
  have still : ∀ {σ' : St} {H' : Hp} {s' : Shared}, Inv (X.blk s3 H3 scope ce fp) [] σ' H' s' → (∀ b ∈ fp, H' b = none) → ∀ b ∈ fp, FpOk (X.blk s3 H3 scope ce fp) [] H' b := fun I' hn b hb =>
    ⟨hn b hb, (I'.ok.exf b hb).1, I'.ok.exfs b hb, .inl hb, (I'.ok.exf b hb).2, fun p hp => by cases hp⟩
  have loop : codeAny (model X.prog X.w) X.A (.compLoop (.DictComp kx vx [⟨tg, iter, ifs, 0⟩] scope pos) 0 (.ref it) (.ref D) ce) (compPost (model X.prog X.w) X.A X.xe use Qf (.ref D) s3.heap.objs.size) s4 := by
    refine compLoop_anyD (fun n s' => ∃ i H', Inv (X.blk s3 H3 scope ce fp) [] (wipe σ (own.map (·.2))) H' s' ∧ tn i s'.heap ∧ (∀ b ∈ fp, H' b = none) ∧ Wv i n H') ?_ m0 ⟨0, H3, I4, st4, none3, w0⟩
    rintro n s5 ⟨i, H5, I5, st5, n5, w5⟩
    rcases turn i n H5 w5 with ⟨stop, q5⟩ | ⟨go, Nx, hNx, step⟩
    · refine thnF (T.done (X.blk s3 H3 scope ce fp) rfl rfl rfl hc i [] s5 _ H5 (fun _ _ => False) I5 (still I5 n5) st5 stop) fun r s6 ⟨hr, I6⟩ => ?_
      subst hr
      have out : Inv X pins σ H5 s6 := I3.call' (ch := fp) I6.os I6.base I6.hok I6.bare fun b hb => let ⟨_, z2, _, z4, z5, z6⟩ := (ok3 b hb).1; ⟨z4, z2, z5, z6⟩
      have nC : H5 ce.locals = none := I6.free
      obtain ⟨m, hn, _⟩ := I6.loc
      have hn : s6.heap.Ns ce.locals m := hn
      rw [cL] at hn nC
      exact fin D s3.heap.objs.size s6 m H5 out q5 hn (I3.fpOk (Nat.le_refl _) nC)
    · refine thnF (T.item (X.blk s3 H3 scope ce fp) rfl rfl rfl hc i [] s5 _ H5 (fun _ _ => False) I5 (still I5 n5) st5 go) fun r s6 ⟨u, hr, h6⟩ => ?_
      subst hr
      refine thnF h6 fun _ s7 ⟨x, H7, I7, r7, y7, st7, n7⟩ => ?_
      refine thnF (pg.run _ s7 _ H7 x u _ (I7.pinned (still I7 n7) (T.obj _ _ st7)) r7 (step x H7 y7)) fun _ s8 ⟨σ8, H8, I8, wp8, q8⟩ => ?_
      have close : ∀ {s' : Shared} {H' : Hp}, Inv (X.blk s3 H3 scope ce fp) ([] ++ pinsAt fp s7.heap) σ8 H' s' → Nx H' → ∃ m, m < n ∧ ∃ i H', Inv (X.blk s3 H3 scope ce fp) [] (wipe σ (own.map (·.2))) H' s' ∧ tn i s'.heap ∧ (∀ b ∈ fp, H' b = none) ∧ Wv i m H' := fun I' nx => by
        obtain ⟨m', hm, w'⟩ := hNx _ nx
        have held : ∀ b ∈ fp, ∀ o, s7.heap.get? b = some o → _ ∧ _ := fun b hb o e => let z := I'.pin (b, o) (List.mem_append_right _ (List.mem_append_right _ (mem_pinsAt hb e))); ⟨z.1, z.2.1⟩
        refine ⟨m', hm, i + 1, _, (I'.unpinned (pins := [])).weak (by rw [← wp8, wipe_length]) (fun j v e => (wipe_some (by rw [← wp8] at e; exact e)).1), T.keep _ _ _ st7 fun b hb o e => (held b hb o e).1, fun b hb => ?_, w'⟩
        obtain ⟨o, e, _⟩ := T.obj _ _ st7 b hb
        exact (held b hb o e).2
      refine thnF (pt.run _ s8 σ8 H8 _ I8 q8) fun b s9 ⟨H9, I9, q9⟩ => ?_
      cases b with
      | false =>
        rw [if_neg Bool.false_ne_true] at q9
        rw [if_neg Bool.false_ne_true]
        exact close I9 q9
      | true =>
        rw [if_pos rfl] at q9
        rw [if_pos rfl]
        refine thnF (pk.run _ s9 σ8 H9 _ I9 q9) fun kv s10 ⟨yk, H10, I10, r10, q10⟩ => ?_
        refine thnF (pv.run _ s10 σ8 H10 _ I10 q10) fun vv s11 ⟨yv, H11, I11, r11, H12, pp, nx⟩ => ?_
        exact put_set (X := X.blk s3 H3 scope ce fp) hu I11 pp r10 r11 fun s12 I12 => close I12 nx
  exact codeAny_compStart_dict loop (T.self X.A 0 _ _ _ st4 loop)
/-- as a value -/
theorem pe_dcX {pos : Pos} {wi : TI} {g : TG} {tt : TT} {tk tv : TE} (hu : X.A.units + 1 < cLine) (hc : X.calm = true) (hN : X.N.Nodup) (ok : BlkOk X.N X.env.scope scope own) (hg : ∀ s H C cl fp, PG (X.blk s H scope (compEnvC scope cl C X.env) fp) tg g) (hs : ∀ x, foldedSetIterable iter X.env x = pure x)
    (hi : PI X tg iter wi) (ht : ∀ s H C cl fp, PTs (X.blk s H scope (compEnvC scope cl C X.env) fp) ifs tt) (hk : ∀ s H C cl fp, PE (X.blk s H scope (compEnvC scope cl C X.env) fp) kx tk) (he : ∀ s H C cl fp, PE (X.blk s H scope (compEnvC scope cl C X.env) fp) vx tv) :
    PE X (.DictComp kx vx [⟨tg, iter, ifs, 0⟩] scope pos) (tDcX wi g tt tk tv (own.map (·.2))) := by
  refine ⟨fun pins s σ H Q I h => ?_⟩
  rw [arm_eval_DictComp]
  refine dcX_run hu hc hN I hi ok hg ht hk he hs h fun D C s' m H' I' q hn ⟨f0, f1, f2, f3, f4, f5⟩ => ⟨m, hn, fun h'' sb => ?_⟩
  exact ⟨.ref D, H', I'.turned (t' := s'.toks) (fun b o hb e => (sb.2 b hb).trans e) f0 f1 f3 f4 f5, rfl, q⟩
/-- name = {..} on one line, the name a local -/
theorem ps_setDcX {i : Nat} {y : Str} {py pos spos : Pos} {wi : TI} {g : TG} {tt : TT} {tk tv : TE} (hu : X.A.units + 1 < cLine) (hc : X.calm = true) (hN : X.N.Nodup) (hy : X.N[i]? = some y) (hyl : X.env.scope.names.lookup y = some .local)
    (hsw : swapsWith (.DictComp kx vx [⟨tg, iter, ifs, 0⟩] scope pos) (some (.Name y py)) spos.line X.env = pure true) (ok : BlkOk X.N X.env.scope scope own) (hg : ∀ s H C cl fp, PG (X.blk s H scope (compEnvC scope cl C X.env) fp) tg g) (hs : ∀ x, foldedSetIterable iter X.env x = pure x)
    (hi : PI X tg iter wi) (ht : ∀ s H C cl fp, PTs (X.blk s H scope (compEnvC scope cl C X.env) fp) ifs tt) (hk : ∀ s H C cl fp, PE (X.blk s H scope (compEnvC scope cl C X.env) fp) kx tk) (he : ∀ s H C cl fp, PE (X.blk s H scope (compEnvC scope cl C X.env) fp) vx tv) :
    PS X (.Assign [.Name y py] (.DictComp kx vx [⟨tg, iter, ifs, 0⟩] scope pos) spos) (tAsg (tDcX wi g tt tk tv (own.map (·.2))) (gName i)) := by
  refine ⟨fun pins s σ H D I h => ?_⟩
  rw [exec_Assign_Name_used _ _ _ _ hsw]
  refine wpAny_bind (wpAny_standAt (wpAny_bind ?_))
  show wpAny _ X.A (do let _ ← comprehension (.DictComp kx vx [⟨tg, iter, ifs, 0⟩] scope pos) scope X.env (firstIterPos [⟨tg, iter, ifs, 0⟩] pos) newDict false (eval iter X.env) (some (assign (.Name y py) X.env))) _ _ s
  have h : tDcX wi g tt tk tv (own.map (·.2)) σ H (fun x H1 => gName i x σ H1 D.nx) := h
  refine wpAny_bind (thn (dcX_run (Qf := fun _ s' => SP X pins D .next s') hu hc hN I hi ok hg ht hk he hs h fun L C s' m H' I' q hn ⟨f0, f1, f2, f3, f4, f5⟩ => ?_) fun _ s' hq => wpAny_pure (wpAny_pure hq))
  show wpAny _ _ (assign (.Name y py) X.env (.ref L)) _ _ _
  refine wpAny_assign_Name (store_ok2 (v := V.ref L) I' hN hy (.inl hyl) rfl (fun s2 I2 ⟨a, sb, ha⟩ => ?_) (.inr hyl))
  have away : C ≠ a := ha.elim (fun z => by rw [z]; exact f1) (fun z e => f4 y a z e.symm)
  exact ⟨m, hn.sameBut sb away, fun h3 sb3 => ⟨_, H', I2.turned (t' := s2.toks) (fun b o hb e => (sb3.2 b hb).trans e) f0 f1 f3 f4 f5, q⟩⟩
theorem sw_trueD {pos py : Pos} {y : Str} {l : Nat} {env : PySem.Env} {gs : List Comprehension} (hk : env.scope.kind = .function) (hy : env.scope.names.lookup y = some .local) (hl : (py.line == pos.line) = true)
    (ha : (scope.names.any fun (n, k) => n == y && (k == .local || k == .cell)) = false) : swapsWith (.DictComp kx vx gs scope pos) (some (.Name y py)) l env = pure true := by
  have ky : env.kindOf y = some .local := hy
  have hb : env.blockKind = .function := by unfold PySem.Env.blockKind; rw [hk]; rfl
  unfold swapsWith
  simp only [hb, ky, ha, Expr.pos, hl]
  rfl

/-! ### what it means -/
def dcF (t : Tg) (fc fk fv : Fn) (vs : List Nat) (ρ : PL.Env) : List PyData → List (PyData × PyData) → Gs → Res PyData
  | [], acc, g => .ok (.dict acc) g
  | d :: ds, acc, g => match bindT t d with
    | none => .no
    | some l => (fc (setE (wipeE ρ vs) l) g).calm.bind fun b g1 => match b with
      | .bool true => (fk (setE (wipeE ρ vs) l) g1).calm.bind fun k g2 => (fv (setE (wipeE ρ vs) l) g2).calm.bind fun v g3 => if putOk acc k then dcF t fc fk fv vs ρ ds (putD acc k v) g3 else .no
      | .bool false => dcF t fc fk fv vs ρ ds acc g1
      | _ => .no
def fDc (fi : FnL) (t : Tg) (fc fk fv : Fn) (vs : List Nat) : Fn := fun ρ g => (fi ρ g).bind fun ds g1 => dcF t fc fk fv vs ρ ds [] g1
/-- the state while a dict at D is being made -/
structure DcS (W : Wd) (dr : Option Addr) (D : Addr) (G1 H1 G H : Hp) (acc : List (PyData × PyData)) (g : Gs) : Prop where
  gi : GI W g dr G H
  ext : Ext dr G1 H1 G H
  own : OwAt W.K G H D (.dict acc)
  gn : G D = none
theorem DcS.ofExt {dr : Option Addr} {D : Addr} {G1 H1 G H G' H' : Hp} {acc : List (PyData × PyData)} {g g' : Gs} (d : dr ≠ some D) (s : DcS W dr D G1 H1 G H acc g) (e : Ext dr G H G' H') (i : GI W g' dr G' H') : DcS W dr D G1 H1 G' H' acc g' := by
  obtain ⟨u, hu, hm⟩ := s.own.there
  exact ⟨i, s.ext.trans e, s.own.mono e.g fun o ho n => e.h _ _ ho d n, e.n _ _ hu d hm s.gn⟩
theorem DcS.put {dr : Option Addr} {D : Addr} {G1 H1 G H : Hp} {acc : List (PyData × PyData)} {g : Gs} {w v : V} {k y : PyData} (d : dr ≠ some D) (h1 : H1 D = none) (s : DcS W dr D G1 H1 G H acc g) (rk : Rp W.K H w k) (r : Rp W.K G v y) (ok : putOk acc k = true) :
    ∃ H', DPutX H D w v H' ∧ DcS W dr D G1 H1 G H' (putD acc k y) g := by
  obtain ⟨u0, hu0, hm0⟩ := s.own.there
  obtain ⟨u, o, m, H', p, rfl⟩ := dput_ow s.gi.sub s.gn s.own rk r ok
  refine ⟨_, p, ⟨fun c z q => ?_, s.gi.imm, ?_, tabs_upd s.gi.tabs hu0 hm0⟩, ⟨s.ext.g, fun c z q dc n => ?_, s.ext.n, fun c z q => ?_⟩, o, s.gn⟩
  · have n : c ≠ D := fun e => by rw [e, s.gn] at q; cases q
    rw [upd_ne n]; exact s.gi.sub c z q
  · have z := s.gi.draw
    cases g with
    | none => exact z
    | some q =>
      obtain ⟨x, v, z1, z2, z3, z4⟩ := z
      have n : x ≠ D := fun e => d (by rw [z1, e])
      exact ⟨x, v, z1, z2, by rw [upd_ne n]; exact z3, z4⟩
  · have nc : c ≠ D := ne_of_none q h1
    rw [upd_ne nc]; exact s.ext.h c z q dc n
  · have nc : c ≠ D := ne_of_none q h1
    rw [upd_ne nc]; exact s.ext.d c z q
theorem tDcX_of {fi : FnL} {t : Tg} {g : TG} {fc fk fv : Fn} {vs : List Nat} (ht : TgOk W.K t g) (hv : ∀ i ∈ tgSlots t, i ∈ vs) (σ : St) (H : Hp) (Q : VK) (h : tF W (fDc fi t fc fk fv vs) σ H Q) : tDcX (tI W fi) g (tT W.calm fc) (tE W.calm fk) (tE W.calm fv) vs σ H Q := by
  obtain ⟨ρ, g0, dr, ad, G, S, h⟩ := h
  refine seqI S poF h fun J H1 ds g1 G1 S1 x1 o h1 => ?_
  intro D hD
  obtain ⟨C, Y, w, hC, hY⟩ := o
  have dD : dr ≠ some D := dr_new S1.gi hD
  have L0 : DcS W dr D G1 H1 G1 (upd H1 D (.dK [])) [] g1 := ⟨S1.gi.new hD, Ext.new hD, .inl ⟨[], upd_same, .nil, rfl⟩, none_sub S1.gi.sub hD⟩
  refine ⟨fun i m H => m = ds.length - i ∧ i ≤ ds.length ∧ ∃ G g acc, DcS W dr D G1 H1 G H acc g ∧ okF W dr G1 H1 (dcF t fc fk fv vs ρ (ds.drop i) acc g) Q, ⟨ds.length, by simp, Nat.zero_le _, G1, g1, [], L0, h1⟩, ?_⟩
  rintro i m H2 ⟨rfl, hi, G2, g2, acc, L, hl⟩
  have hG := hC G2 H2 L.ext.g L.gi.sub
  by_cases hlt : i < ds.length
  · refine .inr ⟨w.goes i H2 hlt hG, fun H' => ∃ G g acc, DcS W dr D G1 H1 G H' acc g ∧ okF W dr G1 H1 (dcF t fc fk fv vs ρ (ds.drop (i + 1)) acc g) Q, fun H' p' => ⟨ds.length - (i + 1), by omega, rfl, hlt, p'⟩, fun x H' y => ?_⟩
    obtain ⟨G3, d, gi, xe, hd, rd⟩ := hY i G2 H2 x H' g2 hlt L.gi L.ext.g (w.yields i H2 x H' hlt hG y)
    have hdrop : ds.drop i = d :: ds.drop (i + 1) := by
      rw [List.drop_eq_getElem_cons hlt]
      congr 1
      have := List.getElem?_eq_getElem hlt
      rw [hd] at this
      exact (Option.some.inj this).symm
    rw [hdrop] at hl
    have L3 := L.ofExt dD xe gi
    simp only [dcF] at hl
    cases eb : bindT t d with
    | none => simp only [eb] at hl; exact hl.elim
    | some l =>
      simp only [eb] at hl
      obtain ⟨ws, r2, kk⟩ := ht G3 H' x d l gi.sub rd eb
      have SW : SR W (wipeE ρ vs) g2 dr ad (L2.wipe σ vs) G3 H' := ((S1.ext L3.ext gi).wipe vs)
      obtain ⟨ad', S5⟩ := SW.setAll r2
      refine kk _ _ ⟨?_, ?_⟩
      · have hs := bindT_slots t d l eb
        rw [wipe_setV (fun j hj => hv j (by rw [← hs]; exact hj)), wipe_wipe _ _ _ fun v hv => hv]
      · refine calmT S5 (P := fun r => okF W dr G1 H1 r Q) (fun hb => hb) hl (fun x g n => ?_) fun b H4 g3 G4 S6 x6 hl => ?_
        · cases x <;> first | rfl | exact absurd rfl (n _)
        · have L4 := L3.ofExt dD x6 S6.gi
          cases b with
          | false =>
            rw [if_neg Bool.false_ne_true]
            exact ⟨G4, g3, acc, L4, hl⟩
          | true =>
            rw [if_pos rfl]
            refine calmE S6 (P := fun r => okF W dr G1 H1 r Q) (fun hb => hb) hl fun vk H5 k g5 G5 S7 x7 r7 hl => ?_
            refine calmE S7 (P := fun r => okF W dr G1 H1 r Q) (fun hb => hb) hl fun vv H6 y g6 G6 S8 x8 r8 hl => ?_
            by_cases c : putOk acc k = true
            · rw [if_pos c] at hl
              obtain ⟨H7, p7, L7⟩ := ((L4.ofExt dD x7 S7.gi).ofExt dD x8 S8.gi).put dD hD ((r7.mono x8.g).mono S8.gi.sub) r8 c
              exact ⟨H7, p7, G6, g6, _, L7, hl⟩
            · rw [if_neg c] at hl; exact hl.elim
  · have e : i = ds.length := by omega
    subst e
    rw [List.drop_length] at hl
    exact .inl ⟨w.stops H2 hG, hl D G2 H2 L.gi L.ext hD L.gn dD L.own⟩
theorem cf_dc {pos : Pos} {g : TG} {t : Tg} {fi : FnL} {fc fk fv : Fn} (h : ∀ {wi : TI} {tt : TT} {tk tv : TE}, PI X tg iter wi → (∀ s H C cl fp, PTs (X.blk s H scope (compEnvC scope cl C X.env) fp) ifs tt) → (∀ s H C cl fp, PE (X.blk s H scope (compEnvC scope cl C X.env) fp) kx tk) →
      (∀ s H C cl fp, PE (X.blk s H scope (compEnvC scope cl C X.env) fp) vx tv) → PE X (.DictComp kx vx [⟨tg, iter, ifs, 0⟩] scope pos) (tDcX wi g tt tk tv (own.map (·.2))))
    (ht : TgOk W.K t g) (hv : (tgSlots t).all (fun i => decide (i ∈ own.map (·.2))) = true) (hi : PI X tg iter (tI W fi)) (hc : ∀ s H C cl fp, PTs (X.blk s H scope (compEnvC scope cl C X.env) fp) ifs (tT W.calm fc))
    (hk : ∀ s H C cl fp, PE (X.blk s H scope (compEnvC scope cl C X.env) fp) kx (tE W.calm fk)) (he : ∀ s H C cl fp, PE (X.blk s H scope (compEnvC scope cl C X.env) fp) vx (tE W.calm fv)) :
    PE X (.DictComp kx vx [⟨tg, iter, ifs, 0⟩] scope pos) (tF W (fDc fi t fc fk fv (own.map (·.2)))) := by
  refine PE.imp (h hi hc hk he) (tDcX_of ht fun i hi => ?_)
  simp only [List.all_eq_true, decide_eq_true_eq] at hv
  exact hv i hi
/-- x = {..}, one's own -/
theorem cs_setDcO {i : Nat} {y : Str} {py pos spos : Pos} {g : TG} {t : Tg} {fi : FnL} {fc fk fv : Fn} (h : ∀ {wi : TI} {tt : TT} {tk tv : TE}, PI X tg iter wi → (∀ s H C cl fp, PTs (X.blk s H scope (compEnvC scope cl C X.env) fp) ifs tt) → (∀ s H C cl fp, PE (X.blk s H scope (compEnvC scope cl C X.env) fp) kx tk) →
      (∀ s H C cl fp, PE (X.blk s H scope (compEnvC scope cl C X.env) fp) vx tv) → PS X (.Assign [.Name y py] (.DictComp kx vx [⟨tg, iter, ifs, 0⟩] scope pos) spos) (tAsg (tDcX wi g tt tk tv (own.map (·.2))) (gName i)))
    (ht : TgOk W.K t g) (hv : (tgSlots t).all (fun i => decide (i ∈ own.map (·.2))) = true) (hi : PI X tg iter (tI W fi)) (hc : ∀ s H C cl fp, PTs (X.blk s H scope (compEnvC scope cl C X.env) fp) ifs (tT W.calm fc))
    (hk : ∀ s H C cl fp, PE (X.blk s H scope (compEnvC scope cl C X.env) fp) kx (tE W.calm fk)) (he : ∀ s H C cl fp, PE (X.blk s H scope (compEnvC scope cl C X.env) fp) vx (tE W.calm fv)) :
    PS X (.Assign [.Name y py] (.DictComp kx vx [⟨tg, iter, ifs, 0⟩] scope pos) spos) (tS W (fSetO i (fDc fi t fc fk fv (own.map (·.2))))) := by
  refine PS.imp (h hi hc hk he) fun D σ H q => ?_
  refine tDcX_of ht (fun i hi => ?_) σ H _ (asgO_of D σ H q)
  simp only [List.all_eq_true, decide_eq_true_eq] at hv
  exact hv i hi
end
end PL
end L2
set_option Elab.async false
set_option linter.all false
set_option maxRecDepth 100000
/-! PL 17: defs that are called where no text of a thing is being made (guards), and the end of a law for such. -/
namespace L2
namespace PL
open PySem PySem.Spec PyProof.Rows

/-- a def's promise, where nothing is being shown -/
structure FnG (P : Program) (w : World) (K : PySem.W.Frag) (mg : Str → Option Value) (base : Heap) (k : Nat) (f : Addr) (fd : FuncData) (ps : List Str) (sp : Sp) : Prop where
  len : ∀ vs H Q E, sp vs H Q E → vs.length = ps.length
  run : ∀ (A : Around) (outer : List PySem.Env) (s : Shared) (H : Hp) (args : Args) (us : List Value) (vs : List V) (Q : VK) (E : XK), A.guards = some [] → Room k A → Env0 P w K mg base A outer s H → BindsTo s fd args (ps.zip us) → Vals vs us → sp vs H Q E →
    codeAny (model P w) A (.call (.ref f) args) (CR (L2.CX P w) outer P w H s Q E) s
section
variable {P : Program} {w : World} {K : PySem.W.Frag} {mg : Str → Option Value} {base : Heap} {f : Addr} {fd : FuncData} {ps : List Str} {sp : Sp}
theorem FnG.mono {j k : Nat} (F : FnG P w K mg base j f fd ps sp) (h : j ≤ k) : FnG P w K mg base k f fd ps sp := ⟨F.len, fun A outer s H args us vs Q E hg hr => F.run A outer s H args us vs Q E hg (hr.mono h)⟩
/-- a def by its body -/
theorem fnG_of {x qual : Str} {st : Stmt} {N : List Str} {k : Nat} (F : Fun K x qual st f fd) (S : FnScope N ps (defScope st)) (len : ∀ vs H Q E, sp vs H Q E → vs.length = ps.length)
    (body : ∀ (cdv : Value) (A : Around) (outer : List PySem.Env) (s : Shared) (H : Hp) (vs : List V) (Q : VK) (E : XK), A.guards = some [] → Room k (A.deeper (envOfC qual (defScope st) s.heap.objs.size f cdv)) → PySem.W.codeIn K cdv qual = true → sp vs H Q E →
      ∃ t, PSs (cxOf (L2.CX P w) P w K mg base N qual (defScope st) f cdv A outer s H E) (defBody st) t ∧ t { nx := fun _ H' => Q .non H', rt := Q } (start N vs) H) : FnG P w K mg base (k + 1) f fd ps sp := by
  obtain ⟨oc, od, kV, doc, pm, an, cdv, ct, osl, rfl, lk, hcd⟩ := F.ex
  exact ⟨len, fun A outer s H args us vs Q E hg hr e0 hb r hsp => LamX.run_ofS lk hcd S hr e0 hb r (len _ _ _ _ hsp) fun hr' => body cdv A outer s H vs Q E hg hr' hcd hsp⟩
end
section
variable {X : Cx} {k : Nat} {f : Addr} {fd : FuncData} {ps : List Str} {sp : Sp} {E : XK} {x : Str} {p pos : Pos} {e : Expr} {es : List Expr} {t : TA}
theorem runG {pins : List (Addr × Obj)} {σ : St} {H : Hp} {s : Shared} {Q : VK} {us : List Value} {vs : List V} (F : FnG X.prog X.w X.K X.mg X.base k f fd ps sp) (hg : X.A.guards = some []) (hr : Room k X.A) (hb : Binds X.K fd ps []) (hx : Passes (L2.CX X.prog X.w) X E)
    (I : Inv X pins σ H s) (r : Vals vs us) (h : sp vs H Q E) : wpAny (model X.prog X.w) X.A (call (.ref f) us) (EP X pins σ Q) X.xe s := by
  have bt := hb s us I.kIn (by rw [List.append_nil, ← r.length]; exact F.len _ _ _ _ h)
  rw [List.append_nil] at bt
  refine wpAny_call (codeAny_mono (F.run X.A X.stack s H ⟨us, []⟩ us vs Q E hg hr I.env0 bt r h) fun r s' q => ?_)
  match r, q with
  | .error e, q => exact hx pins σ H s e s' I q
  | .ok (.ret u), q => exact I.after q
def tCallG (sp : Sp) (E : XK) (t : TA) : TE := fun σ H Q => t σ H fun vs H1 => sp vs H1 Q E
theorem pe_callG (F : FnG X.prog X.w X.K X.mg X.base k f fd ps sp) (hgd : X.A.guards = some []) (hr : Room k X.A) (hg : Gl X x) (hm : X.mg x = some (.ref f)) (hk : PySem.W.keepIn X.K (.ref f) = true) (hb : Binds X.K fd ps []) (hx : Passes (L2.CX X.prog X.w) X E)
    (ha : PA X (e :: es) t) (hdb : (x == ("__debug__" : Str)) = false := by decide) (he : starEach (e :: es) X.env = (false, eval e X.env) :: starEach es X.env := by rfl) (hpl : (backTo pos (starEach es X.env)).any (·.1) = false := by rfl) :
    PE X (.Call (.Name x p) (e :: es) [] pos) (tCallG sp E t) :=
  ⟨fun pins s σ H Q I h => wpAny_Call_Name_kw (ld_glob I hg hm (PySem.W.callWith_K (h₀ := X.base) I.ok.mod.kin hk (thn (ha.run pos pins s σ H _ I h) fun us s1 ⟨vs, H1, I1, r, q⟩ => ⟨I1.kIn, runG F hgd hr hb hx I1 r q⟩) he hpl) hdb)⟩
theorem pe_callG0 (F : FnG X.prog X.w X.K X.mg X.base k f fd ps sp) (hgd : X.A.guards = some []) (hr : Room k X.A) (hg : Gl X x) (hm : X.mg x = some (.ref f)) (hk : PySem.W.keepIn X.K (.ref f) = true) (hb : Binds X.K fd ps []) (hx : Passes (L2.CX X.prog X.w) X E)
    (hdb : (x == ("__debug__" : Str)) = false := by decide) : PE X (.Call (.Name x p) [] [] pos) (tCallG sp E tNil) :=
  ⟨fun pins s σ H Q I h => wpAny_Call_Name_kw (ld_glob I hg hm (PySem.W.callWith_K0 I.kIn hk (runG (us := []) F hgd hr hb hx I .nil h)) hdb)⟩
end

/-! ### the end -/
/-- the tracked things at a law's beginning: the script, if it isn't of the written part, and the tables of code objects -/
def beginH (o : Option HO) (a : Addr) (ts : List Addr) : Hp := fun b => if b ∈ ts then some (.tbl #[]) else if b = a then o else none
theorem lawG {P : Program} {w : World} {K : PySem.W.Frag} {mg mb : Str → Option Value} {k : Nat} {fa a : Addr} {cs : List (Addr × Addr)} {fd : FuncData} {x : Str} {sp : Sp} {s₁ : Shared} {vs : List Value} {ns : List Int}
    (KX : K.In s₁.heap) (hns : s₁.heap.Ns mainGlobals mg) (hb : s₁.heap.Ns builtinsNs mb) (hbb : ∀ x : Str, x ≠ "__name__" → mb x = bootBuiltins x) (hlim : s₁.heap.NoLimit) (hg : s₁.gens = #[])
    (hT : ∀ p ∈ cs, s₁.heap.get? p.2 = some { cls := .none, data := .fields #[] }) (nT : ∀ p ∈ cs, K.lookup p.2 = none) (C : ∀ p ∈ cs, PySem.W.CodeHd s₁.heap p.1 p.2)
    (hbm : ∃ (bm : Addr) (ob : Obj), mg "__builtins__" = some (.ref bm) ∧ bm ≠ builtinsNs ∧ s₁.heap.get? bm = some ob ∧ ob.cls = .type "module" ∧ ob.dict = some builtinsNs ∧ ob.data = .plain)
    (ha : s₁.heap.get? a = some { cls := .type "list", data := .seq vs.toArray }) (hi : IntsAre vs ns) (hl : ns.length ≤ sizeLine) (hr : Room k callerA)
    (F : ∀ base : Heap, K.In base → base.Ns mainGlobals mg → (∀ p ∈ cs, LamX.TabB base mg p.1 p.2) → FnG P w K mg base k fa fd [x] sp) (hbind : ∀ (s : Shared) (u : Value), BindsTo s fd ⟨[u], []⟩ [(x, u)])
    (hsp : ∀ H : Hp, (∀ p ∈ cs, H p.2 = some (.tbl #[])) → (∀ b, H b = none ∨ b ∈ cs.map (·.2) ∨ ∃ o xs, H b = some (.frz o (.lst xs))) → SqL K H a (ns.map V.int) → sp [.ref a] H (fun v _ => v = .bl true) fun _ _ _ => False) :
    codeAny (model P w) callerA (.call (.ref fa) ⟨[.ref a], []⟩) (fun r s' => r = .ok (.ret (.bool true)) ∧ OldK s₁.heap s'.heap ∧ s'.os = s₁.os ∧ AllBare s'.gens) s₁ := by
  have rv := vals_ints hi
  obtain ⟨ts, ets⟩ : ∃ ts, cs.map (·.2) = ts := ⟨_, rfl⟩
  have inT : ∀ {b : Addr}, b ∈ ts → ∃ p ∈ cs, p.2 = b := fun hb => by rw [← ets] at hb; exact List.mem_map.mp hb
  have toT : ∀ {p : Addr × Addr}, p ∈ cs → p.2 ∈ ts := fun hp => by rw [← ets]; exact List.mem_map.mpr ⟨_, hp, rfl⟩
  have atT : ∀ {b : Addr}, b ∈ ts → s₁.heap.get? b = some { cls := .none, data := .fields #[] } ∧ K.lookup b = none := fun hb => by
    obtain ⟨p, hp, rfl⟩ := inT hb
    exact ⟨hT p hp, nT p hp⟩
  have aT : a ∉ ts := fun z => by
    have q := (atT z).1
    rw [ha] at q
    cases q
  -- the script: written already, or tracked as it stands
  obtain ⟨o, ho⟩ : ∃ o : Option HO, (o = none ∧ ∃ ob, K.lookup a = some ob) ∨ (K.lookup a = none ∧ o = some (.frz { cls := .type "list", data := .seq vs.toArray } (.lst (ns.map V.int)))) := by
    cases e : K.lookup a with
    | some ob => exact ⟨none, .inl ⟨rfl, ob, rfl⟩⟩
    | none => exact ⟨_, .inr ⟨rfl, rfl⟩⟩
  obtain ⟨H, eH⟩ : ∃ H, beginH o a ts = H := ⟨_, rfl⟩
  have hTb : ∀ {b : Addr}, b ∈ ts → H b = some (.tbl #[]) := fun hb => by rw [← eH]; exact if_pos hb
  have hAa : H a = o := by rw [← eH]; exact (if_neg aT).trans (if_pos rfl)
  have hNo : ∀ {b : Addr}, b ∉ ts → b ≠ a → H b = none := fun h1 h2 => by rw [← eH]; exact (if_neg h1).trans (if_neg h2)
  have three : ∀ b, b ∈ ts ∨ b = a ∨ H b = none := fun b => by
    by_cases h1 : b ∈ ts
    · exact .inl h1
    · by_cases h2 : b = a
      · exact .inr (.inl h2)
      · exact .inr (.inr (hNo h1 h2))
  have hok : HOk P w H s₁.heap := fun b u hu => by
    rcases three b with h1 | h1 | h1
    · rw [hTb h1] at hu; cases hu; exact (atT h1).1
    · subst h1
      rw [hAa] at hu
      rcases ho with ⟨ho, _⟩ | ⟨_, ho⟩
      · rw [ho] at hu; cases hu
      · rw [ho] at hu; cases hu; exact ⟨ha, by rw [List.length_map]; exact hl, vs, _, rv, ha⟩
    · rw [h1] at hu; cases hu
  have hS : SqL K H a (ns.map V.int) := by
    rcases ho with ⟨_, ob, hk⟩ | ⟨_, ho⟩
    · have e := KX a ob hk
      rw [ha] at e
      cases e
      exact .inr ⟨_, vs.toArray, _, hk, rfl, rfl, rfl, by rw [List.size_toArray, hi.length]; exact hl, by simpa using rv⟩
    · exact .inl (.inr ⟨_, hAa.trans ho⟩)
  -- what stands there and is neither a list nor an empty table is not tracked
  have hid : ∀ {b : Addr} {ob : Obj}, s₁.heap.get? b = some ob → (∀ us n, ob.data ≠ .seq us n) → ob.data ≠ .fields #[] → (hidT s₁.heap H).get? b = some ob := fun {b ob} e n1 n2 => hidT_get e (by
    rcases three b with h1 | h1 | h1
    · rw [(atT h1).1] at e; cases e; exact absurd rfl n2
    · rw [h1, ha] at e; cases e; exact absurd rfl (n1 _ _)
    · exact h1)
  have nsH : ∀ {b : Addr} {m : Str → Option Value}, s₁.heap.Ns b m → (hidT s₁.heap H).Ns b m := fun ⟨ob, es, ep, e, d, r⟩ => ⟨ob, es, ep, hid e (fun us n z => by rw [d] at z; cases z) (fun z => by rw [d] at z; cases z), d, r⟩
  have kIn : K.In (hidT s₁.heap H) := fun b ob e => hidT_get (KX b ob e) (by
    rcases three b with h1 | h1 | h1
    · rw [(atT h1).2] at e; cases e
    · rcases ho with ⟨h2, _⟩ | ⟨h2, _⟩
      · rw [h1, hAa, h2]
      · rw [h1, h2] at e; cases e
    · exact h1)
  have mods : L2.Mod K mg (hidT s₁.heap H) := ⟨kIn, nsH hns, ⟨mb, nsH hb, hbb⟩, let ⟨mc, h1, h2⟩ := hlim; ⟨mc, nsH h1, h2⟩⟩
  have tabs : ∀ p ∈ cs, LamX.TabB (hidT s₁.heap H) mg p.1 p.2 := fun p hp => by
    obtain ⟨og, esg, epg, eg, dg, _⟩ := id hns
    refine ⟨?_, ?_, fun z => by rw [z, hT p hp] at eg; cases eg; cases dg⟩
    · obtain ⟨oc, us, file, tf, flags, tg, inF, text, tt, e1, r1, r2, r3, rest⟩ := C p hp
      exact ⟨oc, us, file, tf, flags, tg, inF, text, tt, hid e1 (fun us n z => by rw [r2] at z; cases z) (fun z => by rw [r2] at z; cases z; simp at r3), r1, r2, r3, rest⟩
    · obtain ⟨bm, ob, b1, b2, b3, b4, b5, b6⟩ := hbm
      exact ⟨bm, ob, b1, b2, (fun q => by rw [q, eg] at b3; cases b3; rw [dg] at b6; cases b6), (fun q => by rw [q, hT p hp] at b3; cases b3; cases b6), hid b3 (fun us n z => by rw [b6] at z; cases z) (fun z => by rw [b6] at z; cases z), b4, b5, b6⟩
  have e0 : Env0 P w K mg (hidT s₁.heap H) callerA [] s₁ H := ⟨rfl, mods, fun b ob e => of_hidT e, Nat.le_of_eq (hidT_size _ _), trivial, (fun b hb => by cases hb), hok, .of_eq hg⟩
  have only : ∀ b, H b = none ∨ b ∈ cs.map (·.2) ∨ ∃ o xs, H b = some (.frz o (.lst xs)) := fun b => by
    rcases three b with h1 | h1 | h1
    · exact .inr (.inl (by rw [ets]; exact h1))
    · rcases ho with ⟨h2, _⟩ | ⟨_, h2⟩
      · exact .inl (by rw [h1, hAa, h2])
      · exact .inr (.inr ⟨_, _, by rw [h1, hAa, h2]⟩)
    · exact .inl h1
  have prom := hsp H (fun p hp => hTb (toT hp)) only hS
  refine codeAny_mono ((F _ kIn (nsH hns) tabs).run callerA [] s₁ H ⟨[.ref a], []⟩ [.ref a] [.ref a] _ _ rfl hr e0 (hbind s₁ (.ref a)) (.cons rfl .nil) prom) fun r s' q => ?_
  match r, q with
  | .error e, q =>
    obtain ⟨_, _, _, _, _, _, _, _, _, _, _, _, z⟩ := q
    exact z.elim
  | .ok (.ret u), q =>
    obtain ⟨v, H', os, bare, un, hok', r', q'⟩ := q
    obtain rfl : v = .bl true := q'
    obtain rfl : u = Value.bool true := r'
    have old : ∀ b ob, b ∉ ts → s₁.heap.get? b = some ob → s'.heap.get? b = some ob := fun b ob nb e => by
      by_cases hb : H b = none
      · exact un.keep b ob e hb (fun z => by cases z) (fun z => by cases z)
      · rcases three b with h1 | h1 | h1
        · exact absurd h1 nb
        · rcases ho with ⟨h2, _⟩ | ⟨_, h2⟩
          · exact absurd (by rw [h1, hAa, h2]) hb
          · have hf := hAa.trans h2
            rw [← h1] at hf
            obtain ⟨e1, _⟩ := hok b _ hf
            obtain ⟨e2, _⟩ := hok' b _ (un.frzs b _ _ hf)
            rw [e] at e1; cases e1
            exact e2
        · exact absurd h1 hb
    have grown : ∀ p ∈ cs, ∃ more : Array Value, s'.heap.get? p.2 = some { cls := .none, data := .fields more } := fun p hp =>
      let ⟨more, z⟩ := un.tbls p.2 #[] (hTb (toT hp)); ⟨_, hok' p.2 _ z⟩
    refine ⟨rfl, ⟨fun b ob e => ?_, fun b ob e => ?_⟩, os, bare⟩
    · by_cases nb : b ∈ ts
      · obtain ⟨p, hp, rfl⟩ := inT nb
        obtain ⟨more, hm⟩ := grown p hp
        rw [hT p hp] at e
        cases e
        exact .inr (.inl ⟨((C p hp).tab (hT p hp)).isCodeTable, rfl, #[], more, rfl, by rw [Array.empty_append]; exact hm⟩)
      · exact .inl (old b ob nb e)
    · by_cases nb : b ∈ ts
      · obtain ⟨p, hp, rfl⟩ := inT nb
        obtain ⟨more, hm⟩ := grown p hp
        exact ⟨_, hm⟩
      · exact ⟨ob, old b ob nb e⟩
/-- what is to be known of the law at the head's heap -/
def LawAtG (l : PySem.W.OpenLaw) (w : World) (K : PySem.W.Frag) (k n : Nat) (x : Str) (mg : Str → Option Value) (fa : Addr) (h : Heap) : Prop :=
  ∃ (fd : FuncData) (cs : List (Addr × Addr)) (sp : Sp), (∀ p ∈ cs, h.get? p.2 = some { cls := .none, data := .fields #[] }) ∧ (∀ p ∈ cs, K.lookup p.2 = none) ∧ (∀ p ∈ cs, PySem.W.CodeHd h p.1 p.2) ∧ (∀ (s : Shared) (u : Value), BindsTo s fd ⟨[u], []⟩ [(x, u)]) ∧
    (∀ (H : Hp) (a : Addr) (ns : List Int), ns.length ≤ n → (∀ z ∈ ns, Builtin.Int.intBits z ≤ 1048576) → (∀ p ∈ cs, H p.2 = some (.tbl #[])) → (∀ b, H b = none ∨ b ∈ cs.map (·.2) ∨ ∃ o xs, H b = some (.frz o (.lst xs))) → SqL K H a (ns.map V.int) → sp [.ref a] H (fun v _ => v = .bl true) fun _ _ _ => False) ∧
    ∀ base : Heap, K.In base → base.Ns mainGlobals mg → (∀ p ∈ cs, LamX.TabB base mg p.1 p.2) → FnG l.prog w K mg base k fa fd [x] sp
theorem walkG {l : PySem.W.OpenLaw} {n k : Nat} {q : Program} {loose : List Str} {XP : (Str → Option Value) → Heap → Prop} {YP : World → Heap → Prop} {d : DefRec} {K : Params → PySem.W.Frag} {x : Str}
    (hn : l.most = some n) (hn2 : n ≤ sizeLine) (hdf : d.params.defaults = []) (hr : Room k callerA) (hY : ∀ (w : World) (h : Heap), YP w h → (K w.params).In h)
    (F : ∀ (w : World) (mg : Str → Option Value) (fa : Addr) (h : Heap), YP w h → (K w.params).In h → h.Ns mainGlobals mg → mg d.name = some (.ref fa) → LawAtG l w (K w.params) k n x mg fa h) :
    PySem.W.WalkO q loose XP YP l.row.toRowW d [] (fun f vs => PySem.call f vs) :=
  Att.attach_callB hn hdf fun w s₀ s₁ mg mb fa o pm cd doc a vs ns G Y ho hd hcd hmg hobj hints hlen hbits hg =>
    let ⟨fd, cs, sp, hT, nT, C, hb, hsp, hF⟩ := F w mg fa _ Y (hY w _ Y) G.T.g hmg
    lawG (hY w _ Y) G.T.g G.T.b G.T.builtins G.T.nolimit hg hT nT C G.T.bmain hobj hints (Nat.le_trans hlen hn2) hr hF hb fun H hH hO hS => hsp H a ns hlen hbits hH hO hS
end PL
end L2
set_option Elab.async false
set_option linter.all false
set_option maxRecDepth 100000
/-! PL 18: defs as functions over data; calls; the draw list. -/
namespace L2
namespace PL
open PySem PySem.Spec PyProof.Rows

/-- an argument: data, or the draw list -/
def AgOk (K : PySem.W.Frag) (G : Hp) (dr : Option Addr) (v : V) : Sl → Prop
  | .sh d => Rp K G v d
  | .dr => ∃ a, dr = some a ∧ v = .ref a
  | _ => False
inductive AgsOk (K : PySem.W.Frag) (G : Hp) (dr : Option Addr) : List V → List Sl → Prop
  | nil : AgsOk K G dr [] []
  | cons {v : V} {vs : List V} {s : Sl} {ss : List Sl} : AgOk K G dr v s → AgsOk K G dr vs ss → AgsOk K G dr (v :: vs) (s :: ss)
theorem AgOk.mono {K : PySem.W.Frag} {G G' : Hp} {dr : Option Addr} {v : V} {s : Sl} (h : Sub G G') (a : AgOk K G dr v s) : AgOk K G' dr v s := by
  cases s with
  | sh d => exact Rp.mono h a
  | dr => exact a
  | un | ow | sc => exact a.elim
theorem AgsOk.mono {K : PySem.W.Frag} {G G' : Hp} {dr : Option Addr} (h : Sub G G') : ∀ {vs : List V} {ss : List Sl}, AgsOk K G dr vs ss → AgsOk K G' dr vs ss
  | _, _, .nil => .nil
  | _, _, .cons a b => .cons (a.mono h) (b.mono h)
theorem AgsOk.length {K : PySem.W.Frag} {G : Hp} {dr : Option Addr} : ∀ {vs : List V} {ss : List Sl}, AgsOk K G dr vs ss → vs.length = ss.length
  | _, _, .nil => rfl
  | _, _, .cons _ b => by rw [List.length_cons, List.length_cons, AgsOk.length b]
theorem AgsOk.get {K : PySem.W.Frag} {G H : Hp} {dr : Option Addr} {ad : Addr} : ∀ {vs : List V} {ss : List Sl} {i : Nat} {sl : Sl}, AgsOk K G dr vs ss → ss[i]? = some sl → ∃ v, vs[i]? = some v ∧ SlOk K G H dr ad sl (some (some v)) ∧ ∀ d, sl ≠ .ow d
  | _, _, _, _, .nil, h => by simp at h
  | _, _, 0, sl, .cons (v := v) a b, h => by
    simp at h; subst h
    refine ⟨v, rfl, ?_⟩
    rename_i s ss
    cases s with
    | sh d => exact ⟨⟨v, rfl, a⟩, fun d z => by cases z⟩
    | dr => obtain ⟨x, h1, h2⟩ := a; exact ⟨⟨x, h1, by rw [h2]⟩, fun d z => by cases z⟩
    | un | ow | sc => exact a.elim
  | _, _, i + 1, _, .cons a b, h => by
    obtain ⟨v, h1, h2⟩ := AgsOk.get (i := i) b (by simpa using h)
    exact ⟨v, by simpa using h1, h2⟩
/-- a function over data, as a promise -/
def spF (K : PySem.W.Frag) (T : List (Addr × Str)) (C : Addr) (n : Nat) (F : Env → Gs → Res PyData) : Sp := fun vs H Q E =>
  ∃ as g dr G, GI ⟨K, T, C, E⟩ g dr G H ∧ AgsOk K G dr vs as ∧ as.length = n ∧ okE ⟨K, T, C, E⟩ dr G H (F as g) Q
theorem spF_len {K : PySem.W.Frag} {T : List (Addr × Str)} {C : Addr} {n : Nat} {F : Env → Gs → Res PyData} {ps : List Str} (h : ps.length = n) : ∀ vs H Q E, spF K T C n F vs H Q E → vs.length = ps.length := by
  rintro vs H Q E ⟨as, g, dr, G, _, h2, h3, _⟩
  rw [h2.length, h3, h]
/-- a body as a function: m more names -/
def runF (b : FnS) (m : Nat) : Env → Gs → Res PyData := fun as g => (b (as ++ List.replicate m .un) g).bind fun fl g' => match fl with
  | .nx _ => .ok .none g'
  | .rt d => .ok d g'
  | _ => .no
theorem start_sr {W : Wd} {g : Gs} {dr : Option Addr} {G H : Hp} {N : List Str} {vs : List V} {as : List Sl} {m : Nat} (i : GI W g dr G H) (a : AgsOk W.K G dr vs as) (h : N.length = as.length + m) : SB W (as ++ List.replicate m .un) g dr (fun _ => 0) (start N vs) G H G H := by
  have hl := a.length
  have hm : N.length - vs.length = m := by omega
  have key : ∀ (j : Nat) (sl : Sl), (as ++ List.replicate m .un)[j]? = some sl → SlOk W.K G H dr 0 sl (start N vs)[j]? ∧ ∀ d, sl ≠ .ow d := fun j sl hj => by
    unfold start
    rw [hm]
    by_cases c : j < as.length
    · rw [List.getElem?_append_left c] at hj
      rw [List.getElem?_append_left (by rw [List.length_map]; omega)]
      obtain ⟨v, h1, h2⟩ := a.get (H := H) (ad := 0) hj
      rw [List.getElem?_map, h1]
      exact h2
    · rw [List.getElem?_append_right (Nat.le_of_not_lt c)] at hj
      have := List.eq_of_mem_replicate (List.mem_of_getElem? hj)
      subst this
      exact ⟨trivial, fun d z => by cases z⟩
  refine ⟨⟨i, ?_, fun j sl hj => (key j sl hj).1, fun j k d e h1 h2 _ => absurd rfl ((key j _ h1).2 d)⟩, Ext.refl, fun j d hj => absurd rfl ((key j _ hj).2 d)⟩
  unfold start
  simp only [List.length_append, List.length_map, List.length_replicate]
  omega
/-- a def by its body, read over data -/
theorem fnF_of {P : Program} {w : World} {K : PySem.W.Frag} {T : List (Addr × Str)} {C : Addr} {mg : Str → Option Value} {base : Heap} {f : Addr} {fd : FuncData} {ps : List Str} {x qual : Str} {st : Stmt} {N : List Str} {k n m : Nat} {F : Env → Gs → Res PyData} {b : FnS}
    (Fu : Fun K x qual st f fd) (S : FnScope N ps (defScope st)) (hn : ps.length = n) (hN : N.length = n + m) (hF : F = runF b m)
    (body : ∀ (cdv : Value) (A : Around) (outer : List PySem.Env) (s : Shared) (H : Hp) (E : XK), A.guards = some [] → Room k (A.deeper (envOfC qual (defScope st) s.heap.objs.size f cdv)) → PySem.W.codeIn K cdv qual = true →
      PSs (cxOf (L2.CX P w) P w K mg base N qual (defScope st) f cdv A outer s H E) (defBody st) (tS ⟨K, T, C, E⟩ b)) : FnG P w K mg base (k + 1) f fd ps (spF K T C n F) := by
  subst hF
  refine fnG_of Fu S (spF_len hn) fun cdv A outer s H vs Q E hg hr hcd hsp => ⟨_, body cdv A outer s H E hg hr hcd, ?_⟩
  obtain ⟨as, g, dr, G, i, a, hl, h⟩ := hsp
  have SS := start_sr (N := N) (m := m) i a (by omega)
  refine ⟨_, g, dr, _, G, G, H, SS, ?_⟩
  unfold runF at h
  cases e : b (as ++ List.replicate m .un) g with
  | ok fl g1 =>
    rw [e] at h
    cases fl with
    | nx ρ' => exact fun ad σ G1 H1 S1 => h .non G1 H1 S1.sr.gi S1.ext .non
    | rt d => exact fun v G1 H1 i1 x1 r1 => h v G1 H1 i1 x1 r1
    | bk ρ' => exact h.elim
    | ct ρ' => exact h.elim
  | bad d g1 => rw [e] at h; exact h
  | no => rw [e] at h; exact h.elim

/-! ### calls -/
abbrev FnG1 := Env → Gs → Res (List Sl)
def okG (W : Wd) (dr : Option Addr) (G H : Hp) (r : Res (List Sl)) (Q : List V → Hp → Prop) : Prop := match r with
  | .ok ds g' => ∀ vs G' H', GI W g' dr G' H' → Ext dr G H G' H' → AgsOk W.K G' dr vs ds → Q vs H'
  | .bad d g' => badP W dr G H d g'
  | .no => False
def tG (W : Wd) (f : FnG1) : TA := fun σ H Q => ∃ ρ g dr ad G, SR W ρ g dr ad σ G H ∧ okG W dr G H (f ρ g) Q
section
variable {X : Cx} {W : Wd} {fa : Fn} {a e : Expr} {pos : Pos}
theorem okG.mono {dr : Option Addr} {G H G1 H1 : Hp} {r : Res (List Sl)} {Q : List V → Hp → Prop} (h : okG W dr G H r Q) (e : Ext dr G H G1 H1) : okG W dr G1 H1 r Q := by
  cases r with
  | ok d g' => exact fun v G' H' i x rp => h v G' H' i (e.trans x) rp
  | bad d g' => exact badP.mono h e
  | no => exact h
theorem poG {dr : Option Addr} {Q : List V → Hp → Prop} : Po W dr (fun G H r => okG W dr G H r Q) := ⟨fun _ _ _ _ h => h, fun _ _ h => h, fun _ _ _ _ _ h e => okG.mono h e⟩
theorem seqG {β : Type} {ρ : Env} {g : Gs} {dr : Option Addr} {ad : Nat → Addr} {σ : St} {G H : Hp} {f : FnG1} {k : List Sl → Gs → Res β} {P : Hp → Hp → Res β → Prop} {R : List V → Hp → Prop} (S : SR W ρ g dr ad σ G H) (po : Po W dr P) (h : P G H ((f ρ g).bind k))
    (q : ∀ vs H1 xs g1 G1, SR W ρ g1 dr ad σ G1 H1 → Ext dr G H G1 H1 → AgsOk W.K G1 dr vs xs → P G1 H1 (k xs g1) → R vs H1) : tG W f σ H R := by
  refine ⟨ρ, g, dr, ad, G, S, ?_⟩
  cases e : f ρ g with
  | ok d g1 =>
    rw [e] at h
    exact fun v G1 H1 i x rp => q v H1 d g1 G1 (S.ext x i) x rp (po.mono _ _ _ _ _ h x)
  | bad d g1 => rw [e] at h; exact po.bad _ _ _ _ h
  | no => rw [e] at h; exact (po.no _ _ h).elim
def gNil : FnG1 := fun _ g => .ok [] g
def gCons (fa : Fn) (fs : FnG1) : FnG1 := fun ρ g => (fa ρ g).bind fun x g1 => (fs ρ g1).bind fun xs g2 => .ok (.sh x :: xs) g2
def gDr (i : Nat) (fs : FnG1) : FnG1 := fun ρ g => match ρ[i]? with
  | some .dr => (fs ρ g).bind fun xs g2 => .ok (.dr :: xs) g2
  | _ => .no
theorem cg_nil : PA X [] (tG W gNil) := by
  refine PA.imp pa_nil ?_
  rintro σ H Q ⟨ρ, g, dr, ad, G, S, h⟩
  exact h [] G H S.gi Ext.refl .nil
theorem cg_cons {es : List Expr} {fs : FnG1} (ha : PE X a (tE W fa)) (hs : PA X es (tG W fs)) (hst : starEach (a :: es) X.env = (false, eval a X.env) :: starEach es X.env := by rfl) : PA X (a :: es) (tG W (gCons fa fs)) := by
  refine PA.imp (pa_cons ha hs hst) ?_
  rintro σ H Q ⟨ρ, g, dr, ad, G, S, h⟩
  refine seqE S poG h fun v H1 x g1 G1 S1 x1 r1 h1 => ?_
  refine seqG S1 poG h1 fun vs H2 xs g2 G2 S2 x2 r2 h2 => ?_
  exact h2 (v :: vs) G2 H2 S2.gi Ext.refl (.cons (r1.mono x2.g) r2)
theorem cg_dr {es : List Expr} {fs : FnG1} {i : Nat} {x : Str} {p : Pos} (ha : PE X (.Name x p) (tVar i)) (hs : PA X es (tG W fs)) (hst : starEach (.Name x p :: es) X.env = (false, eval (.Name x p) X.env) :: starEach es X.env := by rfl) : PA X (.Name x p :: es) (tG W (gDr i fs)) := by
  refine PA.imp (pa_cons ha hs hst) ?_
  rintro σ H Q ⟨ρ, g, dr, ad, G, S, h⟩
  unfold gDr at h
  cases e : ρ[i]? with
  | none => rw [e] at h; exact h.elim
  | some sl =>
    rw [e] at h
    cases sl with
    | dr =>
      obtain ⟨d, h1, h2⟩ := S.slot i _ e
      refine ⟨_, h2, ?_⟩
      refine seqG S poG h fun vs H2 xs g2 G2 S2 x2 r2 h2 => ?_
      exact h2 (.ref d :: vs) G2 H2 S2.gi Ext.refl (.cons ⟨d, h1, rfl⟩ r2)
    | un | ow | sc | sh => exact h.elim
def fCall (F : Env → Gs → Res PyData) (n : Nat) (fs : FnG1) : Fn := fun ρ g => (fs ρ g).bind fun as g1 => if as.length = n then F as g1 else .no
theorem tCall_of {K : PySem.W.Frag} {T : List (Addr × Str)} {C : Addr} {E : XK} {n : Nat} {F : Env → Gs → Res PyData} {fs : FnG1} (σ : St) (H : Hp) (Q : VK) (h : tE ⟨K, T, C, E⟩ (fCall F n fs) σ H Q) : tCallG (spF K T C n F) E (tG ⟨K, T, C, E⟩ fs) σ H Q := by
  obtain ⟨ρ, g, dr, ad, G, S, h⟩ := h
  refine seqG S poE h fun vs H1 as g1 G1 S1 x1 r1 h1 => ?_
  by_cases c : as.length = n
  · rw [if_pos c] at h1
    exact ⟨as, g1, dr, G1, S1.gi, r1, c, h1⟩
  · rw [if_neg c] at h1
    exact h1.elim
theorem ce_call {K : PySem.W.Frag} {T : List (Addr × Str)} {C : Addr} {E : XK} {n k : Nat} {F : Env → Gs → Res PyData} {fs : FnG1} {f : Addr} {fd : FuncData} {ps : List Str} {x : Str} {p : Pos} {es : List Expr}
    (Fu : FnG X.prog X.w X.K X.mg X.base k f fd ps (spF K T C n F)) (hgd : X.A.guards = some []) (hr : Room k X.A) (hg : Gl X x) (hm : X.mg x = some (.ref f)) (hk : PySem.W.keepIn X.K (.ref f) = true) (hb : Binds X.K fd ps []) (hx : Passes (L2.CX X.prog X.w) X E)
    (ha : PA X (e :: es) (tG ⟨K, T, C, E⟩ fs)) (hdb : (x == ("__debug__" : Str)) = false := by decide) (he : starEach (e :: es) X.env = (false, eval e X.env) :: starEach es X.env := by rfl) (hpl : (backTo pos (starEach es X.env)).any (·.1) = false := by rfl) :
    PE X (.Call (.Name x p) (e :: es) [] pos) (tE ⟨K, T, C, E⟩ (fCall F n fs)) :=
  PE.imp (pe_callG Fu hgd hr hg hm hk hb hx ha hdb he hpl) tCall_of

/-! ### the draw list -/
/-- draw[0], draw[1], draw[2] -/
def fDrAt (i : Nat) (j : Nat) : Fn := fun ρ g => match ρ[i]?, g with
  | some .dr, some (xs, c) => match j with
    | 0 => .ok (.list xs) g
    | 1 => .ok (.int 0) g
    | 2 => .ok (.int c) g
    | _ => .no
  | _, _ => .no
theorem ce_drAt {x y : Expr} {i j : Nat} (hK : X.K = W.K) (hu : X.A.units + 1 < cLine) (ha : PE X x (tVar i)) (hb : PE X y (tC (.int j))) (hs : PlainIx y := by exact fun _ _ => rfl) : PE X (.Subscript x y pos) (tE W (fDrAt i j)) := by
  have h0 : IxR X (rIxX W.K) := by rw [← hK]; exact ixX hu
  refine PE.imp (pe_ix h0 ha hb hs) ?_
  rintro σ H Q ⟨ρ, g, dr, ad, G, S, h⟩
  unfold fDrAt at h
  cases e : ρ[i]? with
  | none => rw [e] at h; cases g <;> exact h.elim
  | some sl =>
    cases g with
    | none => rw [e] at h; cases sl <;> exact h.elim
    | some p =>
      rw [e] at h
      cases sl with
      | dr =>
        obtain ⟨d, h1, h2⟩ := S.slot i _ e
        obtain ⟨d', v, q1, q2, q3, q4⟩ := S.gi.draw
        rw [h1] at q1; cases q1
        refine ⟨_, h2, ?_⟩
        have go : ∀ (n : Nat) (z : V) (dd : PyData), j = n → atI [v, .int 0, .int p.2] (n : Int) = some z → Rp W.K G z dd → okE W dr G H (.ok dd (some p)) Q → (rIxX W.K) (.ref d) (.int j) H Q := fun n z dd hj hz hr hq => by
          subst hj
          exact .inl ⟨d, _, (j : Int), z, rfl, rfl, SqL.of q3, hz, hq z G H S.gi Ext.refl hr⟩
        match j, h with
        | 0, h => exact go 0 _ _ rfl rfl q4 h
        | 1, h => exact go 1 _ _ rfl rfl (.int _) h
        | 2, h => exact go 2 _ _ rfl rfl (.int _) h
      | un | ow | sc | sh => exact h.elim
/-- draw[2] = e -/
def fDrPut (i : Nat) (fa : Fn) : FnS := fun ρ g => match ρ[i]? with
  | some .dr => (fa ρ g).bind fun d g1 => match d, g1 with
    | .int c, some (xs, _) => .ok (.nx ρ) (some (xs, c))
    | _, _ => .no
  | _ => .no
theorem cs_drPut {x y : Expr} {i : Nat} {p1 : Pos} (ha : PE X x (tVar i)) (hb : PE X y (tC (.int 2))) (he : PE X e (tE W fa)) (hT : ∀ v, assign (.Subscript x y p1) X.env v = (do
      let ov ← holding [v] (eval x X.env)
      let iv ← holding [v, ov] (eval y X.env)
      standAt p1
      holding [v, ov, iv] (setItem ov iv v)
      release [v, ov, iv] []) := by intro _; rfl)
    (hs : swapsWithSole [.Subscript x y p1] e pos.line X.env = pure false := by rfl) (hw : swappedStores [.Subscript x y p1] e X.env = pure none := by rfl) (h1 : (assignEach [.Subscript x y p1] X.env).map (·.2) = [assign (.Subscript x y p1) X.env] := by rfl) :
    PS X (.Assign [.Subscript x y p1] e pos) (tS W (fDrPut i fa)) := by
  refine PS.imp (ps_asg he (pg_sub ha hb set_list hT) hs hw h1) ?_
  rintro D σ H ⟨ρ, g, dr, ad, G, G0, H0, S, h⟩
  unfold fDrPut at h
  cases e : ρ[i]? with
  | none => rw [e] at h; exact h.elim
  | some sl =>
    rw [e] at h
    cases sl with
    | dr =>
      refine seqE S.sr poS (P := pS W dr G0 H0 D) ⟨S.ext, h⟩ fun v H1 d g1 G1 S1 x1 r1 hh => ?_
      have hh := hh.2
      have S2 : SB W ρ g1 dr ad σ G0 H0 G1 H1 := S.next x1 S1.gi
      obtain ⟨a, h1, h2⟩ := S1.slot i _ e
      refine ⟨_, h2, ?_⟩
      cases d with
      | int c =>
        cases g1 with
        | none => exact hh.elim
        | some p =>
          obtain ⟨d', u, q1, q2, q3, q4⟩ := S1.gi.draw
          rw [h1] at q1; cases q1
          obtain rfl := r1.inv_int
          refine ⟨a, _, 2, 2, rfl, rfl, q3, rfl, ?_⟩
          have hh : ∀ ad σ G H, SB W ρ (some (p.1, c)) dr ad σ G0 H0 G H → D.nx σ H := hh
          have sub : ∀ b o, b ≠ a → H1 b = some o → upd H1 a (.lst [u, .int 0, .int c]) b = some o := fun b o hb ho => by rw [upd_ne hb]; exact ho
          have ne : ∀ b o, G1 b = some o → b ≠ a := fun b o ho hb => by rw [hb, q2] at ho; cases ho
          have x2 : Ext dr G1 H1 G1 (upd H1 a (.lst [u, .int 0, .int c])) := ⟨fun _ _ z => z, fun b o ho hd _ => sub b o (fun z => hd (by rw [z]; exact h1)) ho, fun _ _ _ _ _ z => z, fun b o ho => by
            by_cases hb : b = a
            · subst hb; exact ⟨_, upd_same⟩
            · exact ⟨o, sub b o hb ho⟩⟩
          have i2 : GI W (some (p.1, c)) dr G1 (upd H1 a (.lst [u, .int 0, .int c])) := ⟨fun b o ho => sub b o (ne b o ho) (S1.gi.sub b o ho), S1.gi.imm, ⟨a, u, h1, q2, upd_same, q4⟩, tabs_upd S1.gi.tabs q3 trivial⟩
          exact hh ad σ G1 _ (S2.next x2 i2)
      | none | bool | str | list | tuple | dict => exact hh.elim
    | un | ow | sc | sh => exact h.elim
end
end PL
end L2
set_option Elab.async false
set_option linter.all false
set_option maxRecDepth 100000
/-! PL 19: the law's beginning. -/
namespace L2
namespace PL
open PySem PySem.Spec PyProof.Rows

/-- draw = [script[:63], 0, 0] -/
def tTop (K : PySem.W.Frag) (j : Nat) : TS := tAsg (tLst (tCons (tSl (rSlc K) (tVar 0) tNoPart (tPart (tC (.int 63)))) (tCons (tC (.int 0)) (tCons (tC (.int 0)) tNil)))) (gName j)
/-- the law's promise: its body over data tells True -/
def spLaw (K : PySem.W.Frag) (T : List (Addr × Str)) (C : Addr) (m j : Nat) (b : FnS) : Sp := fun vs H Q E =>
  ∃ (a : Addr) (ns : List Int), vs = [.ref a] ∧ ns.length ≤ 63 ∧ SqL K H a (ns.map V.int) ∧ LamX.Tabs T H ∧ (∃ g', b ((List.replicate (1 + m) Sl.un).set j .dr) (some (ns.map PyData.int, 0)) = .ok (.rt (.bool true)) g') ∧ ∀ H', Q (.bl true) H'
theorem rpL_ints {K : PySem.W.Frag} {G : Hp} : ∀ (ns : List Int), RpL K G (ns.map V.int) (ns.map PyData.int)
  | [] => .nil
  | _ :: r => .cons (.int _) (rpL_ints r)
theorem lawF_of {P : Program} {w : World} {K : PySem.W.Frag} {T : List (Addr × Str)} {C : Addr} {mg : Str → Option Value} {base : Heap} {f : Addr} {fd : FuncData} {x qual : Str} {st s0 : Stmt} {rest : List Stmt} {N : List Str} {k m j : Nat} {b : FnS}
    (Fu : Fun K x qual st f fd) {y : Str} (S : FnScope N [y] (defScope st)) (hN : N.length = 1 + m) (hj : j < 1 + m) (hd : defBody st = s0 :: rest)
    (body : ∀ (cdv : Value) (A : Around) (outer : List PySem.Env) (s : Shared) (H : Hp) (E : XK), A.guards = some [] → Room k (A.deeper (envOfC qual (defScope st) s.heap.objs.size f cdv)) → PySem.W.codeIn K cdv qual = true →
      PS (cxOf (L2.CX P w) P w K mg base N qual (defScope st) f cdv A outer s H E) s0 (tTop K j) ∧ PSs (cxOf (L2.CX P w) P w K mg base N qual (defScope st) f cdv A outer s H E) rest (tS ⟨K, T, C, E⟩ b)) : FnG P w K mg base (k + 1) f fd [y] (spLaw K T C m j b) := by
  refine fnG_of Fu S (by rintro vs H Q E ⟨a, ns, rfl, _⟩; rfl) fun cdv A outer s H vs Q E hg hr hcd hsp => ?_
  obtain ⟨a, ns, rfl, hl, hs, ht, ⟨g', hb⟩, hq⟩ := hsp
  obtain ⟨b1, b2⟩ := body cdv A outer s H E hg hr hcd
  rw [hd]
  refine ⟨_, pss_cons b1 b2, ?_⟩
  have e0 : (start N [V.ref a])[0]? = some (some (V.ref a)) := rfl
  refine ⟨_, e0, ⟨63, rfl, .inl ⟨a, _, rfl, hs, fun p hp => ?_⟩⟩⟩
  have cw : cutV (ns.map V.int) none (some 63) = ns.map V.int := by
    unfold cutV
    have e1 : HT.sIx (ns.map V.int).length (ns.map V.int).length (some 63) = min 63 (ns.map V.int).length := HT.sIx_nat _ _ 63
    rw [e1, HT.sIx_none, List.length_map, Nat.min_eq_right hl]
    simp only [Nat.sub_zero, List.drop_zero]
    exact List.take_of_length_le (by simp)
  rw [cw]
  refine ⟨by show 3 ≤ sizeLine; decide, fun d hd2 => ?_⟩
  have i0 : GI ⟨K, T, C, E⟩ none none (fun _ => none) H := ⟨fun _ _ z => (by cases z), fun _ _ z => (by cases z), rfl, ht⟩
  have i1 := i0.add (o := .lst (ns.map V.int)) hp trivial
  have i2 := i1.new (p := d) (o := .lst [.ref p, .int 0, .int 0]) hd2
  have nd : d ≠ p := fun z => by rw [z, upd_same] at hd2; cases hd2
  have g1d : (upd (fun _ => none) p (.lst (ns.map V.int)) : Hp) d = none := by rw [upd_ne nd]
  obtain ⟨G3, eG⟩ : ∃ G3 : Hp, (upd (fun _ => none) p (.lst (ns.map V.int)) : Hp) = G3 := ⟨_, rfl⟩
  obtain ⟨H3, eH⟩ : ∃ H3 : Hp, upd (upd H p (.lst (ns.map V.int))) d (.lst [.ref p, .int 0, .int 0]) = H3 := ⟨_, rfl⟩
  have i3 : GI ⟨K, T, C, E⟩ (some (ns.map PyData.int, 0)) (some d) (upd (fun _ => none) p (.lst (ns.map V.int))) (upd (upd H p (.lst (ns.map V.int))) d (.lst [.ref p, .int 0, .int 0])) :=
    ⟨i2.sub, i2.imm, ⟨d, _, rfl, g1d, upd_same, .lst upd_same (rpL_ints ns)⟩, i2.tabs⟩
  have S1 : SB ⟨K, T, C, E⟩ ((List.replicate (1 + m) Sl.un).set j .dr) (some (ns.map PyData.int, 0)) (some d) (fun _ => 0) ((start N [V.ref a]).set j (some (V.ref d))) G3 H3 G3 H3 := by
    rw [eG, eH] at i3
    have key : ∀ (i : Nat) (sl : Sl), ((List.replicate (1 + m) Sl.un).set j .dr)[i]? = some sl → (sl = .un ∨ (i = j ∧ sl = .dr)) := fun i sl hi => by
      by_cases c : i = j
      · subst c
        rw [List.getElem?_set_self (by simpa using hj)] at hi
        cases hi; exact .inr ⟨rfl, rfl⟩
      · rw [List.getElem?_set_ne (Ne.symm c)] at hi
        exact .inl (List.eq_of_mem_replicate (List.mem_of_getElem? hi))
    refine ⟨⟨i3, ?_, fun i sl hi => ?_, fun i k dd ee h1 h2 _ => ?_⟩, Ext.refl, fun i dd hi => ?_⟩
    · unfold start
      simp only [List.length_set, List.length_append, List.length_map, List.length_replicate, List.length_cons, List.length_nil]
      omega
    · rcases key i sl hi with rfl | ⟨rfl, rfl⟩
      · exact trivial
      · refine ⟨d, rfl, ?_⟩
        rw [List.getElem?_set_self]
        unfold start
        simp only [List.length_append, List.length_map, List.length_replicate, List.length_cons, List.length_nil]
        omega
    · rcases key i _ h1 with z | ⟨_, z⟩ <;> cases z
    · rcases key i _ hi with z | ⟨_, z⟩ <;> cases z
  rw [← eG, ← eH] at S1
  refine ⟨_, _, _, _, _, _, _, S1, ?_⟩
  rw [hb]
  exact fun v G1 H1 _ _ r1 => by rw [r1.inv_bool]; exact hq H1
end PL
end L2
set_option Elab.async false
set_option linter.all false
set_option maxRecDepth 100000
set_option maxHeartbeats 2000000
/-! PL 20: an own error over ValueError whose __init__ says super().__init__(text) and keeps one field "thing". -/
namespace PySem
namespace BadX
open PySem.W PySem.Calls PyProof.Rows PySem.HandSPX
/-! ### the text of __init__ -/
def iA (p1 p2 : Pos) : Arguments := { posonlyargs := [], args := [{ arg := "self", annotation := none, pos := p1 }, { arg := "thing", annotation := none, pos := p2 }], vararg := none, kwonlyargs := [], kw_defaults := [], kwarg := none, defaults := [] }
def iB (msg : Str) (i5 : Nat) (r1 r2 r3 r4 r5 r6 q1 q2 q3 q4 : Pos) : List Stmt := [.Expr (.Call (.Attribute (.Call (.Name "super" r1) [] [] r2) "__init__" r3) [.Constant (.str msg) i5 r4] [] r5) r6, .Assign [.Attribute (.Name "self" q1) "thing" q2] (.Name "thing" q3) q4]
def iS : Scope := { kind := .function, names := [(PySem.Str.ofString "self", .local), (PySem.Str.ofString "thing", .local), (PySem.Str.ofString "__class__", .free), (PySem.Str.ofString "super", .globalImplicit)], isGenerator := false, isCoroutine := false, more := [] }
theorem he_sup {env : Env} {msg : Str} {i5 : Nat} {r1 r2 r3 r4 r5 : Pos} (h : (r3.endLine == r5.line) = true) : eval (.Call (.Attribute (.Call (.Name "super" r1) [] [] r2) "__init__" r3) [.Constant (.str msg) i5 r4] [] r5) env = (do
      let ov ← attributeBase (.Call (.Name "super" r1) [] [] r2) "__init__" env (eval (.Call (.Name "super" r1) [] [] r2) env)
      standAt r3.atName
      let (f, first) ← holding [ov] (getMethod ov "__init__" (do return (← importBound (.Call (.Name "super" r1) [] [] r2) env).getD true))
      callWith r5 f first (backTo r5 (starEach [.Constant (.str msg) i5 r4] env)) []) := by
  have hp : methodCallPos true (.Call (.Name "super" r1) [] [] r2) env r3 r5 = pure r5 := by
    unfold methodCallPos
    rw [h] <;> rfl
  show (do
      let ov ← attributeBase (.Call (.Name "super" r1) [] [] r2) "__init__" env (eval (.Call (.Name "super" r1) [] [] r2) env)
      standAt r3.atName
      methodCall (.Call (.Name "super" r1) [] [] r2) "__init__" r3 r5 env ov 1 (backTo r5 (starEach [.Constant (.str msg) i5 r4] env)) []) = _
  have hm : ∀ ov : Value, methodCall (.Call (.Name "super" r1) [] [] r2) "__init__" r3 r5 env ov 1 (backTo r5 (starEach [.Constant (.str msg) i5 r4] env)) [] = (do
      let (f, first) ← holding [ov] (getMethod ov "__init__" (do return (← importBound (.Call (.Name "super" r1) [] [] r2) env).getD true))
      callWith r5 f first (backTo r5 (starEach [.Constant (.str msg) i5 r4] env)) []) := fun ov => by
    unfold methodCall
    rw [show methodCallForm 1 (backTo r5 (starEach [.Constant (.str msg) i5 r4] env)) [] = true from rfl, hp]
    rfl
  simp only [hm]
structure BadTxt (prog : Program) (K : Frag) (mg : Str → Option Value) (C fI : Addr) : Prop where
  gC : mg "BadThing" = some (.ref C)
  cls : ∃ nm q N bs bm sn sub ab col dd k0 k1 k2 k3 k5, K.lookup C = some (excClassObj nm q C N bs bm true sn sub ab col dd k0 k1 k2 k3 k5 "ValueError.__new__") ∧ refsVE bm = true
  sa : findIn K (.ref C) "__setattr__" = some (some (.builtin "object.__setattr__"))
  ga : findIn K (.ref C) "__getattribute__" = some (some (.builtin "BaseException.__getattribute__"))
  gg : findIn K (.ref C) "__getattr__" = some none
  noN : findIn K (.ref C) "thing" = some none
  iC : findIn K (.ref C) "__init__" = some (some (.ref fI))
  tC : typeIn K (.ref fI) = some (.type "function")
  kC : keepIn K (.ref C) = true
  exC : subIn K (.ref C) (.type "BaseException") = some true
  tyC : typeIn K (.ref C) = some (.type "type")
  hdC : hasDictIn K C = true
  te : exmOne K (.ref C) (.ref C) = some true
  vE : subIn K (.ref C) (.type "ValueError") = some true
  sS : mroIn K C (.ref C) = some true
  sup : ks_superIn K C C "__init__" = some (some (.builtin "ValueError.__init__"))
  opq : nsIn K cStatics "thirdparty.any" = some none
  noS : mg "super" = none
  top : (prog.main.scope.names.lookup ("super" : Str)).isSome = false
  fn : ∃ (oc : Value) (od : Option Addr) (doc pm : Value) (an : Option Addr) (cda cc : Addr) (ct : Value) (osl : Array (Option Value)) (msg : Str) (i5 : Nat) (p1 p2 r1 r2 r3 r4 r5 r6 q1 q2 q3 q4 : Pos),
    (r3.endLine == r5.line) = true ∧ K.lookup fI = some ⟨oc, od, .func (ksFn "__init__" "BadThing.__init__" (iA p1 p2) (iB msg i5 r1 r2 r3 r4 r5 r6 q1 q2 q3 q4) iS .none .none doc pm an (.ref cda) ct cc), osl⟩ ∧ codeIn K (.ref cda) "BadThing.__init__" = true ∧
    (∃ (ccl : Value) (cdd : Option Addr) (vs : Array Value) (ccs : Array (Option Value)) (file : Str) (tf : Tok), K.lookup cda = some ⟨ccl, cdd, .fields vs, ccs⟩ ∧ vs[2]? = some (.str file tf) ∧ ((prog.main.file : Str) == file) = true) ∧
    ∃ (cl : Value) (cld : Option Addr) (csl : Array (Option Value)), K.lookup cc = some ⟨cl, cld, .cell (some (.ref C)), csl⟩
theorem one_size (v : Value) : [v].length ≤ sizeLine := by
  rw [sizeLine_eq]
  exact (by decide : 1 ≤ 16777216)
theorem ldC {M : Model} {A : Around} {E : Value → Shared → Prop} {s : Shared} {env : Env} {m : Str → Option Value} {x : Str} {pos : Pos} {v : Value} {Q : Value → Shared → Prop} (hn : s.heap.Ns env.locals m) (hv : m x = some v) (h : Q v s)
    (hk : env.scope.kind = .function := by rfl) (hl : env.kindOf x = some .local := by rfl) (hd : (x == ("__debug__" : Str)) = false := by decide) :
    wpAny M A (eval (.Name x pos) env) Q E s := wpAny_Name (wpAny_loadName_local hk hl hn hv h) hd
theorem kept_but {K : Frag} {h h' : Heap} {x : Addr} (X : K.In h) (hx : K.lookup x = none) (k : ∀ b o, b ≠ x → h.get? b = some o → h'.get? b = some o) : K.In h' := fun a o e =>
  k a o (fun z => by rw [z, hx] at e; cases e) (X a o e)
/-- what __init__ leaves of a fresh exception at x -/
structure InitEnd (h h' : Heap) (x C dx t1 : Addr) (v : Value) : Prop where
  keep : ∀ b o, b ≠ x → h.get? b = some o → h'.get? b = some o
  obj : h'.get? x = some { cls := .ref C, dict := some dx, data := .fields #[.ref t1, .none, .none, .none, .bool false, .none] }
  dbig : h.objs.size ≤ dx
  dne : dx ≠ x
  ns : h'.Ns1 dx (fun y => if y = "thing" then some v else none)
/-- a made one -/
structure OwnMade (h h' : Heap) (e C d : Addr) (v : Value) : Prop where
  keep : ∀ b o, h.get? b = some o → h'.get? b = some o
  new : h.objs.size ≤ e
  obj : ∃ oe vs, h'.get? e = some oe ∧ oe.cls = .ref C ∧ oe.dict = some d ∧ oe.data = .fields vs ∧ vs[1]? = some .none
  dbig : h.objs.size ≤ d
  dne : d ≠ e
  ns : h'.Ns1 d (fun y => if y = "thing" then some v else none)
section
variable {prog : Program} {w : World} {A : Around} {E : Value → Shared → Prop} {R : Result → Shared → Prop} {s : Shared} {K : Frag} {mg mb : Str → Option Value} {C fI : Addr}
theorem call_bwV {h : Heap} {g : Array GenState} {d : Drawn} {t : Nat} {os : OsState} {nm q : Str} {N : Addr} {bs bm : List Value} {hdct : Bool} {sn : List Str} {sub : List Value} {ab : Bool} {col : Option Bool} {dd : Option Addr} {k0 k1 k2 k3 k5 : Option Value} {u e t0 : Addr} {rest : List Value} {Q : Value → Shared → Prop}
    (hC : h.get? C = some (excClassObj nm q C N bs bm hdct sn sub ab col dd k0 k1 k2 k3 k5 "ValueError.__new__")) (he : h.get? e = some (excO C t0)) (hu : h.get? u = some (kxs_mw "ValueError.__init__" e)) (hrest : rest.length ≤ sizeLine)
    (hq : ∀ h' t1, (∀ b o, b ≠ e → h.get? b = some o → h'.get? b = some o) → h'.get? e = some (excO C t1) → Q .none ⟨h', g, d, t, os⟩) :
    wpAny (model prog w) A (call (.ref u) rest) Q E ⟨h, g, d, t, os⟩ := by
  refine wpAny_call (codeAny_of_tree ?_)
  show wpAny _ A.in1 (callAny (.ref u) ⟨rest, []⟩) _ _ _
  simp only [callAny]
  refine wpAny_bind (wpAny_load hu ?_)
  simp only [kxs_mw, show (Value.type "method-wrapper" == Value.type "method" || Value.type "method-wrapper" == Value.type "builtin_function_or_method" || Value.type "method-wrapper" == Value.type "method-wrapper") = true by decide, if_true]
  refine KFB.if_so (by decide) ?_
  refine wpAny_bind (check_bound_init F.excBase_ValueError.toExcCallFacts hC he rfl ?_)
  refine wpAny_bind (wpAny_pure (wpAny_pure ?_))
  refine ⟨plainId_quiet F.excBase_ValueError.init.plain _, codeAny_builtin F.excBase_ValueError.initEntry ?_⟩
  exact exc_init_tree (cls := .ref C) (t0 := t0) (dv := none) (c2 := .none) (c3 := .none) (b4 := .bool false) he hrest fun h' k e' t' => hq h' _ k e'
theorem bad_init (T : BadTxt prog K mg C fI) {x t0 : Addr} {v : Value} (X : K.In s.heap) (hg : s.heap.Ns mainGlobals mg) (hb : s.heap.Ns builtinsNs mb) (hbb : mb "super" = bootBuiltins "super") (hlim : s.heap.NoLimit) (hx : s.heap.get? x = some (excO C t0)) (hnx : K.lookup x = none) (hroom : A.depth < recursionLimit)
    (hq : ∀ h' tk dx t1, InitEnd s.heap h' x C dx t1 v → R (.ok (.ret .none)) { s with heap := h', toks := tk }) :
    codeAny (model prog w) A (.call (.ref fI) ⟨[.ref x, v], []⟩) R s := by
  obtain ⟨oc, od, doc, pm, an, cda, cc, ct, osl, msg, i5, p1, p2, r1, r2, r3, r4, r5, r6, q1, q2, q3, q4, hpos, ho, hcd, ⟨ccl, cdd, vs, ccs, file, tf, hcode, hvs, hfile⟩, cl, cld, csl, hcell⟩ := T.fn
  obtain ⟨nm, q, N, bs, bm, sn, sub, ab, col, dd, k0, k1, k2, k3, k5, hC, hbm⟩ := T.cls
  have hcl : clsIn K C = some { name := nm, bases := bs, mro := .ref C :: bm, ns := N, qualname := q, hasDict := true, slotNames := sn, subclasses := sub, abstract := ab, collection := col, hasDel := false } := by unfold clsIn; rw [hC] <;> rfl
  refine ks_codeAny_call_defAt (fd := ksFn "__init__" "BadThing.__init__" (iA p1 p2) (iB msg i5 r1 r2 r3 r4 r5 r6 q1 q2 q3 q4) iS .none .none doc pm an (.ref cda) ct cc) (body := iB msg i5 r1 r2 r3 r4 r5 r6 q1 q2 q3 q4) (binds := [("self", .ref x), ("thing", v)]) hroom (X _ _ ho) rfl hlim (codeRec_of X hcd) rfl (BindsTo.of_eq (by first | rfl | with_unfolding_all rfl)) (show ∀ y ∈ iS.names, y.2 ≠ .cell by decide) (by intro y hy; simp only [List.mem_cons, List.not_mem_nil, or_false] at hy; rcases hy with rfl | rfl <;> rfl) (fun h₁ hn k => ?_)
  have X₁ : K.In h₁ := X.keeps k
  have hx₁ := k _ _ hx
  have hxL : s.heap.objs.size ≠ x := Nat.ne_of_gt (Heap.lt_size hx)
  have z0 : s.heap.objs.size < h₁.objs.size := hn.lt
  have hC₁ := X₁ _ _ hC
  obtain ⟨hp, g, d, tk, os⟩ := s
  refine ks_wpAt_execs_cons (ks_wpAt_Expr_any (ks_wpAt_MethodCall (pl := (do return (← importBound (.Call (.Name "super" r1) [] [] r2) (ksEnv "BadThing.__init__" iS hp.objs.size fI (.ref cda) cc)).getD true)) ?_ (he_sup hpos)))
  refine ks_wpAt_super_base (env := ksEnv "BadThing.__init__" iS hp.objs.size fI (.ref cda) cc) rfl rfl (by decide) rfl (X₁ _ _ ho) rfl (ar := { arg := "self", annotation := none, pos := p1 }) rfl rfl (X₁ _ _ hcode) rfl hvs hfile T.top ?_
  refine ks_loadName_global rfl rfl (loadGlobal_builtin (env := ksEnv "BadThing.__init__" iS hp.objs.size fI (.ref cda) cc) (hg.keeps k) T.noS (hb.keeps k) hbb ⟨rfl, ?_⟩)
  refine wpAny_loadName_free rfl rfl rfl ⟨_, X₁ _ _ hcell, rfl⟩ ?_
  refine wpAny_loadName_local rfl rfl hn (v := .ref x) rfl ?_
  refine ks_wpAny_isType_cls hC₁ rfl ⟨rfl, ?_⟩
  refine ks_wpAny_call_super hC₁ rfl hx₁ rfl (fun c e => by cases e) (looks_mroIn X₁ T.sS) (fun h₂ e₂ kk => ?_)
  have X₂ : K.In h₂ := X₁.keeps kk
  have hx₂ := kk _ _ hx₁
  have I₂ : InstAt h₂ x (excO C t0) C none := ⟨hx₂, rfl, rfl, trivial⟩
  have hI : Looks (model prog w) h₂ (isInstance (.ref x) (.type "ValueError")) true := I₂.type.andThen (looks_subIn X₂ T.vE)
  have hm : alongIn K "__init__" (((Value.ref C :: bm).dropWhile (· != .ref C)).drop 1) = some (some (.builtin "ValueError.__init__")) := by
    have q := T.sup
    unfold ks_superIn at q
    rw [hcl] at q
    exact q
  refine kxs_getMethod kxs_ValueError e₂ (looks_opaque X₂ T.opq) (l₀ := .ref C :: bm) (fun A Q E s k q => wpAny_bind ((looks_clsIn X₂ hcl) A _ E s k (wpAny_pure q))) rfl X₂ hm hI (ks_ne X₂ I₂ hcl) (by decide) ?_
  have k3' : ∀ b o, h₂.get? b = some o → (h₂.push (kxs_mw "ValueError.__init__" x)).get? b = some o := fun b o e => Heap.get?_push_of_some _ e
  have hmw : (h₂.push (kxs_mw "ValueError.__init__" x)).get? h₂.objs.size = some (kxs_mw "ValueError.__init__" x) := Heap.get?_push_at rfl rfl
  refine kxs_callWith (i := "ValueError.__init__") (x := x) rfl (evalArgs_plain (Calls.spliced_cons (wpAny_Constant_str (k := i5) (pos := r4) (Calls.spliced_nil ⟨hmw, ?_⟩))))
  refine call_bwV (k3' _ _ (X₂ _ _ hC)) (k3' _ _ hx₂) hmw (one_size _) fun h₃ t1 ke hx₃ => ?_
  have old : ∀ b o, b ≠ x → hp.get? b = some o → h₃.get? b = some o := fun b o hb e => ke b o hb (k3' _ _ (kk _ _ (k _ _ e)))
  have X₃ : K.In h₃ := kept_but X hnx old
  have hn₃ : h₃.Ns hp.objs.size (fun y => [(PySem.Str.ofString "self", Value.ref x), (PySem.Str.ofString "thing", v)].reverse.lookup y) := by
    obtain ⟨ob, es, ep, eo, r⟩ := hn
    exact ⟨ob, es, ep, ke _ _ hxL (k3' _ _ (kk _ _ eo)), r⟩
  have sz : hp.objs.size < h₃.objs.size := hn₃.lt
  refine wpAt_of_wpAny (wpAny_execs_cons (plainObj_wpAny_Assign_Attribute ?_))
  refine ldC (v := v) hn₃ rfl (ldC (v := .ref x) hn₃ rfl ?_)
  refine set_plain X₃ (ox := excO C t1) (od := none) ⟨hx₃, rfl, rfl, trivial⟩ T.sa ?_
  refine exc_osa X₃ hx₃ hcl (show refsVE (.ref C :: bm) = true from hbm) rfl T.noN (fun h₄ tk₄ dx k₄ dn dne hx₄ hn₄ => ?_)
  show wpAny _ _ (execs _ _) _ _ _
  exact wpAny_execs_nil (hq h₄ tk₄ dx t1 ⟨fun b o hb e => k₄ b o hb (old b o hb e), hx₄, Nat.le_of_lt (Nat.lt_of_lt_of_le sz dn), dne, hn₄⟩)
theorem bad_made (T : BadTxt prog K mg C fI) {v : Value} (X : K.In s.heap) (hg : s.heap.Ns mainGlobals mg) (hb : s.heap.Ns builtinsNs mb) (hbb : mb "super" = bootBuiltins "super") (hlim : s.heap.NoLimit) (hroom : A.depth + 1 < recursionLimit)
    (hq : ∀ h' tk e d, OwnMade s.heap h' e C d v → R (.ok (.ret (.ref e))) { s with heap := h', toks := tk }) :
    codeAny (model prog w) A (.call (.ref C) ⟨[v], []⟩) R s := by
  obtain ⟨nm, q, N, bs, bm, sn, sub, ab, col, dd, k0, k1, k2, k3, k5, hC, hbm⟩ := T.cls
  obtain ⟨hp, g, dr, tk, os⟩ := s
  have k : ∀ b o, hp.get? b = some o → ((hp.push (kdv_tup [v])).push (excO C hp.objs.size)).get? b = some o := fun b o e => Heap.get?_push_of_some _ (Heap.get?_push_of_some _ e)
  have hget : ((hp.push (kdv_tup [v])).push (excO C hp.objs.size)).get? (hp.objs.size + 1) = some (excO C hp.objs.size) := by heap_get
  have hnx : K.lookup (hp.objs.size + 1) = none := by
    cases e : K.lookup (hp.objs.size + 1) with
    | none => rfl
    | some o =>
      have z : hp.get? (hp.objs.size + 1) = some o := X _ _ e
      exact absurd (Nat.lt_of_succ_lt (Heap.lt_size z)) (Nat.lt_irrefl _)
  refine call_own F.excBase_ValueError (fun X => refsVE_contains X bm hbm) (X _ _ hC) (looks_findIn X T.iC) (fun self => bind_fn X self T.tC) (one_size v) ?_
  refine bad_init (s := ⟨(hp.push (kdv_tup [v])).push (excO C hp.objs.size), g, dr, tk, os⟩) T (X.keeps k) (hg.keeps k) (hb.keeps k) hbb (hlim.keeps k) hget hnx ?_ fun h' tk' dx t1 ⟨k', hx, dn, dne, hns⟩ => ?_
  · show A.depth + 1 < recursionLimit
    exact hroom
  · have old : ∀ b o, hp.get? b = some o → h'.get? b = some o := fun b o e => k' b o (Nat.ne_of_lt (Nat.lt_succ_of_lt (Heap.lt_size e))) (k b o e)
    have z : hp.objs.size + 1 + 1 ≤ dx := by
      first
        | (simpa only [Heap.size_push] using dn)
        | exact dn
        | (have q := dn; rw [Heap.size_push, Heap.size_push] at q; exact q)
    exact ⟨rfl, hq h' tk' (hp.objs.size + 1) dx ⟨old, Nat.le_succ _, ⟨_, _, hx, rfl, rfl, rfl, rfl⟩, Nat.le_trans (Nat.le_trans (Nat.le_succ _) (Nat.le_succ _)) z, dne, hns⟩⟩
end
end BadX
end PySem
set_option Elab.async false
set_option linter.all false
set_option maxRecDepth 100000
set_option maxHeartbeats 2000000
/-! PL 21: raise BadThing(..), the law's own _law_refuses(lambda: .., due). -/
namespace L2
namespace PL
open PySem PySem.Spec PyProof.Rows

theorem relO_thg {v : V} {v' : Value} (r : RelV v v') (f : Str) : RelO (List.lookup f [(thg, v)]) (if f = "thing" then some v' else none) := by
  by_cases c : f = "thing"
  · subst c
    rw [if_pos rfl]
    have q : List.lookup ("thing" : Str) [(thg, v)] = some v := by simp [List.lookup, thg]
    rw [q]
    exact r
  · rw [if_neg c]
    have qc : (f == ("thing" : Str)) = false := by simpa using c
    have q2 : List.lookup f [(thg, v)] = none := by simp [List.lookup, thg, qc]
    rw [q2]
    trivial
section
variable {X : Cx} {C fI : Addr}
/-- BadThing(e) -/
def tMkBad (C : Addr) (ta : TA) : St → Hp → XK → Prop := fun σ H Q => ta σ H fun vs H1 => ∃ v, vs = [v] ∧ ∀ d, H1 d = none → Q (.ref C) (some d) (upd H1 d (.xd [(thg, v)]))
theorem pmk_bad {a : Expr} {ta : TA} {p pos : Pos} {k : Nat} (T : BadX.BadTxt X.prog X.K X.mg C fI) (hr : Room k X.A) (ha : PA X [a] ta) (hg : Gl X "BadThing" := by rfl)
    (he : starEach (a :: []) X.env = (false, eval a X.env) :: starEach [] X.env := by rfl) (hpl : (backTo pos (starEach [] X.env)).any (·.1) = false := by rfl) :
    PMk X (.Call (.Name "BadThing" p) [a] [] pos) (tMkBad C ta) := by
  intro pins s σ H Q I h
  refine wpAny_Call_Name_kw (ld_glob I hg T.gC ?_)
  refine PySem.W.callWith_K (h₀ := X.base) I.ok.mod.kin T.kC (thn (ha.run pos pins s σ H _ I h) fun us s1 hh => ?_) he hpl
  obtain ⟨vs, H1, I1, r1, v, ev, q1⟩ := hh
  subst ev
  refine ⟨I1.kIn, ?_⟩
  cases r1 with
  | cons rv rn =>
    rename_i v' us'
    cases rn
    show wpAny _ _ (call (.ref C) [v']) _ _ _
    have hlim := I1.nolimit
    obtain ⟨mb, hbn, hbb⟩ := I1.mod.blt
    have gN := I1.mod.glob.keeps I1.bk
    have bN := hbn.keeps I1.bk
    obtain ⟨hp, g, dr, tk, os⟩ := s1
    refine wpAny_call (BadX.bad_made T I1.kIn gN bN (hbb _ (by decide)) hlim (by have := hr.dp; omega) fun h' tk' e d M => ?_)
    show MkP X pins σ Q (.ref e) ⟨h', g, dr, tk', os⟩
    obtain ⟨oe, fv, hoe, hc, hd, hdat, h1⟩ := M.obj
    have hns := M.ns
    obtain ⟨G', g1, g2⟩ := restrict h' fun b => decide (b ≠ e)
    have gk : ∀ b, b ≠ e → G'.get? b = h'.get? b := fun b hb => g1 b (decide_eq_true hb)
    have ge : G'.get? e = none := g2 e (by simp)
    have old : ∀ b o, hp.get? b = some o → G'.get? b = some o := fun b o q => (gk b (Nat.ne_of_lt (Nat.lt_of_lt_of_le (Heap.lt_size q) M.new))).trans (M.keep b o q)
    have ob : ObjOk X.prog X.w (upd H1 d (.xd [(thg, v)])) G' d (.xd [(thg, v)]) :=
      ⟨_, hns.at (fun o q => (gk d M.dne).trans q), fun f => relO_thg rv f⟩
    have J : Inv X pins σ (upd H1 d (.xd [(thg, v)])) ⟨G', g, dr, tk', os⟩ := I1.laid (t' := tk') old M.dbig ob
    refine ⟨e, oe, fv, ⟨G', g, dr, tk', os⟩, _, .ref C, some d, rfl, J, fun b o q => ?_, ge, hoe, ⟨hc, hd⟩, hdat, h1, ?_, rfl, I1.bare, raises_own T.exC T.tyC, q1 d (I1.hok.fresh M.dbig)⟩
    · by_cases hb : b = e
      · have q' : G'.get? b = some o := q
        rw [hb, ge] at q'; cases q'
      · exact (gk b hb).symm.trans q
    · rw [upd_ne (Ne.symm M.dne)]
      exact I1.hok.fresh M.new
/-- raise BadThing(e) -/
def fRaise (fa : Fn) : FnS := fun ρ g => (fa ρ g).bind fun d g1 => .bad d g1
theorem cs_raise {W : Wd} {a : Expr} {fa : Fn} {p pos pos2 : Pos} {k : Nat} (hc : X.calm = true) (T : BadX.BadTxt X.prog X.K X.mg W.C fI) (hr : Room k X.A) (tk : Takes X fun cls d _ H => W.E cls d H) (ha : PE X a (tE W fa)) (hg : Gl X "BadThing" := by rfl)
    (he : starEach (a :: []) X.env = (false, eval a X.env) :: starEach [] X.env := by rfl) (hpl : (backTo pos (starEach [] X.env)).any (·.1) = false := by rfl) :
    PS X (.Raise (some (.Call (.Name "BadThing" p) [a] [] pos)) none pos2) (tS W (fRaise fa)) := by
  refine PS.imp (ps_raise hc tk (pmk_bad T hr (pa_cons ha pa_nil he) hg he hpl)) ?_
  rintro D σ H ⟨ρ, g, dr, ad, G, G0, H0, S, h⟩
  refine seqE S.sr poS (P := pS W dr G0 H0 D) ⟨S.ext, h⟩ fun v H1 d g1 G1 S1 x1 r1 hh => ?_
  refine ⟨v, rfl, fun dx hd => ?_⟩
  have hb : badP W dr G0 H0 d g1 := hh.2
  have S2 : SB W ρ g dr ad σ G0 H0 G H := S
  exact hb v dx G1 _ (S1.gi.new hd) ((S.ext.trans x1).trans (Ext.new hd)) upd_same r1
/-- e.thing, e the exception that the suite holds -/
def tThg (C : Addr) (a : Addr) (cls : Value) (d : Option Addr) (te : TE) : TE := fun σ H Q => te σ H fun x H1 => x = .ref a ∧ cls = .ref C ∧ ∃ (dd : Addr) (v : V), d = some dd ∧ H1 dd = some (.xd [(thg, v)]) ∧ Q v H1
theorem pe_thg {a : Addr} {oe : Obj} {cls : Value} {d : Option Addr} {pn : List (Addr × Obj)} {e : Expr} {te : TE} {pos : Pos} (T : BadX.BadTxt X.prog X.K X.mg C fI) (hz : Zc cls d oe) (hf : ∃ vs, oe.data = .fields vs) (he : PE (X.suite a ((a, oe) :: pn)) e te)
    (hb : attributeBase e "thing" X.env (eval e X.env) = eval e X.env := by rfl) : PE (X.suite a ((a, oe) :: pn)) (.Attribute e "thing" pos) (tThg C a cls d te) := by
  refine ⟨fun pins s σ H Q I h => ?_⟩
  refine attr_of hb (thn (he.run pins s σ H _ I h) fun u s1 ⟨x, H1, I1, rx, ex, ec, dd, v, ed, ea, q⟩ => ?_)
  subst ex
  obtain rfl : u = Value.ref a := rx
  subst ec
  subst ed
  obtain ⟨ha, _⟩ := I1.pin (a, oe) (List.mem_append_left _ List.mem_cons_self)
  obtain ⟨vs, hd⟩ := hf
  have hx : ObjOk X.prog X.w H1 s1.heap dd (.xd [(thg, v)]) := I1.hok dd _ ea
  obtain ⟨mA, hns, hr⟩ := hx
  obtain ⟨od, ho, hl⟩ := lookIn_ns hns
  have l : List.lookup ("thing" : Str) [(thg, v)] = some v := by simp [List.lookup, thg]
  obtain ⟨u, hu, ru⟩ := RelO.some_of (v := v) (o := mA "thing") (by rw [← l]; exact hr "thing")
  have J : PySem.W.InstAt s1.heap a oe C (some od) := ⟨ha, hz.1, by unfold PySem.W.notCls; rw [hd] <;> rfl, by rw [hz.2]; exact ho⟩
  exact HandSPX.exc_get I1.kIn J T.ga T.gg T.exC (PySem.W.findObj_own T.hdC T.noN rfl (by rw [hl, hu])) (handed_of ru) ⟨v, H1, I1.tok _, ru, q⟩
end
section
variable {X : Cx} {pins : List (Addr × Obj)} {σ : L2.St} {H HZ : Hp} {s s1 : Shared}
open LamX
/-- a(), a the lambda that was handed over; the slots of the caller of a are told to the wish -/
theorem pe_actS {Ng : List Str} {qg : Str} {sg : Scope} {g f c' : Addr} {cdg pm ctv : Value} {params : Arguments} {body : Expr} {scope : Scope} {k i : Nat} {a : Str} {pn : List (Addr × Obj)} {xe : Value → Shared → Prop} {W : WX} {Eg : XK} {t : XK → TE} {p1 p2 : Pos}
    (I : Inv X pins σ H s) (L : LamS X.env.scope scope) (hf : s.heap.get? f = some (PySem.W.kla_obj "<lambda>" (X.env.qual ++ "<lambda>") params body scope (cloFrom X.env.cells scope.names []) pm c' ctv)) (hfn : H f = none) (hfr : f ∉ frs X.stack)
    (hbind : bindArgs (PySem.W.kla_fn "<lambda>" (X.env.qual ++ "<lambda>") params body scope (cloFrom X.env.cells scope.names []) pm (.ref c') ctv) ⟨[], []⟩ = pure [])
    (tk : Takes ((cxOf (L2.CX X.prog X.w) X.prog X.w X.K X.mg X.base Ng qg sg g cdg X.A X.stack s H Eg).tr pn xe) W) (hr : Room (k + 1) (X.A.deeper (envOfC qg sg s.heap.objs.size g cdg)))
    (hbody : ∀ (A : Around) (outer : List PySem.Env) (s : Shared) (H : Hp) (E : XK), A.guards = X.A.guards → Room k (A.deeper (lamEnv X scope s.heap.objs.size f c')) → PE (lamCx X A outer s H E scope f c') body (t E))
    (hN : Ng[i]? = some a) (hv : Vis sg a) (hd : (a == ("__debug__" : Str)) = false := by decide) (hcd : (a == ("__classdict__" : Str)) = false := by decide) :
    PE ((cxOf (L2.CX X.prog X.w) X.prog X.w X.K X.mg X.base Ng qg sg g cdg X.A X.stack s H Eg).tr pn xe) (.Call (.Name a p1) [] [] p2)
      (fun σZ HZ Q => σZ[i]? = some (some (.ref f)) ∧ HZ c' = some (CodeO c' (X.env.qual ++ "<lambda>")) ∧ t (fun cls d H' => W cls d σZ H') σ HZ Q) := by
  refine ⟨fun pinsZ sZ σZ HZ Q IZ ⟨hs, hc, ht⟩ => ?_⟩
  refine wpAny_Call_Name_kw (thn ((pe_var (pos := p1) (i := i) hN hv hd hcd).run pinsZ sZ σZ HZ (fun v H1 => v = .ref f ∧ H1 = HZ) IZ ⟨.ref f, hs, rfl, rfl⟩) fun u s1 ⟨v, H1, I1, r1, ev, eH⟩ => ?_)
  subst ev
  rw [eH] at I1
  obtain rfl : u = Value.ref f := r1
  have of1 : s1.heap.get? f = some (PySem.W.kla_obj "<lambda>" (X.env.qual ++ "<lambda>") params body scope (cloFrom X.env.cells scope.names []) pm c' ctv) := I1.base.keep f _ hf hfn hfr (fun z => nomatch (show f ∈ ([] : List Addr) from z))
  refine PySem.W.callWith_F0 ⟨_, _, _, _, of1⟩ ?_
  have un : Un (frs X.stack) [] H HZ s.heap s1.heap := I1.base
  obtain ⟨⟨oc, vs, tt, hoc, hdc, hvc⟩, _, _⟩ := I1.hok c' _ hc
  have rc : codeAny (model X.prog X.w) (X.A.deeper (envOfC qg sg s.heap.objs.size g cdg)) (.call (.ref f) ⟨[], []⟩) (CR (L2.CX X.prog X.w) (envOfC qg sg s.heap.objs.size g cdg :: X.stack) X.prog X.w HZ s1 Q (fun cls d H' => W cls d σZ H')) s1 := by
    refine PySem.W.kla_callFunE hr.depth of1 rfl L.co L.gen rfl ⟨c', oc, vs, tt, rfl, hoc, hdc, hvc⟩ ?_
    rw [hbind]
    refine wpAny_pure (wpAny_newFunctionEnv (fun y hy => (L.own y hy).2) (fun y hy => absurd hy (by simp)) (fun h₁ hns hsb => ⟨I1.nolimit.fresh _ hsb, ?_⟩) L.kind)
    show codeAny _ _ (.expr body (lamEnv X scope s1.heap.objs.size f c')) _ _
    have kp : ∀ b o, s1.heap.get? b = some o → h₁.get? b = some o := fun b o e => hsb.extBut b o (Nat.ne_of_lt (Heap.lt_size e)) (Heap.get?_push_of_some _ e)
    have J : Inv (lamCx X (X.A.deeper (envOfC qg sg s.heap.objs.size g cdg)) (envOfC qg sg s.heap.objs.size g cdg :: X.stack) s1 HZ (fun cls d H' => W cls d σZ H') scope f c') [] σ HZ { s1 with heap := h₁, toks := s1.toks + ([] : List (Str × Value)).length } :=
      lam_start2 I L I1.env0 hr.hd un hns kp
    refine PySem.W.kla_codeExpr (wpAny_mono ((hbody (X.A.deeper (envOfC qg sg s.heap.objs.size g cdg)) _ s1 HZ _ rfl (hr.deeper _)).run [] _ _ HZ Q J ht) (fun v s' ⟨w', H', J', rv, q⟩ => ?_) fun e s' hq => hq)
    exact ⟨w', H', J'.os, J'.bare, J'.base, J'.hok, rv, q⟩
  refine wpAny_call (codeAny_mono rc fun r s' hq => ?_)
  cases r with
  | error e => exact passAt tk σZ pinsZ HZ s1 e s' I1 hq
  | ok fl =>
    cases fl with
    | ret u => exact I1.after hq
    | next => exact False.elim hq
    | brk => exact False.elim hq
    | cont => exact False.elim hq
/-! ### _law_refuses(lambda: .., due) -/
def refArgs (p1 p2 : Pos) : Arguments := { posonlyargs := [], args := [{ arg := "work", annotation := none, pos := p1 }, { arg := "due", annotation := none, pos := p2 }], vararg := none, kwonlyargs := [], kw_defaults := [], kwarg := none, defaults := [] }
def refN : List Str := ["work", "due", "e"]
/-- what is to be known of _law_refuses -/
structure RefTxt (K : PySem.W.Frag) (mg : Str → Option Value) (g : Addr) (bg : List Stmt) (sg : Scope) : Prop where
  gm : mg "_law_refuses" = some (.ref g)
  kp : PySem.W.keepIn K (.ref g) = true
  fn : ∃ (oc : Value) (od : Option Addr) (pg : Arguments) (kV doc pm : Value) (an : Option Addr) (cdv ct : Value) (osl : Array (Option Value)), K.lookup g = some ⟨oc, od, .func (PySem.W.fnOf "_law_refuses" "_law_refuses" pg bg sg .none kV doc pm an cdv ct), osl⟩ ∧ PySem.W.codeIn K cdv "_law_refuses" = true ∧
    Binds K (PySem.W.fnOf "_law_refuses" "_law_refuses" pg bg sg .none kV doc pm an cdv ct) ["work", "due"] []
  sc : FnScope refN ["work", "due"] sg
  gl1 : sg.names.lookup ("repr" : Str) = some NameKind.globalImplicit
  gl2 : sg.names.lookup ("BadThing" : Str) = some NameKind.globalImplicit
  lo : sg.names.lookup ("e" : Str) = some NameKind.local
  nr : mg "repr" = none
def refBody (j1 : Nat) (p1 p2 p3 p4 p5 p6 p7 p8 p9 p10 p11 p12 p13 p14 p15 p16 : Pos) : List Stmt :=
  [.Try [.Expr (.Call (.Name "work" p1) [] [] p2) p3, .Return (some (.Constant (.bool false) j1 p4)) p5] [.ExceptHandler (some (.Name "BadThing" p6)) (some "e") [.Return (some (.Compare (.Call (.Name "repr" p7) [.Attribute (.Name "e" p8) "thing" p9] [] p10) [.Eq] [.Call (.Name "repr" p11) [.Name "due" p12] [] p13] p14)) p15] p16] [] [] p16]
end
end PL
end L2
set_option Elab.async false
set_option linter.all false
set_option maxRecDepth 100000
set_option maxHeartbeats 2000000
/-! PL 22: _law_refuses(lambda: .., due) over data. -/
namespace L2
namespace PL
open PySem PySem.Spec PyProof.Rows LamX

section
variable {X : Cx} {pins : List (Addr × Obj)} {σ : L2.St} {H : Hp} {s : Shared}
/-- a lambda is made; what was tracked stays tracked -/
theorem lam_make3 {T : List (Addr × Str)} {c P : Addr} {ps : Arguments} {b : Expr} {sc : Scope} {pos : Pos} {E : Value → Shared → Prop} {Q : Value → Shared → Prop} (I : Inv X pins σ H s) (TB : TabB X.base X.mg c P) (hco : X.env.code = .ref c)
    (hm : (P, X.env.qual ++ "<lambda>") ∈ T) (hu : ∀ p ∈ T, p.1 = P → p.2 = X.env.qual ++ "<lambda>") (hT : Tabs T H) (hd : defaultsOf ps X.env = ([], [])) (hfree : ∀ y ∈ sc.names, y.2 = .free → ∃ c, X.env.cells.lookup y.1 = some c)
    (h : ∀ (f c' : Addr) (pm ctv : Value) (H1 : Hp) (s' : Shared), Inv X pins σ H1 s' → ExtN H H1 → (∀ a o, H a = some o → ∃ o', H1 a = some o') → Tabs T H1 →
      s'.heap.get? f = some (PySem.W.kla_obj "<lambda>" (X.env.qual ++ "<lambda>") ps b sc (cloFrom X.env.cells sc.names []) pm c' ctv) → H1 f = none → f ∉ frs X.stack → H1 c' = some (CodeO c' (X.env.qual ++ "<lambda>")) → Q (.ref f) s') :
    wpAny (model X.prog X.w) X.A (eval (.Lambda ps b sc pos) X.env) Q E s := by
  obtain ⟨tp, hP, ht, ha⟩ := hT _ hm
  refine PySem.W.kla_eval hd ?_
  have bP : s.heap.BuiltinsAt X.mg P := TB.bm.keeps I.bk
  have oP : s.heap.get? P = some { cls := .none, data := .fields tp } := I.hok P _ hP
  have away : ∀ f, s.heap.objs.size ≤ f → f ∉ frs X.stack := fun f hf z => (List.mem_cons.mp (I.stkSub _ z)).elim (fun e => by
    have q := I.lt
    rw [← e] at q
    exact absurd (Nat.lt_of_lt_of_le q hf) (Nat.lt_irrefl _)) (I.nofs hf)
  cases hc : codeAmong pos tp.toList with
  | some cv =>
    obtain ⟨c', rfl, hco'⟩ := ha pos cv hc
    refine PySem.W.kla_makeFunctionHit (mg := X.mg) (c := c) (P := P) (ps := tp) (closure_ok hfree) I.ok.glob (I.mod.glob.keeps I.bk) hco (TB.code.keeps I.bk) oP ht hc bP fun ctv h' tk hx hsz => ?_
    refine h h'.objs.size c' ((X.mg "__name__").getD .none) ctv H _ (I.kept fun d o e => Heap.get?_push_of_some _ (hx d o e)) (ExtN.refl H) (fun _ o e => ⟨o, e⟩) hT (Heap.get?_push_size _ rfl) (I.hok.fresh hsz) (away _ hsz) hco'
  | none =>
    refine PySem.W.kla_makeFunction (mg := X.mg) (c := c) (P := P) (ps := tp) (closure_ok hfree) I.ok.glob (I.mod.glob.keeps I.bk) hco (TB.code.keeps I.bk) oP ht hc TB.gP bP fun c' ctv h' tk hx hge hlt ⟨c2, oc, vs, t, e2, hoc, hdt, hv⟩ htb => ?_
    cases e2
    have big : s.heap.objs.size ≤ h'.objs.size := Nat.le_trans hge (Nat.le_of_lt hlt)
    have nC : H c' = none := I.hok.fresh hge
    have J := inv_table (t' := tk) (more := #[rawInt pos.line, rawInt pos.col, .ref c']) (h' := h'.push (PySem.W.kla_obj "<lambda>" (X.env.qual ++ "<lambda>") ps b sc (cloFrom X.env.cells sc.names []) ((X.mg "__name__").getD .none) c' ctv)) I hP
      (fun d o hb e => Heap.get?_push_of_some _ (hx d o hb e)) (Heap.get?_push_of_some _ htb) hge ⟨oc, vs, t, Heap.get?_push_of_some _ hoc, hdt, hv⟩
    obtain ⟨H1, eH⟩ : ∃ H1 : Hp, upd (upd H P (.tbl (tp ++ #[rawInt pos.line, rawInt pos.col, .ref c']))) c' (CodeO c' (X.env.qual ++ "<lambda>")) = H1 := ⟨_, rfl⟩
    have atC : H1 c' = some (CodeO c' (X.env.qual ++ "<lambda>")) := by rw [← eH, upd_same]
    have atP : H1 P = some (.tbl (tp ++ #[rawInt pos.line, rawInt pos.col, .ref c'])) := by rw [← eH, upd_ne (ne_of_none hP nC), upd_same]
    have els : ∀ d, d ≠ P → d ≠ c' → H1 d = H d := fun d h1 h2 => by rw [← eH, upd_ne h2, upd_ne h1]
    rw [eH] at J
    have eN : ExtN H H1 := fun d o e n => by rw [els d (fun z => n tp (Option.some.inj (e.symm.trans (by rw [z]; exact hP)))) (ne_of_none e nC)]; exact e
    have eL : (tp ++ #[rawInt pos.line, rawInt pos.col, .ref c']).toList = tp.toList ++ [rawInt pos.line, rawInt pos.col, .ref c'] := by simp
    refine h h'.objs.size c' ((X.mg "__name__").getD .none) ctv H1 _ J eN (fun d o e => ?_) (fun p hp => ?_) (Heap.get?_push_size _ rfl) ?_ (away _ big) atC
    · by_cases hb : d = P
      · exact ⟨_, by rw [hb]; exact atP⟩
      · exact ⟨o, by rw [els d hb (ne_of_none e nC)]; exact e⟩
    · by_cases hb : p.1 = P
      · rw [hu p hp hb, hb]
        refine ⟨_, atP, by rw [eL]; exact PySem.TriplesOk_snoc _ _ _ _ ht, fun p' cv hcv => ?_⟩
        rw [eL] at hcv
        rcases among_app _ ht hcv with z | z
        · obtain ⟨c0, e1, e2⟩ := ha p' cv z
          exact ⟨c0, e1, eN _ _ e2 codeO_ne⟩
        · exact ⟨c', z, atC⟩
      · obtain ⟨tq, a1, a2, a3⟩ := hT p hp
        refine ⟨tq, by rw [els _ hb (ne_of_none a1 nC)]; exact a1, a2, fun p' cv hcv => ?_⟩
        obtain ⟨c0, e1, e2⟩ := a3 p' cv hcv
        exact ⟨c0, e1, eN _ _ e2 codeO_ne⟩
    · rw [els _ (Nat.ne_of_gt (Nat.lt_of_lt_of_le (Heap.lt_size oP) big)) (Nat.ne_of_gt hlt)]
      exact I.hok.fresh big
end
theorem GI.re {K : PySem.W.Frag} {T : List (Addr × Str)} {C C' : Addr} {E E' : XK} {g : Gs} {dr : Option Addr} {G H : Hp} (i : GI ⟨K, T, C, E⟩ g dr G H) : GI ⟨K, T, C', E'⟩ g dr G H := ⟨i.sub, i.imm, i.draw, i.tabs⟩
theorem SR.re {K : PySem.W.Frag} {T : List (Addr × Str)} {C C' : Addr} {E E' : XK} {ρ : Env} {g : Gs} {dr : Option Addr} {ad : Nat → Addr} {σ : L2.St} {G H : Hp} (S : SR ⟨K, T, C, E⟩ ρ g dr ad σ G H) : SR ⟨K, T, C', E'⟩ ρ g dr ad σ G H := ⟨S.gi.re, S.len, S.slot, S.inj⟩
/-- the lambda's making, to data -/
theorem GI.lam {W : Wd} {g : Gs} {dr : Option Addr} {G H H1 : Hp} (i : GI W g dr G H) (e : ExtN H H1) (t : Tabs W.T H1) : GI W g dr G H1 :=
  ⟨fun a o ho => e a o (i.sub a o ho) fun ps z => by
      have m := i.imm a o ho
      rw [z] at m
      exact m, i.imm, by
    have q := i.draw
    cases g with
    | none => exact q
    | some p => obtain ⟨x, v, h1, h2, h3, h4⟩ := q; exact ⟨x, v, h1, h2, e _ _ h3 (fun ps z => by cases z), h4⟩, t⟩
theorem Ext.lam {dr : Option Addr} {G H H1 : Hp} (e : ExtN H H1) (d : ∀ a o, H a = some o → ∃ o', H1 a = some o') : Ext dr G H G H1 := ⟨fun _ _ z => z, fun a o ho _ n => e a o ho n, fun _ _ _ _ _ z => z, d⟩
/-- what _law_refuses tells -/
def refuD (due : PyData) : Res PyData → Res PyData
  | .ok _ g => .ok (.bool false) g
  | .bad d g => if reprOk d && d.showable && decide (d.shown.length ≤ sizeLine) && reprOk due && due.showable && decide (due.shown.length ≤ sizeLine) then .ok (.bool (decide (d.shown = due.shown))) g else .no
  | .no => .no
def fRefu (fb fd : Fn) : Fn := fun ρ g => (fd ρ g).bind fun d g1 => refuD d (fb ρ g1)
section
variable {X : Cx} {T : List (Addr × Str)} {E : XK} {C fI g c P : Addr} {bg : List Stmt} {sg : Scope}
def tSuite (K : PySem.W.Frag) (C : Addr) : Addr → Value → Option Addr → TS := fun a cls d => tRet (tOp (rEqX K false) (tCB (rReprD K) (tCons (tThg C a cls d (tVar 2)) tNil)) (tCB (rReprD K) (tCons (tVar 1) tNil)))
theorem ce_refu {params : Arguments} {body due : Expr} {scope : Scope} {fb fd : Fn} {k : Nat} {p lpos pos : Pos} {j1 : Nat} {p1 p2 p3 p4 p5 p6 p7 p8 p9 p10 p11 p12 p13 p14 p15 p16 p17 : Pos} (RT : RefTxt X.K X.mg g bg sg)
    (hbg : bg = [.Try [.Expr (.Call (.Name "work" p1) [] [] p2) p3, .Return (some (.Constant (.bool false) j1 p4)) p5] [.ExceptHandler (some (.Name "BadThing" p6)) (some "e") [.Return (some (.Compare (.Call (.Name "repr" p7) [.Attribute (.Name "e" p8) "thing" p9] [] p10) [.Eq] [.Call (.Name "repr" p11) [.Name "due" p12] [] p13] p14)) p15] p16] [] [] p17])
    (BT : BadX.BadTxt X.prog X.K X.mg C fI) (TB : TabB X.base X.mg c P) (hco : X.env.code = .ref c) (hmT : (P, X.env.qual ++ "<lambda>") ∈ T) (hu : ∀ p ∈ T, p.1 = P → p.2 = X.env.qual ++ "<lambda>")
    (hgd : X.A.guards = some []) (hr : Room (k + 2) X.A) (L : LamS X.env.scope scope) (hdef : defaultsOf params X.env = ([], [])) (hbind : ∀ (q : Str) (cl : List (Str × Addr)) (pm cv ctv : Value), bindArgs (PySem.W.kla_fn "<lambda>" q params body scope cl pm cv ctv) ⟨[], []⟩ = pure [])
    (hbody : ∀ (A : Around) (outer : List PySem.Env) (s : Shared) (H : Hp) (E : XK) (f c' : Addr), A.guards = some [] → Room k (A.deeper (lamEnv X scope s.heap.objs.size f c')) → PE (lamCx X A outer s H E scope f c') body (tE ⟨X.K, T, C, E⟩ fb))
    (hdue : PE X due (tE ⟨X.K, T, C, E⟩ fd)) (hg : Gl X "_law_refuses") (hst : starEach [due] X.env = [(false, eval due X.env)] := by rfl) :
    PE X (.Call (.Name "_law_refuses" p) [.Lambda params body scope lpos, due] [] pos) (tE ⟨X.K, T, C, E⟩ (fRefu fb fd)) := by
  refine ⟨fun pins s σ H Q I h => ?_⟩
  obtain ⟨ρ, gs, dr, ad, G, S, h⟩ := h
  obtain ⟨oc, od, pg, kV, doc, pm, an, cdv, ct, osl, lk, hcg, hb⟩ := RT.fn
  refine wpAny_Call_Name_kw (ld_glob I hg RT.gm ?_ (by decide))
  refine PySem.W.callWith_K (h₀ := X.base) I.ok.mod.kin RT.kp ?_ (by rfl) (by rw [hst]; rfl)
  show wpAny _ _ (spliced ((false, eval (.Lambda params body scope lpos) X.env) :: backTo pos (starEach [due] X.env))) _ _ s
  rw [hst]
  refine Calls.spliced_cons (lam_make3 I TB hco hmT hu S.gi.tabs hdef (L.has I.ok) fun f c' pm' ctv H1 s' I1 eN dN T1 hf hfn hfr hcc => ?_)
  have G1 := S.gi.lam eN T1
  have X1 : Ext dr G H G H1 := Ext.lam eN dN
  have S1 := S.ext X1 G1
  -- the function stands while due is read
  have nL : f ≠ X.env.locals := fun z => by
    obtain ⟨m, hn, _⟩ := I1.loc
    obtain ⟨ob, es, ep, eo, ed, _⟩ := hn
    rw [← z, hf] at eo
    cases eo
    cases ed
  have nF : f ∉ X.fs := fun z => hfr (by
    rcases I1.ok.stk with e | ⟨e, he⟩
    · rw [e]; exact z
    · obtain ⟨b, hb, eb⟩ := List.mem_filterMap.mp z
      rw [e]
      exact List.mem_filterMap.mpr ⟨b, List.mem_cons_of_mem _ hb, eb⟩)
  have I1' : Inv X ((f, _) :: pins) σ H1 s' := I1.pins_of fun q hq => (List.mem_cons.mp hq).elim (fun e => by rw [e]; exact ⟨hf, hfn, nL, nF, fun v z => by cases z⟩) fun e => I1.pin q (List.mem_append_right _ e)
  have due0 : okE ⟨X.K, T, C, E⟩ dr G H1 (fd ρ gs) (fun v2 H2 => ∃ d g1 G2, fd ρ gs = .ok d g1 ∧ GI ⟨X.K, T, C, E⟩ g1 dr G2 H2 ∧ Ext dr G H1 G2 H2 ∧ Rp X.K G2 v2 d) := by
    unfold fRefu at h
    cases e : fd ρ gs with
    | ok d g1 => exact fun v G' H' i x r => ⟨d, g1, G', rfl, i, x, r⟩
    | bad d g1 => rw [e] at h; exact badP.mono h X1
    | no => rw [e] at h; exact h.elim
  refine Calls.spliced_cons (thn (hdue.run _ s' σ H1 _ I1' ⟨ρ, gs, dr, ad, G, S1, due0⟩) fun u2 s2 ⟨v2, H2, I2, r2, d, g1, G2, ed, i2, x12, rp2⟩ => ?_)
  have x2 := X1.trans x12
  refine Calls.spliced_nil ⟨I2.kIn, ?_⟩
  obtain ⟨hf2, hfn2, _⟩ := I2.pin (f, _) (List.mem_append_right _ List.mem_cons_self)
  have hcc2 : H2 c' = some (CodeO c' (X.env.qual ++ "<lambda>")) := x12.h _ _ hcc (fun z => by
    have q := G1.draw
    cases gs with
    | none => rw [show dr = none from q] at z; cases z
    | some p =>
      obtain ⟨y, v, h1, h2, h3, h4⟩ := q
      rw [h1] at z
      cases z
      rw [hcc] at h3
      unfold CodeO at h3
      cases h3) fun ps => codeO_ne ps
  have S2 : SR ⟨X.K, T, C, E⟩ ρ g1 dr ad σ G2 H2 := S.ext x2 i2
  have hh : okE ⟨X.K, T, C, E⟩ dr G H (refuD d (fb ρ g1)) Q := by
    unfold fRefu at h
    rw [ed] at h
    exact h
  have rc : codeAny (model X.prog X.w) X.A (.call (.ref g) ⟨[.ref f, u2], []⟩) (CR (L2.CX X.prog X.w) X.stack X.prog X.w H2 s2 Q (fun _ _ _ => False)) s2 := by
    refine run_ofS (N := refN) (ps := ["work", "due"]) (us := [.ref f, u2]) (vs := [.ref f, v2]) lk hcg RT.sc hr I2.env0 (hb s2 [.ref f, u2] I2.kIn rfl) (.cons rfl (.cons r2 .nil)) rfl fun hr' => ?_
    subst hbg
    have hun := hr'.un
    refine ⟨_, pss_one (ps_try_as (X := cxOf (L2.CX X.prog X.w) X.prog X.w X.K X.mg X.base refN "_law_refuses" sg g cdv X.A X.stack s2 H2 (fun _ _ _ => False)) (c := .ref C) (i := 2) (suite := [])
      (tb := fun W => tSeq (tDrop (fun σZ HZ Q => σZ[0]? = some (some (.ref f)) ∧ HZ c' = some (CodeO c' (X.env.qual ++ "<lambda>")) ∧ tE ⟨X.K, T, C, fun cls d H' => W cls d σZ H'⟩ fb σ HZ Q)) (tRet (tC (.bl false))))
      (ts := tSuite X.K C) (Wout := fun _ _ _ _ => False) rfl rfl (show refN.Nodup by decide) rfl RT.lo ⟨RT.gl2, by decide, .inl BT.gC⟩ takes0 (fun W pn xe tk _ => ?_) (fun a oe cls d pn hz hfl => ?_)), ?_⟩
    · exact pss_cons (ps_expr (pe_actS (i := 0) (t := fun E => tE ⟨X.K, T, C, E⟩ fb) I2 L hf2 hfn2 hfr (hbind _ _ _ _ _) tk hr' (fun A outer s H E' hA hr2 => hbody A outer s H E' f c' (hA.trans hgd) hr2) rfl (RT.sc.par "work" (by decide) |>.elim .inl fun z => .inr (.inl z)))) (pss_one (ps_ret pe_bl))
    · have hun' : (X.A.deeper (envOfC "_law_refuses" sg s2.heap.objs.size g cdv)).units + 128 < cLine := by omega
      exact pss_one (ps_ret (pe_cmpR (or_eqX hun')
        (pe_callB (cr_repr hgd hun') RT.gl1 RT.nr rfl (pa_cons (pe_thg BT hz hfl (pe_var (i := 2) rfl (.inl RT.lo))) pa_nil rfl))
        (pe_callB (cr_repr hgd hun') RT.gl1 RT.nr rfl (pa_cons (pe_var (i := 1) rfl (RT.sc.par "due" (by decide) |>.elim .inl fun z => .inr (.inl z))) pa_nil rfl)) (nomark _)))
    · refine ⟨rfl, hcc2, ρ, g1, dr, ad, G2, S2.re, ?_⟩
      cases ef : fb ρ g1 with
      | ok d' g3 =>
        rw [ef] at hh
        intro v G3 H3 i3 x3 r3
        exact hh (.bl false) G3 H3 i3.re (x2.trans x3) (.bl false)
      | bad d' g3 =>
        rw [ef] at hh
        intro v dx G3 H3 i3 x3 hdx r3
        refine ⟨true, BT.te, fun _ a0 _ => ?_, fun q => Bool.noConfusion q⟩
        unfold refuD at hh
        by_cases c : (reprOk d' && d'.showable && decide (d'.shown.length ≤ sizeLine) && reprOk d && d.showable && decide (d.shown.length ≤ sizeLine)) = true
        · simp only [c, if_true] at hh
          simp only [Bool.and_eq_true, decide_eq_true_eq] at c
          obtain ⟨⟨⟨⟨⟨c1, c2⟩, c3⟩, c4⟩, c5⟩, c6⟩ := c
          refine ⟨_, rfl, rfl, rfl, dx, v, rfl, hdx, v, d', rfl, r3.mono i3.sub, c1, c2, c3, ?_⟩
          refine ⟨v2, rfl, v2, d, rfl, (rp2.mono x3.g).mono i3.sub, c4, c5, c6, ?_⟩
          have hq : okE ⟨X.K, T, C, E⟩ dr G3 H3 (.ok (.bool (decide (d'.shown = d.shown))) g3) Q := fun w G4 H4 i4 x4 r4 => hh w G4 H4 i4 ((x2.trans x3).trans x4) r4
          refine op_eqX (W := ⟨X.K, T, C, E⟩) false dr g3 G3 H3 _ _ (.str d'.shown) (.str d.shown) Q i3.re (.inl (.str _)) (.inl (.str _)) ?_
          have ee : kEqX false (.str d'.shown) (.str d.shown) g3 = .ok (.bool (decide (d'.shown = d.shown))) g3 := by
            have e2 : eqX (.str d'.shown) (.str d.shown) = some (decide (d'.shown = d.shown)) := by
              show some (PyData.eqv (.str d'.shown) (.str d.shown)) = _
              refine congrArg some ?_
              simp only [PyData.eqv]
              rw [Bool.eq_iff_iff]
              simp
            unfold kEqX
            rw [e2]
            rfl
          rw [ee]
          exact hq
        · simp only [c] at hh
          exact hh.elim
      | no => rw [ef] at hh; exact hh.elim
  refine wpAny_call (codeAny_mono rc fun r s3 hq => ?_)
  cases r with
  | error e =>
    obtain ⟨_, _, _, _, _, _, _, _, _, _, _, _, z⟩ := hq
    exact z.elim
  | ok fl =>
    cases fl with
    | ret u => 
      obtain ⟨w, H', I', rv, q⟩ := I2.after hq
      exact ⟨w, H', I'.pins_of fun q hq => I'.pin q (List.mem_append_right _ (List.mem_cons_of_mem _ hq)), rv, q⟩
    | next => exact False.elim hq
    | brk => exact False.elim hq
    | cont => exact False.elim hq
end
end PL
end L2
set_option Elab.async false
set_option linter.all false
set_option maxRecDepth 100000
/-! PL 23: bundles for printed walks. -/
namespace L2
namespace PL
open PySem PySem.Spec PyProof.Rows

/-- the built-in names are not the module's -/
structure Bl (mg : Str → Option Value) : Prop where
  len : mg "len" = none
  isinstance : mg "isinstance" = none
  int : mg "int" = none
  bool : mg "bool" = none
  str : mg "str" = none
  tuple : mg "tuple" = none
  list : mg "list" = none
  dict : mg "dict" = none
  all : mg "all" = none
  any : mg "any" = none
  sum : mg "sum" = none
  min : mg "min" = none
  max : mg "max" = none
  sorted : mg "sorted" = none
  range : mg "range" = none
  enumerate : mg "enumerate" = none
  zip : mg "zip" = none
  repr : mg "repr" = none
  set : mg "set" = none
section
variable {P : Program} {w : World} {K : PySem.W.Frag} {mg : Str → Option Value} {base : Heap} {T : List (Addr × Str)} {C : Addr}
structure HasF (P : Program) (w : World) (K : PySem.W.Frag) (mg : Str → Option Value) (base : Heap) (k : Nat) (x : Str) (ps : List Str) (sp : Sp) : Prop where
  ex : ∃ f fd, FnG P w K mg base k f fd ps sp ∧ mg x = some (.ref f) ∧ PySem.W.keepIn K (.ref f) = true ∧ Binds K fd ps []
def Raw (K : PySem.W.Frag) (mg : Str → Option Value) (x : Str) (st : Stmt) (ps : List Str) : Prop := ∃ f fd, Fun K x x st f fd ∧ mg x = some (.ref f) ∧ PySem.W.keepIn K (.ref f) = true ∧ Binds K fd ps []
theorem raw_mk {h : Heap} {x : Str} {st : Stmt} {ps : List Str} {f : Addr} {oc : Value} {od an : Option Addr} {osl : Array (Option Value)} {kV doc pm cdv ct : Value} (X : K.In h) (G : h.Ns mainGlobals mg) (a : PySem.W.nsIn K mainGlobals x = some (some (.ref f)))
    (l : K.lookup f = some ⟨oc, od, .func (PySem.W.fnOf x x (defArgs st) (defBody st) (defScope st) .none kV doc pm an cdv ct), osl⟩) (c : PySem.W.codeIn K cdv x = true) (k : PySem.W.keepIn K (.ref f) = true)
    (hb : ∀ (kV doc pm : Value) (an : Option Addr) (cdv ct : Value) (us : List Value), us.length = ps.length → bindArgs (PySem.W.fnOf x x (defArgs st) (defBody st) (defScope st) .none kV doc pm an cdv ct) ⟨us, []⟩ = pure (ps.zip us)) : Raw K mg x st ps :=
  let F := fun_mk (st := st) l c k
  ⟨f, _, F, PySem.W.mg_of X G a, k, F.binds hb⟩
theorem hasF {x : Str} {st : Stmt} {ps N : List Str} {k n m : Nat} {F : Env → Gs → Res PyData} {b : FnS} (r : Raw K mg x st ps) (S : FnScope N ps (defScope st)) (hn : ps.length = n) (hN : N.length = n + m) (hF : F = runF b m)
    (body : ∀ (cdv : Value) (A : Around) (outer : List PySem.Env) (s : Shared) (H : Hp) (f : Addr) (E : XK), A.guards = some [] → Room k (A.deeper (envOfC x (defScope st) s.heap.objs.size f cdv)) → (A.deeper (envOfC x (defScope st) s.heap.objs.size f cdv)).units + 200 < cLine → PySem.W.codeIn K cdv x = true → Passes (L2.CX P w) (cxOf (L2.CX P w) P w K mg base N x (defScope st) f cdv A outer s H E) E →
      PSs (cxOf (L2.CX P w) P w K mg base N x (defScope st) f cdv A outer s H E) (defBody st) (tS ⟨K, T, C, E⟩ b)) : HasF P w K mg base (k + 1) x ps (spF K T C n F) := by
  obtain ⟨f, fd, Fu, h1, h2, h3⟩ := r
  exact ⟨f, fd, fnF_of Fu S hn hN hF (fun cdv A outer s H E hg hr hcd => body cdv A outer s H f E hg hr (by have := hr.un; omega) hcd (passes_call (takes_of rfl rfl rfl rfl) fun _ _ _ _ h => h)), h1, h2, h3⟩
/-- a def that makes lambdas: its code object's address is told -/
def RawC (K : PySem.W.Frag) (mg : Str → Option Value) (x : Str) (st : Stmt) (ps : List Str) (c : Addr) : Prop := ∃ (f : Addr) (oc : Value) (od : Option Addr) (kV doc pm : Value) (an : Option Addr) (ct : Value) (osl : Array (Option Value)),
  K.lookup f = some ⟨oc, od, .func (PySem.W.fnOf x x (defArgs st) (defBody st) (defScope st) .none kV doc pm an (.ref c) ct), osl⟩ ∧ PySem.W.codeIn K (.ref c) x = true ∧ mg x = some (.ref f) ∧ PySem.W.keepIn K (.ref f) = true ∧ Binds K (PySem.W.fnOf x x (defArgs st) (defBody st) (defScope st) .none kV doc pm an (.ref c) ct) ps []
theorem rawC_mk {h : Heap} {x : Str} {st : Stmt} {ps : List Str} {f c : Addr} {oc : Value} {od an : Option Addr} {osl : Array (Option Value)} {kV doc pm ct : Value} (X : K.In h) (G : h.Ns mainGlobals mg) (a : PySem.W.nsIn K mainGlobals x = some (some (.ref f)))
    (l : K.lookup f = some ⟨oc, od, .func (PySem.W.fnOf x x (defArgs st) (defBody st) (defScope st) .none kV doc pm an (.ref c) ct), osl⟩) (ci : PySem.W.codeIn K (.ref c) x = true) (k : PySem.W.keepIn K (.ref f) = true)
    (hb : ∀ (kV doc pm : Value) (an : Option Addr) (cdv ct : Value) (us : List Value), us.length = ps.length → bindArgs (PySem.W.fnOf x x (defArgs st) (defBody st) (defScope st) .none kV doc pm an cdv ct) ⟨us, []⟩ = pure (ps.zip us)) : RawC K mg x st ps c :=
  let F := fun_mk (st := st) l ci k
  ⟨f, oc, od, kV, doc, pm, an, ct, osl, l, ci, PySem.W.mg_of X G a, k, F.binds hb⟩
theorem fnG_ofC {x : Str} {st : Stmt} {ps N : List Str} {k : Nat} {c f : Addr} {sp : Sp} {oc : Value} {od an : Option Addr} {osl : Array (Option Value)} {kV doc pm ct : Value}
    (lk : K.lookup f = some ⟨oc, od, .func (PySem.W.fnOf x x (defArgs st) (defBody st) (defScope st) .none kV doc pm an (.ref c) ct), osl⟩) (hcd : PySem.W.codeIn K (.ref c) x = true) (S : FnScope N ps (defScope st)) (len : ∀ vs H Q E, sp vs H Q E → vs.length = ps.length)
    (body : ∀ (A : Around) (outer : List PySem.Env) (s : Shared) (H : Hp) (vs : List V) (Q : VK) (E : XK), A.guards = some [] → Room k (A.deeper (envOfC x (defScope st) s.heap.objs.size f (.ref c))) → sp vs H Q E →
      ∃ t, PSs (cxOf (L2.CX P w) P w K mg base N x (defScope st) f (.ref c) A outer s H E) (defBody st) t ∧ t { nx := fun _ H' => Q .non H', rt := Q } (start N vs) H) : FnG P w K mg base (k + 1) f (PySem.W.fnOf x x (defArgs st) (defBody st) (defScope st) .none kV doc pm an (.ref c) ct) ps sp :=
  ⟨len, fun A outer s H args us vs Q E hg hr e0 hb r hsp => LamX.run_ofS lk hcd S hr e0 hb r (len _ _ _ _ hsp) fun hr' => body A outer s H vs Q E hg hr' hsp⟩
theorem spF_run {x : Str} {st : Stmt} {ps N : List Str} {n m : Nat} {F : Env → Gs → Res PyData} {b : FnS} {X : Cx} (hN : N.length = n + m) (hF : F = runF b m) {vs : List V} {H : Hp} {Q : VK} {E : XK} (hsp : spF K T C n F vs H Q E) : tS ⟨K, T, C, E⟩ b { nx := fun _ H' => Q .non H', rt := Q } (start N vs) H := by
  subst hF
  obtain ⟨as, g, dr, G, i, a, hl, h⟩ := hsp
  have SS := start_sr (N := N) (m := m) i a (by omega)
  refine ⟨_, g, dr, _, G, G, H, SS, ?_⟩
  unfold runF at h
  cases e : b (as ++ List.replicate m .un) g with
  | ok fl g1 =>
    rw [e] at h
    cases fl with
    | nx ρ' => exact fun ad σ G1 H1 S1 => h .non G1 H1 S1.sr.gi S1.ext .non
    | rt d => exact fun v G1 H1 i1 x1 r1 => h v G1 H1 i1 x1 r1
    | bk ρ' => exact h.elim
    | ct ρ' => exact h.elim
  | bad d g1 => rw [e] at h; exact h
  | no => rw [e] at h; exact h.elim
theorem hasFC {x : Str} {st : Stmt} {ps N : List Str} {k n m : Nat} {c : Addr} {F : Env → Gs → Res PyData} {b : FnS} (r : RawC K mg x st ps c) (S : FnScope N ps (defScope st)) (hn : ps.length = n) (hN : N.length = n + m) (hF : F = runF b m)
    (body : ∀ (A : Around) (outer : List PySem.Env) (s : Shared) (H : Hp) (f : Addr) (E : XK), A.guards = some [] → Room k (A.deeper (envOfC x (defScope st) s.heap.objs.size f (.ref c))) → (A.deeper (envOfC x (defScope st) s.heap.objs.size f (.ref c))).units + 200 < cLine → Passes (L2.CX P w) (cxOf (L2.CX P w) P w K mg base N x (defScope st) f (.ref c) A outer s H E) E →
      PSs (cxOf (L2.CX P w) P w K mg base N x (defScope st) f (.ref c) A outer s H E) (defBody st) (tS ⟨K, T, C, E⟩ b)) : HasF P w K mg base (k + 1) x ps (spF K T C n F) := by
  obtain ⟨f, oc, od, kV, doc, pm, an, ct, osl, lk, hcd, h1, h2, h3⟩ := r
  exact ⟨f, _, fnG_ofC lk hcd S (spF_len hn) (fun A outer s H vs Q E hg hr hsp => ⟨_, body A outer s H f E hg hr (by have := hr.un; omega) (passes_call (takes_of rfl rfl rfl rfl) fun _ _ _ _ h => h), spF_run (x := x) (st := st) (ps := ps) (X := cxOf (L2.CX P w) P w K mg base N x (defScope st) f (.ref c) A outer s H E) hN hF hsp⟩), h1, h2, h3⟩
end
theorem passes_no {X : Cx} {P : Program} {w : World} : Passes (L2.CX P w) X (fun _ _ _ => False) := fun pins σ H s e s' I hq => by
  obtain ⟨_, _, _, _, _, _, _, _, _, _, _, _, z⟩ := hq
  exact z.elim
section
variable {X : Cx} {W : Wd} {fa fb fc : Fn} {a b e : Expr} {pos : Pos}
theorem ce_callH {K : PySem.W.Frag} {T : List (Addr × Str)} {C : Addr} {E : XK} {n k k' : Nat} {F : Env → Gs → Res PyData} {fs : FnG1} {ps : List Str} {x : Str} {p : Pos} {es : List Expr}
    (h : HasF X.prog X.w X.K X.mg X.base k x ps (spF K T C n F)) (hgd : X.A.guards = some []) (hr : Room k' X.A) (hx : Passes (L2.CX X.prog X.w) X E) (ha : PA X (e :: es) (tG ⟨K, T, C, E⟩ fs)) (hk : k ≤ k' := by decide) (hg : Gl X x := by rfl)
    (hdb : (x == ("__debug__" : Str)) = false := by decide) (he : starEach (e :: es) X.env = (false, eval e X.env) :: starEach es X.env := by rfl) (hpl : (backTo pos (starEach es X.env)).any (·.1) = false := by rfl) :
    PE X (.Call (.Name x p) (e :: es) [] pos) (tE ⟨K, T, C, E⟩ (fCall F n fs)) := by
  obtain ⟨f, fd, h1, h2, h3, h4⟩ := h.ex
  exact ce_call h1 hgd (hr.mono hk) hg h2 h3 h4 hx ha hdb he hpl
theorem ce_callH0 {K : PySem.W.Frag} {T : List (Addr × Str)} {C : Addr} {E : XK} {k k' : Nat} {F : Env → Gs → Res PyData} {ps : List Str} {x : Str} {p : Pos}
    (h : HasF X.prog X.w X.K X.mg X.base k x ps (spF K T C 0 F)) (hgd : X.A.guards = some []) (hr : Room k' X.A) (hx : Passes (L2.CX X.prog X.w) X E) (hk : k ≤ k' := by decide) (hg : Gl X x := by rfl)
    (hdb : (x == ("__debug__" : Str)) = false := by decide) : PE X (.Call (.Name x p) [] [] pos) (tE ⟨K, T, C, E⟩ (fCall F 0 gNil)) := by
  obtain ⟨f, fd, h1, h2, h3, h4⟩ := h.ex
  refine PE.imp (pe_callG0 h1 hgd (hr.mono hk) hg h2 h3 h4 hx hdb) ?_
  rintro σ H Q ⟨ρ, g, dr, ad, G, S, h⟩
  exact ⟨[], g, dr, G, S.gi, .nil, rfl, h⟩
/-! built-ins -/
theorem w_len {p : Pos} (hb : Bl X.mg) (ha : PE X e (tP W fa)) (hK : X.K = W.K := by rfl) (hg : Gl X "len" := by rfl) (he : starEach (e :: []) X.env = (false, eval e X.env) :: starEach [] X.env := by rfl) : PE X (.Call (.Name "len" p) [e] [] pos) (tE W (f1 kLen fa)) :=
  c1_B c_len (by rw [← hK]; exact cr_len) hg hb.len (by rfl) ha (by decide) (by decide) he
theorem w_sum {p : Pos} (hb : Bl X.mg) (hc : X.calm = true) (ha : PE X e (tP W fa)) (hK : X.K = W.K := by rfl) (hg : Gl X "sum" := by rfl) (he : starEach (e :: []) X.env = (false, eval e X.env) :: starEach [] X.env := by rfl) : PE X (.Call (.Name "sum" p) [e] [] pos) (tE W (f1 kSum fa)) :=
  c1_B c_sum (by rw [← hK]; exact cr_sum hc) hg hb.sum (by rfl) ha (by decide) (by decide) he
theorem w_all {p : Pos} (hb : Bl X.mg) (hc : X.calm = true) (ha : PE X e (tP W fa)) (hK : X.K = W.K := by rfl) (hg : Gl X "all" := by rfl) (he : starEach (e :: []) X.env = (false, eval e X.env) :: starEach [] X.env := by rfl) : PE X (.Call (.Name "all" p) [e] [] pos) (tE W (f1 kAll fa)) :=
  c1_B c_all (by rw [← hK]; exact cr_all hc) hg hb.all (by rfl) ha (by decide) (by decide) he
theorem w_any {p : Pos} (hb : Bl X.mg) (hc : X.calm = true) (ha : PE X e (tP W fa)) (hK : X.K = W.K := by rfl) (hg : Gl X "any" := by rfl) (he : starEach (e :: []) X.env = (false, eval e X.env) :: starEach [] X.env := by rfl) : PE X (.Call (.Name "any" p) [e] [] pos) (tE W (f1 kAny fa)) :=
  c1_B c_any (by rw [← hK]; exact cr_any hc) hg hb.any (by rfl) ha (by decide) (by decide) he
theorem w_int {p : Pos} (hb : Bl X.mg) (ha : PE X e (tP W fa)) (hK : X.K = W.K := by rfl) (hg : Gl X "int" := by rfl) (he : starEach (e :: []) X.env = (false, eval e X.env) :: starEach [] X.env := by rfl) : PE X (.Call (.Name "int" p) [e] [] pos) (tE W (f1 kInt fa)) :=
  c1_T c_int call_int1 hg hb.int (by rfl) ha (by decide) (by decide) he
theorem w_tuple {p : Pos} (hb : Bl X.mg) (ha : PE X e (tP W fa)) (hK : X.K = W.K := by rfl) (hg : Gl X "tuple" := by rfl) (he : starEach (e :: []) X.env = (false, eval e X.env) :: starEach [] X.env := by rfl) : PE X (.Call (.Name "tuple" p) [e] [] pos) (tE W (f1 kTuple fa)) :=
  c1_T c_tuple (by rw [← hK]; exact call_tuple_of) hg hb.tuple (by rfl) ha (by decide) (by decide) he
theorem w_list {p : Pos} (hb : Bl X.mg) (hc : X.calm = true) (ha : PE X e (tP W fa)) (hK : X.K = W.K := by rfl) (hg : Gl X "list" := by rfl) (he : starEach (e :: []) X.env = (false, eval e X.env) :: starEach [] X.env := by rfl) : PE X (.Call (.Name "list" p) [e] [] pos) (tF W (f1 kList fa)) :=
  c1_TF c_list (by rw [← hK]; exact cr_list hc) hg hb.list (by rfl) ha (by decide) (by decide) he
theorem w_sorted {p : Pos} (hb : Bl X.mg) (hc : X.calm = true) (hu : X.A.units + 200 < cLine) (ha : PE X e (tP W fa)) (hK : X.K = W.K := by rfl) (hg : Gl X "sorted" := by rfl) (he : starEach (e :: []) X.env = (false, eval e X.env) :: starEach [] X.env := by rfl) : PE X (.Call (.Name "sorted" p) [e] [] pos) (tF W (f1 kSorted fa)) :=
  c1_BF c_sorted (by rw [← hK]; exact cr_sortedA hc (by omega)) hg hb.sorted (by rfl) ha (by decide) (by decide) he
theorem w_min {p : Pos} (hb : Bl X.mg) (hc : X.calm = true) (hu : X.A.units + 200 < cLine) (ha : PE X e (tP W fa)) (hK : X.K = W.K := by rfl) (hg : Gl X "min" := by rfl) (he : starEach (e :: []) X.env = (false, eval e X.env) :: starEach [] X.env := by rfl) : PE X (.Call (.Name "min" p) [e] [] pos) (tE W (f1 (kMin false) fa)) :=
  c1_B (c_min false) (by rw [← hK]; exact cr_minA hc (by omega) false) hg hb.min (by rfl) ha (by decide) (by decide) he
theorem w_max {p : Pos} (hb : Bl X.mg) (hc : X.calm = true) (hu : X.A.units + 200 < cLine) (ha : PE X e (tP W fa)) (hK : X.K = W.K := by rfl) (hg : Gl X "max" := by rfl) (he : starEach (e :: []) X.env = (false, eval e X.env) :: starEach [] X.env := by rfl) : PE X (.Call (.Name "max" p) [e] [] pos) (tE W (f1 (kMin true) fa)) :=
  c1_B (c_min true) (by rw [← hK]; exact cr_minA hc (by omega) true) hg hb.max (by rfl) ha (by decide) (by decide) he
theorem w_repr {p : Pos} (hb : Bl X.mg) (hgd : X.A.guards = some []) (hu : X.A.units + 200 < cLine) (ha : PE X e (tP W fa)) (hK : X.K = W.K := by rfl) (hg : Gl X "repr" := by rfl) (he : starEach (e :: []) X.env = (false, eval e X.env) :: starEach [] X.env := by rfl) : PE X (.Call (.Name "repr" p) [e] [] pos) (tE W (f1 kRepr fa)) :=
  c1_B c_repr (by rw [← hK]; exact cr_repr hgd (by omega)) hg hb.repr (by rfl) ha (by decide) (by decide) he
/-! operators -/
def rAddD (K : PySem.W.Frag) : R2 := fun x y H Q => (∃ i j, x = .int i ∧ y = .int j ∧ Q (.int (i + j)) H) ∨ (rCatA K x y H Q ∨ (rCat x y H Q ∨ (∃ i j, x = .str i ∧ y = .str j ∧ i.length + j.length ≤ sizeLine ∧ Q (.str (i ++ j)) H)))
theorem w_add (ha : PE X a (tP W fa)) (hb : PE X b (tP W fb)) (hK : X.K = W.K := by rfl) : PE X (.BinOp a .Add b pos) (tE W (fBin kAdd fa fb)) :=
  cp_bin (r := rAddD W.K) (by rw [← hK]; exact or_add) op_addP ha hb
theorem op_ari0 {W : Wd} {f : Int → Int → Int} : OpP W (rI0 fun i j => .int (f i j)) (kAri (fun _ _ => true) f) := by
  intro dr g G H v w x y Q i p q h
  cases x <;> cases y <;> first
    | exact h.elim
    | (exact ⟨_, _, p.int, q.int, h (.int _) G H i Ext.refl (.int _)⟩)
abbrev kSub : PyData → PyData → Gs → Res PyData := kAri (fun _ _ => true) fun i j => i - j
abbrev kMul : PyData → PyData → Gs → Res PyData := kAri cMul fun i j => i * j
abbrev kDiv : PyData → PyData → Gs → Res PyData := kAri cDiv fun i j => i / j
abbrev kMod : PyData → PyData → Gs → Res PyData := kAri cMod fun i j => i % j
abbrev kPow : PyData → PyData → Gs → Res PyData := kAri cPow fun i j => i ^ j.toNat
abbrev kLt : PyData → PyData → Gs → Res PyData := kCmpI fun i j => decide (i < j)
abbrev kLe : PyData → PyData → Gs → Res PyData := kCmpI fun i j => decide (i ≤ j)
abbrev kGt : PyData → PyData → Gs → Res PyData := kCmpI fun i j => decide (j < i)
abbrev kGe : PyData → PyData → Gs → Res PyData := kCmpI fun i j => decide (j ≤ i)
theorem w_sub (ha : PE X a (tP W fa)) (hb : PE X b (tP W fb)) : PE X (.BinOp a .Sub b pos) (tE W (fBin kSub fa fb)) := cp_bin op_sub op_ari0 ha hb
theorem w_mul (ha : PE X a (tP W fa)) (hb : PE X b (tP W fb)) : PE X (.BinOp a .Mult b pos) (tE W (fBin kMul fa fb)) := cp_bin op_mul (op_ari cMul_ok) ha hb
theorem w_div (ha : PE X a (tP W fa)) (hb : PE X b (tP W fb)) : PE X (.BinOp a .FloorDiv b pos) (tE W (fBin kDiv fa fb)) := cp_bin op_fdivW (op_ari cDiv_ok) ha hb
theorem w_mod (ha : PE X a (tP W fa)) (hb : PE X b (tP W fb)) : PE X (.BinOp a .Mod b pos) (tE W (fBin kMod fa fb)) := cp_bin op_mod (op_ari fun i j h => by unfold cMod at h; simpa using h) ha hb
theorem w_pow (ha : PE X a (tP W fa)) (hb : PE X b (tP W fb)) : PE X (.BinOp a .Pow b pos) (tE W (fBin kPow fa fb)) := cp_bin op_pow (op_ari cPow_ok) ha hb
def fNeg (fa : Fn) : Fn := fun ρ g => (fa ρ g).bind fun x g1 => match x with
  | .int i => .ok (.int (-i)) g1
  | _ => .no
theorem w_neg (ha : PE X a (tE W fa)) : PE X (.UnaryOp .USub a pos) (tE W (fNeg fa)) := by
  refine PE.imp (pe_un un_neg ha) ?_
  rintro σ H Q ⟨ρ, g, dr, ad, G, S, h⟩
  refine seqE S poE h fun v H1 x g1 G1 S1 x1 r1 h1 => ?_
  cases x with
  | int i => exact ⟨i, r1.inv_int, h1 _ G1 H1 S1.gi Ext.refl (.int _)⟩
  | none | bool | str | list | tuple | dict => exact h1.elim
theorem w_lt (ha : PE X a (tP W fa)) (hb : PE X b (tP W fb)) : PE X (.Compare a [.Lt] [b] pos) (tE W (fBin kLt fa fb)) := cp_cmp op_lt op_cmpI ha hb (nomark _)
theorem w_le (ha : PE X a (tP W fa)) (hb : PE X b (tP W fb)) : PE X (.Compare a [.LtE] [b] pos) (tE W (fBin kLe fa fb)) := cp_cmp op_le op_cmpI ha hb (nomark _)
theorem w_gt (ha : PE X a (tP W fa)) (hb : PE X b (tP W fb)) : PE X (.Compare a [.Gt] [b] pos) (tE W (fBin kGt fa fb)) := cp_cmp op_gt op_cmpI ha hb (nomark _)
theorem w_ge (ha : PE X a (tP W fa)) (hb : PE X b (tP W fb)) : PE X (.Compare a [.GtE] [b] pos) (tE W (fBin kGe fa fb)) := cp_cmp op_ge op_cmpI ha hb (nomark _)
theorem wt_lt (ha : PE X a (tP W fa)) (hb : PE X b (tP W fb)) : PT X (.Compare a [.Lt] [b] pos) (tT W (fBin kLt fa fb)) := ctp_cmp op_lt op_cmpI ha hb (nomark _)
theorem wt_le (ha : PE X a (tP W fa)) (hb : PE X b (tP W fb)) : PT X (.Compare a [.LtE] [b] pos) (tT W (fBin kLe fa fb)) := ctp_cmp op_le op_cmpI ha hb (nomark _)
theorem wt_gt (ha : PE X a (tP W fa)) (hb : PE X b (tP W fb)) : PT X (.Compare a [.Gt] [b] pos) (tT W (fBin kGt fa fb)) := ctp_cmp op_gt op_cmpI ha hb (nomark _)
theorem wt_ge (ha : PE X a (tP W fa)) (hb : PE X b (tP W fb)) : PT X (.Compare a [.GtE] [b] pos) (tT W (fBin kGe fa fb)) := ctp_cmp op_ge op_cmpI ha hb (nomark _)
theorem w_eq (hu : X.A.units + 200 < cLine) (ha : PE X a (tP W fa)) (hb : PE X b (tP W fb)) (hK : X.K = W.K := by rfl) : PE X (.Compare a [.Eq] [b] pos) (tE W (fBin (kEqX false) fa fb)) := cp_cmp (r := rEqX W.K false) (by rw [← hK]; exact or_eqX (by omega)) (op_eqX false) ha hb (nomark _)
theorem w_ne (hu : X.A.units + 200 < cLine) (ha : PE X a (tP W fa)) (hb : PE X b (tP W fb)) (hK : X.K = W.K := by rfl) : PE X (.Compare a [.NotEq] [b] pos) (tE W (fBin (kEqX true) fa fb)) := cp_cmp (r := rEqX W.K true) (by rw [← hK]; exact or_neX (by omega)) (op_eqX true) ha hb (nomark _)
theorem wt_eq (hu : X.A.units + 200 < cLine) (ha : PE X a (tP W fa)) (hb : PE X b (tP W fb)) (hK : X.K = W.K := by rfl) : PT X (.Compare a [.Eq] [b] pos) (tT W (fBin (kEqX false) fa fb)) := ctp_cmp (r := rEqX W.K false) (by rw [← hK]; exact or_eqX (by omega)) (op_eqX false) ha hb (nomark _)
theorem wt_ne (hu : X.A.units + 200 < cLine) (ha : PE X a (tP W fa)) (hb : PE X b (tP W fb)) (hK : X.K = W.K := by rfl) : PT X (.Compare a [.NotEq] [b] pos) (tT W (fBin (kEqX true) fa fb)) := ctp_cmp (r := rEqX W.K true) (by rw [← hK]; exact or_neX (by omega)) (op_eqX true) ha hb (nomark _)
theorem w_in (hu : X.A.units + 200 < cLine) (ha : PE X a (tP W fa)) (hb : PE X b (tP W fb)) (hK : X.K = W.K := by rfl) (hm : behindInMarks .In b = false := by with_unfolding_all rfl) : PE X (.Compare a [.In] [b] pos) (tE W (fBin (kInX false) fa fb)) := cp_cmp (r := rInX W.K false) (by rw [← hK]; exact or_inX hu) (op_inX false) ha hb hm
theorem w_notin (hu : X.A.units + 200 < cLine) (ha : PE X a (tP W fa)) (hb : PE X b (tP W fb)) (hK : X.K = W.K := by rfl) (hm : behindInMarks .NotIn b = false := by with_unfolding_all rfl) : PE X (.Compare a [.NotIn] [b] pos) (tE W (fBin (kInX true) fa fb)) := cp_cmp (r := rInX W.K true) (by rw [← hK]; exact or_notinX hu) (op_inX true) ha hb hm
theorem wt_in (hu : X.A.units + 200 < cLine) (ha : PE X a (tP W fa)) (hb : PE X b (tP W fb)) (hK : X.K = W.K := by rfl) (hm : behindInMarks .In b = false := by with_unfolding_all rfl) : PT X (.Compare a [.In] [b] pos) (tT W (fBin (kInX false) fa fb)) := ctp_cmp (r := rInX W.K false) (by rw [← hK]; exact or_inX hu) (op_inX false) ha hb hm
theorem wt_notin (hu : X.A.units + 200 < cLine) (ha : PE X a (tP W fa)) (hb : PE X b (tP W fb)) (hK : X.K = W.K := by rfl) (hm : behindInMarks .NotIn b = false := by with_unfolding_all rfl) : PT X (.Compare a [.NotIn] [b] pos) (tT W (fBin (kInX true) fa fb)) := ctp_cmp (r := rInX W.K true) (by rw [← hK]; exact or_notinX hu) (op_inX true) ha hb hm
theorem w_at (hu : X.A.units + 200 < cLine) (ha : PE X a (tP W fa)) (hb : PE X b (tP W fb)) (hK : X.K = W.K := by rfl) (hs : PlainIx b := by exact fun _ _ => rfl) : PE X (.Subscript a b pos) (tE W (fBin kAt fa fb)) := cp_at hK (by omega) ha hb hs
/-! a statement that is an expression -/
theorem cs_exp (he : PE X e (tE W fa)) (hs : swapsWith e none pos.line X.env = pure false := by rfl) : PS X (.Expr e pos) (tS W (fExp fa)) := by
  refine PS.imp (ps_expr he hs) ?_
  rintro D σ H ⟨ρ, g, dr, ad, G, G0, H0, S, h⟩
  refine seqE S.sr poS (P := pS W dr G0 H0 D) ⟨S.ext, h⟩ fun v H1 d g1 G1 S1 x1 r1 hh => ?_
  exact hh.2 ad σ G1 H1 (S.next x1 S1.gi)
/-! names -/
theorem w_set {i : Nat} {x : Str} {px : Pos} (hN : X.N.Nodup) (he : PE X e (tE W fa)) (hi : X.N[i]? = some x := by rfl) (hx : Loc X.env.scope x := by first | exact Or.inl rfl | exact Or.inr rfl) (hs : swapsWith e (some (.Name x px)) pos.line X.env = pure false := by rfl) (hf : X.fn x = true ∨ X.env.scope.names.lookup x = some .local := by first | exact .inl rfl | exact .inr rfl) :
    PS X (.Assign [.Name x px] e pos) (tS W (fSet i fa)) := cs_set (fun te h => ps_set hN hi hx h hs hf) he
theorem w_setO {i : Nat} {x : Str} {px : Pos} (hN : X.N.Nodup) (he : PE X e (tF W fa)) (hi : X.N[i]? = some x := by rfl) (hx : Loc X.env.scope x := by first | exact Or.inl rfl | exact Or.inr rfl) (hs : swapsWith e (some (.Name x px)) pos.line X.env = pure false := by rfl) (hf : X.fn x = true ∨ X.env.scope.names.lookup x = some .local := by first | exact .inl rfl | exact .inr rfl) :
    PS X (.Assign [.Name x px] e pos) (tS W (fSetO i fa)) := cs_setO (fun te h => ps_set hN hi hx h hs hf) he
end
end PL
end L2
set_option Elab.async false
set_option linter.all false
set_option maxRecDepth 100000
/-! PL 24: comprehensions, loops, parallel assignment for printed walks. -/
namespace L2
namespace PL
open PySem PySem.Spec PyProof.Rows

def blkB (N : List Str) (sc scope : Scope) (own : List (Str × Nat)) : Bool :=
  decide (scope.kind = .function) && (scope.names.all fun y => decide (scope.names.lookup y.1 = some y.2)) && (own.all fun p => decide (N[p.2]? = some p.1)) &&
  (scope.names.all fun y => !decide (y.2 = .free) || decide (sc.names.lookup y.1 = some .cell) || decide (sc.names.lookup y.1 = some .free)) &&
  (scope.names.all fun y => !(decide (y.2 = .local) || decide (y.2 = .cell)) || decide (y.1 ∈ own.map (·.1)) || decide (y.1 ∉ N))
theorem blk_of {N : List Str} {sc scope : Scope} {own : List (Str × Nat)} (h : blkB N sc scope own = true) : BlkOk N sc scope own := by
  unfold blkB at h
  simp only [Bool.and_eq_true, Bool.or_eq_true, Bool.not_eq_true', decide_eq_true_eq, decide_eq_false_iff_not, List.all_eq_true, Bool.or_eq_false_iff] at h
  obtain ⟨⟨⟨⟨h1, h2⟩, h3⟩, h4⟩, h5⟩ := h
  refine ⟨h1, h2, h3, fun y hy e => ?_, fun y hy e => ?_⟩
  · rcases h4 y hy with (z | z) | z
    · exact absurd e z
    · exact .inl z
    · exact .inr z
  · rcases h5 y hy with (z | z) | z
    · exact absurd e (fun q => q.elim z.1 z.2)
    · exact .inl z
    · exact .inr z
section
variable {X : Cx} {W : Wd} {fi : FnL} {t : Tg} {g : TG} {fc fe fk fv : Fn} {elt kx vx tg iter : Expr} {ifs : List Expr} {scope : Scope} {pos spos : Pos}
theorem w_lc (own : List (Str × Nat)) (hN : X.N.Nodup) (ht : TgOk W.K t g) (hg : ∀ (s : Shared) (H : Hp) (C : Addr) (cl : List (Str × Addr)) (fp : List Addr), PG (X.blk s H scope (compEnvC scope cl C X.env) fp) tg g) (hi : PI X tg iter (tI W fi))
    (hc : ∀ (s : Shared) (H : Hp) (C : Addr) (cl : List (Str × Addr)) (fp : List Addr), PTs (X.blk s H scope (compEnvC scope cl C X.env) fp) ifs (tT W.calm fc))
    (he : ∀ (s : Shared) (H : Hp) (C : Addr) (cl : List (Str × Addr)) (fp : List Addr), PE (X.blk s H scope (compEnvC scope cl C X.env) fp) elt (tE W.calm fe))
    (ok : blkB X.N X.env.scope scope own = true := by kernel_rfl) (hv : (tgSlots t).all (fun i => decide (i ∈ own.map (·.2))) = true := by rfl) (hcm : X.calm = true := by rfl) (hs : ∀ x, foldedSetIterable iter X.env x = pure x := by intro _; rfl) :
    PE X (.ListComp elt [⟨tg, iter, ifs, 0⟩] scope pos) (tF W (fLc fi t fc fe (own.map (·.2)))) :=
  cf_lc (fun h1 h2 h3 => pe_lc hcm hN h1 (blk_of ok) hg h2 h3 hs) ht hv hi hc he
theorem w_setLc (i : Nat) (own : List (Str × Nat)) {y : Str} {py : Pos} (hN : X.N.Nodup) (ht : TgOk W.K t g) (hg : ∀ (s : Shared) (H : Hp) (C : Addr) (cl : List (Str × Addr)) (fp : List Addr), PG (X.blk s H scope (compEnvC scope cl C X.env) fp) tg g) (hi : PI X tg iter (tI W fi))
    (hc : ∀ (s : Shared) (H : Hp) (C : Addr) (cl : List (Str × Addr)) (fp : List Addr), PTs (X.blk s H scope (compEnvC scope cl C X.env) fp) ifs (tT W.calm fc))
    (he : ∀ (s : Shared) (H : Hp) (C : Addr) (cl : List (Str × Addr)) (fp : List Addr), PE (X.blk s H scope (compEnvC scope cl C X.env) fp) elt (tE W.calm fe))
    (hy : X.N[i]? = some y := by rfl) (hyl : X.env.scope.names.lookup y = some .local := by rfl) (hsw : swapsWith (.ListComp elt [⟨tg, iter, ifs, 0⟩] scope pos) (some (.Name y py)) spos.line X.env = pure true := by rfl)
    (ok : blkB X.N X.env.scope scope own = true := by kernel_rfl) (hv : (tgSlots t).all (fun i => decide (i ∈ own.map (·.2))) = true := by rfl) (hcm : X.calm = true := by rfl) (hs : ∀ x, foldedSetIterable iter X.env x = pure x := by intro _; rfl) :
    PS X (.Assign [.Name y py] (.ListComp elt [⟨tg, iter, ifs, 0⟩] scope pos) spos) (tS W (fSet i (fLstO (fLc fi t fc fe (own.map (·.2)))))) :=
  cs_setLc (fun h1 h2 h3 => ps_setLc hcm hN hy hyl hsw h1 (blk_of ok) hg h2 h3 hs) ht hv hi hc he
theorem w_setLcO (i : Nat) (own : List (Str × Nat)) {y : Str} {py : Pos} (hN : X.N.Nodup) (ht : TgOk W.K t g) (hg : ∀ (s : Shared) (H : Hp) (C : Addr) (cl : List (Str × Addr)) (fp : List Addr), PG (X.blk s H scope (compEnvC scope cl C X.env) fp) tg g) (hi : PI X tg iter (tI W fi))
    (hc : ∀ (s : Shared) (H : Hp) (C : Addr) (cl : List (Str × Addr)) (fp : List Addr), PTs (X.blk s H scope (compEnvC scope cl C X.env) fp) ifs (tT W.calm fc))
    (he : ∀ (s : Shared) (H : Hp) (C : Addr) (cl : List (Str × Addr)) (fp : List Addr), PE (X.blk s H scope (compEnvC scope cl C X.env) fp) elt (tE W.calm fe))
    (hy : X.N[i]? = some y := by rfl) (hyl : X.env.scope.names.lookup y = some .local := by rfl) (hsw : swapsWith (.ListComp elt [⟨tg, iter, ifs, 0⟩] scope pos) (some (.Name y py)) spos.line X.env = pure true := by rfl)
    (ok : blkB X.N X.env.scope scope own = true := by kernel_rfl) (hv : (tgSlots t).all (fun i => decide (i ∈ own.map (·.2))) = true := by rfl) (hcm : X.calm = true := by rfl) (hs : ∀ x, foldedSetIterable iter X.env x = pure x := by intro _; rfl) :
    PS X (.Assign [.Name y py] (.ListComp elt [⟨tg, iter, ifs, 0⟩] scope pos) spos) (tS W (fSetO i (fLc fi t fc fe (own.map (·.2))))) :=
  cs_setLcO (fun h1 h2 h3 => ps_setLc hcm hN hy hyl hsw h1 (blk_of ok) hg h2 h3 hs) ht hv hi hc he
theorem w_dc (own : List (Str × Nat)) (hu : X.A.units + 200 < cLine) (hN : X.N.Nodup) (ht : TgOk W.K t g) (hg : ∀ (s : Shared) (H : Hp) (C : Addr) (cl : List (Str × Addr)) (fp : List Addr), PG (X.blk s H scope (compEnvC scope cl C X.env) fp) tg g) (hi : PI X tg iter (tI W fi))
    (hc : ∀ (s : Shared) (H : Hp) (C : Addr) (cl : List (Str × Addr)) (fp : List Addr), PTs (X.blk s H scope (compEnvC scope cl C X.env) fp) ifs (tT W.calm fc))
    (hk : ∀ (s : Shared) (H : Hp) (C : Addr) (cl : List (Str × Addr)) (fp : List Addr), PE (X.blk s H scope (compEnvC scope cl C X.env) fp) kx (tE W.calm fk))
    (he : ∀ (s : Shared) (H : Hp) (C : Addr) (cl : List (Str × Addr)) (fp : List Addr), PE (X.blk s H scope (compEnvC scope cl C X.env) fp) vx (tE W.calm fv))
    (ok : blkB X.N X.env.scope scope own = true := by kernel_rfl) (hv : (tgSlots t).all (fun i => decide (i ∈ own.map (·.2))) = true := by rfl) (hcm : X.calm = true := by rfl) (hs : ∀ x, foldedSetIterable iter X.env x = pure x := by intro _; rfl) :
    PE X (.DictComp kx vx [⟨tg, iter, ifs, 0⟩] scope pos) (tF W (fDc fi t fc fk fv (own.map (·.2)))) :=
  cf_dc (fun h1 h2 h3 h4 => pe_dcX (by omega) hcm hN (blk_of ok) hg hs h1 h2 h3 h4) ht hv hi hc hk he
theorem w_setDcO (i : Nat) (own : List (Str × Nat)) {y : Str} {py : Pos} (hu : X.A.units + 200 < cLine) (hN : X.N.Nodup) (ht : TgOk W.K t g) (hg : ∀ (s : Shared) (H : Hp) (C : Addr) (cl : List (Str × Addr)) (fp : List Addr), PG (X.blk s H scope (compEnvC scope cl C X.env) fp) tg g) (hi : PI X tg iter (tI W fi))
    (hc : ∀ (s : Shared) (H : Hp) (C : Addr) (cl : List (Str × Addr)) (fp : List Addr), PTs (X.blk s H scope (compEnvC scope cl C X.env) fp) ifs (tT W.calm fc))
    (hk : ∀ (s : Shared) (H : Hp) (C : Addr) (cl : List (Str × Addr)) (fp : List Addr), PE (X.blk s H scope (compEnvC scope cl C X.env) fp) kx (tE W.calm fk))
    (he : ∀ (s : Shared) (H : Hp) (C : Addr) (cl : List (Str × Addr)) (fp : List Addr), PE (X.blk s H scope (compEnvC scope cl C X.env) fp) vx (tE W.calm fv))
    (hy : X.N[i]? = some y := by rfl) (hyl : X.env.scope.names.lookup y = some .local := by rfl) (hsw : swapsWith (.DictComp kx vx [⟨tg, iter, ifs, 0⟩] scope pos) (some (.Name y py)) spos.line X.env = pure true := by rfl)
    (ok : blkB X.N X.env.scope scope own = true := by kernel_rfl) (hv : (tgSlots t).all (fun i => decide (i ∈ own.map (·.2))) = true := by rfl) (hcm : X.calm = true := by rfl) (hs : ∀ x, foldedSetIterable iter X.env x = pure x := by intro _; rfl) :
    PS X (.Assign [.Name y py] (.DictComp kx vx [⟨tg, iter, ifs, 0⟩] scope pos) spos) (tS W (fSetO i (fDc fi t fc fk fv (own.map (·.2))))) :=
  cs_setDcO (fun h1 h2 h3 h4 => ps_setDcX (by omega) hcm hN hy hyl hsw (blk_of ok) hg hs h1 h2 h3 h4) ht hv hi hc hk he
theorem w_for {body : List Stmt} {f : FnS} (ht : TgOk W.K t g) (hg : PG X tg g) (hi : PI X tg iter (tI W fi)) (hb : PSs X body (tS W f)) (hp : PassesOwn (model X.prog X.w) X.A X.env X.xe := by exact passes_of rfl) (hcm : X.calm = true := by rfl) (hs : ∀ x, foldedSetIterable iter X.env x = pure x := by intro _; rfl) : PS X (.For tg iter body [] pos) (tS W (fFor fi t f)) :=
  cs_for (fun h1 h2 => ps_for hp hcm h1 hg h2 hs) ht hi hb
theorem w_walk {e : Expr} {fa : Fn} (h : PE X e (tE W fa)) (hK : X.K = W.K := by rfl) : PI X tg e (tI W (fWalk fa)) := ci_walk hK h
theorem w_rng1 {a : Expr} {fa : Fn} {p : Pos} (hb : Bl X.mg) (ha : PE X a (tP W fa)) (hg : Gl X "range" := by rfl) (he : starEach [a] X.env = (false, eval a X.env) :: starEach [] X.env := by rfl) : PI X tg (.Call (.Name "range" p) [a] [] pos) (tI W (fRng1 fa)) := ci_rng1 hg hb.range ha he
theorem w_rng2 {a b : Expr} {fa fb : Fn} {p : Pos} (hb : Bl X.mg) (ha : PE X a (tP W fa)) (hb2 : PE X b (tP W fb)) (hg : Gl X "range" := by rfl) (he : starEach [a, b] X.env = (false, eval a X.env) :: starEach [b] X.env := by rfl) (he2 : starEach [b] X.env = (false, eval b X.env) :: starEach [] X.env := by rfl) :
    PI X tg (.Call (.Name "range" p) [a, b] [] pos) (tI W (fRng2 fa fb)) := ci_rng2 hg hb.range ha hb2 he he2
theorem w_enum {e : Expr} {fa : Fn} {tpos p2 : Pos} {elts : List Expr} {kk : Nat} (hb : Bl X.mg) (ha : PE X e (tE W fa)) (hK : X.K = W.K := by rfl) (hg : Gl X "enumerate" := by rfl) (he : starEach [e] X.env = (false, eval e X.env) :: starEach [] X.env := by rfl) :
    PI X (.Tuple elts kk tpos) (.Call (.Name "enumerate" p2) [e] [] pos) (tI W (fEnum fa)) := ci_enum hK hg hb.enumerate ha he
theorem w_zip {a b : Expr} {fa fb : Fn} {tpos p2 : Pos} {elts : List Expr} {kk : Nat} (hbl : Bl X.mg) (ha : PE X a (tE W fa)) (hb : PE X b (tE W fb)) (hK : X.K = W.K := by rfl) (hg : Gl X "zip" := by rfl) (he : starEach [a, b] X.env = (false, eval a X.env) :: starEach [b] X.env := by rfl)
    (he2 : starEach [b] X.env = (false, eval b X.env) :: starEach [] X.env := by rfl) (hpl : (backTo pos (starEach [b] X.env)).any (·.1) = false := by rfl) : PI X (.Tuple elts kk tpos) (.Call (.Name "zip" p2) [a, b] [] pos) (tI W (fZip fa fb)) := ci_zip hK hg hbl.zip ha hb he he2 hpl
/-! slices -/
theorem po_no : PO X none (tO W none) := po_none
theorem po_so {e : Expr} {fa : Fn} (h : PE X e (tP W fa)) : PO X (some e) (tO W (some fa)) := po_some h
theorem w_slc {a : Expr} {fa : Fn} {lo hi : Option Expr} {fl fh : Option Fn} {p2 : Pos} (ha : PE X a (tP W fa)) (hl : PO X lo (tO W fl)) (hh : PO X hi (tO W fh)) (hK : X.K = W.K := by rfl) : PE X (.Subscript a (.Slice lo hi none p2) pos) (tE W (fSlc fa fl fh)) := cp_slc ha hl hh hK
/-! isinstance -/
theorem w_isi {T : String} {tt : PyData → Bool} {e : Expr} {fa : Fn} {p p2 : Pos} {y : Str} (hb : Bl X.mg) (hm2 : X.mg y = none) (ht : ∀ d, kitB (nameD d) T = some (tt d)) (hv2 : bootBuiltins y = some (.type T)) (ha : PE X e (tP W fa)) (hK : X.K = W.K := by rfl) (hg : Gl X "isinstance" := by rfl) (hg2 : Gl X y := by rfl)
    (hn : y ≠ "__name__" := by decide) (hdb : (y == ("__debug__" : Str)) = false := by decide) (he : starEach [e, .Name y p2] X.env = (false, eval e X.env) :: starEach [.Name y p2] X.env := by rfl) (he2 : starEach [.Name y p2] X.env = (false, eval (.Name y p2) X.env) :: starEach [] X.env := by rfl) (hpl : (backTo pos (starEach [.Name y p2] X.env)).any (·.1) = false := by rfl) : PE X (.Call (.Name "isinstance" p) [e, .Name y p2] [] pos) (tE W (fIsi tt fa)) := ce_isi hK ht hg hb.isinstance hg2 hm2 hv2 ha hn hdb he he2 hpl
end
end PL
end L2
set_option Elab.async false
set_option linter.all false
set_option maxRecDepth 100000
/-! PL 25: parallel assignment, appending, displays, refusals for printed walks. -/
namespace L2
namespace PL
open PySem PySem.Spec PyProof.Rows

inductive Mk where
  | sh (f : Fn) | ow (f : Fn)
def fMs : List Mk → Env → Gs → Res (List Sl)
  | [], _, g => .ok [] g
  | .sh f :: r, ρ, g => (f ρ g).bind fun d g1 => (fMs r ρ g1).bind fun l g2 => .ok (.sh d :: l) g2
  | .ow f :: r, ρ, g => (f ρ g).bind fun d g1 => (fMs r ρ g1).bind fun l g2 => .ok (.ow d :: l) g2
def setL : Env → List Nat → List Sl → Env
  | ρ, i :: is, s :: l => setL (ρ.set i s) is l
  | ρ, _, _ => ρ
def fPar (is : List Nat) (ms : List Mk) : FnS := fun ρ g => (fMs ms ρ g).bind fun l g1 => .ok (.nx (setL ρ is l)) g1
inductive MsOk (K : PySem.W.Frag) (dr : Option Addr) (G H : Hp) : Hp → List V → List Sl → Prop
  | nil {Hb : Hp} : MsOk K dr G H Hb [] []
  | sh {Hb : Hp} {v : V} {d : PyData} {vs : List V} {l : List Sl} : Rp K G v d → MsOk K dr G H Hb vs l → MsOk K dr G H Hb (v :: vs) (.sh d :: l)
  | ow {Hb Hc : Hp} {a : Addr} {d : PyData} {vs : List V} {l : List Sl} : Hb a = none → G a = none → dr ≠ some a → OwAt K G H a d → Hc a ≠ none → (∀ c, Hc c = none → Hb c = none) → MsOk K dr G H Hc vs l → MsOk K dr G H Hb (.ref a :: vs) (.ow d :: l)
theorem MsOk.length {K : PySem.W.Frag} {dr : Option Addr} {G H Hb : Hp} {vs : List V} {l : List Sl} (m : MsOk K dr G H Hb vs l) : vs.length = l.length := by
  induction m with
  | nil => rfl
  | sh _ _ ih => simp [ih]
  | ow _ _ _ _ _ _ _ ih => simp [ih]
theorem MsOk.lower {K : PySem.W.Frag} {dr : Option Addr} {G H Hb Ha : Hp} {vs : List V} {l : List Sl} (m : MsOk K dr G H Hb vs l) (h : ∀ c, Hb c = none → Ha c = none) : MsOk K dr G H Ha vs l := by
  induction m with
  | nil => exact .nil
  | sh a _ ih => exact .sh a (ih h)
  | ow a b c d e f g _ => exact .ow (h _ a) b c d e (fun c z => h _ (f c z)) g
def okM (W : Wd) (dr : Option Addr) (Hb G H : Hp) (r : Res (List Sl)) (Q : List V → Hp → Prop) : Prop := match r with
  | .ok l g' => ∀ vs G' H', GI W g' dr G' H' → Ext dr G H G' H' → MsOk W.K dr G' H' Hb vs l → Q vs H'
  | .bad d g' => badP W dr G H d g'
  | .no => False
def tM (W : Wd) (f : Env → Gs → Res (List Sl)) : TA := fun σ H Q => ∃ ρ g dr ad G, SR W ρ g dr ad σ G H ∧ okM W dr H G H (f ρ g) Q
section
variable {X : Cx} {W : Wd} {fa : Fn} {a e : Expr} {pos : Pos}
theorem okM.mono {dr : Option Addr} {Hb G H G1 H1 : Hp} {r : Res (List Sl)} {Q : List V → Hp → Prop} (h : okM W dr Hb G H r Q) (e : Ext dr G H G1 H1) : okM W dr Hb G1 H1 r Q := by
  cases r with
  | ok d g' => exact fun v G' H' i x rp => h v G' H' i (e.trans x) rp
  | bad d g' => exact badP.mono h e
  | no => exact h
theorem poM {dr : Option Addr} {Hb : Hp} {Q : List V → Hp → Prop} : Po W dr (fun G H r => okM W dr Hb G H r Q) := ⟨fun _ _ _ _ h => h, fun _ _ h => h, fun _ _ _ _ _ h e => okM.mono h e⟩
theorem seqM {β : Type} {ρ : Env} {g : Gs} {dr : Option Addr} {ad : Nat → Addr} {σ : St} {G H : Hp} {f : Env → Gs → Res (List Sl)} {k : List Sl → Gs → Res β} {P : Hp → Hp → Res β → Prop} {R : List V → Hp → Prop} (S : SR W ρ g dr ad σ G H) (po : Po W dr P) (h : P G H ((f ρ g).bind k))
    (q : ∀ vs H1 xs g1 G1, SR W ρ g1 dr ad σ G1 H1 → Ext dr G H G1 H1 → MsOk W.K dr G1 H1 H vs xs → P G1 H1 (k xs g1) → R vs H1) : tM W f σ H R := by
  refine ⟨ρ, g, dr, ad, G, S, ?_⟩
  cases e : f ρ g with
  | ok d g1 =>
    rw [e] at h
    exact fun v G1 H1 i x rp => q v H1 d g1 G1 (S.ext x i) x rp (po.mono _ _ _ _ _ h x)
  | bad d g1 => rw [e] at h; exact po.bad _ _ _ _ h
  | no => rw [e] at h; exact (po.no _ _ h).elim
theorem cm_nil : PA X [] (tM W (fMs [])) := by
  refine PA.imp pa_nil ?_
  rintro σ H Q ⟨ρ, g, dr, ad, G, S, h⟩
  exact h [] G H S.gi Ext.refl .nil
theorem cm_sh {es : List Expr} {ms : List Mk} (ha : PE X a (tE W fa)) (hs : PA X es (tM W (fMs ms))) (hst : starEach (a :: es) X.env = (false, eval a X.env) :: starEach es X.env := by rfl) : PA X (a :: es) (tM W (fMs (.sh fa :: ms))) := by
  refine PA.imp (pa_cons ha hs hst) ?_
  rintro σ H Q ⟨ρ, g, dr, ad, G, S, h⟩
  refine seqE S (poM (Hb := H)) h fun v H1 x g1 G1 S1 x1 r1 h1 => ?_
  refine seqM S1 (poM (Hb := H)) h1 fun vs H2 l g2 G2 S2 x2 m2 h2 => ?_
  exact h2 (v :: vs) G2 H2 S2.gi Ext.refl (.sh (r1.mono x2.g) (m2.lower fun c z => x1.none_of z))
theorem cm_ow {es : List Expr} {ms : List Mk} (ha : PE X a (tF W fa)) (hs : PA X es (tM W (fMs ms))) (hst : starEach (a :: es) X.env = (false, eval a X.env) :: starEach es X.env := by rfl) : PA X (a :: es) (tM W (fMs (.ow fa :: ms))) := by
  refine PA.imp (pa_cons ha hs hst) ?_
  rintro σ H Q ⟨ρ, g, dr, ad, G, S, h⟩
  refine seqF S (poM (Hb := H)) h fun b H1 x g1 G1 S1 x1 n1 n2 n3 o h1 => ?_
  refine seqM S1 (poM (Hb := H)) h1 fun vs H2 l g2 G2 S2 x2 m2 h2 => ?_
  obtain ⟨u, hu, hm⟩ := o.there
  exact h2 (.ref b :: vs) G2 H2 S2.gi Ext.refl (.ow n1 (x2.n _ _ hu n3 hm n2) n3 (o.mono x2.g fun o' ho hn => x2.h _ _ ho n3 hn) (by rw [hu]; simp) (fun c z => x1.none_of z) m2)
theorem ms_set {K : PySem.W.Frag} {dr : Option Addr} {g : Gs} {G H G0 H0 : Hp} {Hb : Hp} {vs : List V} {l : List Sl} (m : MsOk W.K dr G H Hb vs l) : ∀ {is : List Nat} {ρ : Env} {ad : Nat → Addr} {σ : L2.St}, SB W ρ g dr ad σ G0 H0 G H → (∀ c, Hb c = none → H0 c = none) →
    (∀ (j : Nat) (e : PyData), ρ[j]? = some (.ow e) → Hb (ad j) ≠ none) → ∃ ad', SB W (setL ρ is l) g dr ad' (setV σ is vs) G0 H0 G H := by
  induction m with
  | nil => intro is ρ ad σ S _ _; exact ⟨ad, by cases is <;> exact S⟩
  | @sh Hb v d vs l r m ih =>
    intro is ρ ad σ S h0 ho
    cases is with
    | nil => exact ⟨ad, S⟩
    | cons i is =>
      refine ih (is := is) (S.set i (.sh d) v 0 ⟨v, rfl, r⟩ fun d z => by cases z) h0 fun j e hj => ?_
      by_cases c : j = i
      · subst c
        rw [List.getElem?_set] at hj
        simp only [if_true] at hj
        split at hj <;> cases hj
      · rw [List.getElem?_set_ne (fun q => c q.symm)] at hj
        simp only [if_neg c]
        exact ho j e hj
  | @ow Hb Hc a d vs l n1 n2 n3 o n4 up m ih =>
    intro is ρ ad σ S h0 ho
    cases is with
    | nil => exact ⟨ad, S⟩
    | cons i is =>
      refine ih (is := is) (S.set i (.ow d) (.ref a) a ⟨rfl, n2, n3, o⟩ fun _ _ => ⟨h0 _ n1, fun j e _ hj z => ho j e hj (by rw [z]; exact n1)⟩) (fun c z => h0 _ (up c z)) fun j e hj => ?_
      by_cases c : j = i
      · simp only [if_pos c]
        exact n4
      · rw [List.getElem?_set_ne (fun q => c q.symm)] at hj
        simp only [if_neg c]
        exact fun z => ho j e hj (up _ z)
theorem par_run {is : List Nat} {ms : List Mk} {D : Ends} {σ : L2.St} {H : Hp} {R : List V → Hp → Prop} (h : tS W (fPar is ms) D σ H) (q : ∀ vs H', vs.length = ms.length → D.nx (setV σ is vs) H' → R vs H') : tM W (fMs ms) σ H R := by
  obtain ⟨ρ, g, dr, ad, G, G0, H0, S, h⟩ := h
  have len : ∀ (ms : List Mk) (ρ : Env) (g g1 : Gs) (l : List Sl), fMs ms ρ g = .ok l g1 → l.length = ms.length := by
    intro ms
    induction ms with
    | nil => intro ρ g g1 l e; simp only [fMs] at e; cases e; rfl
    | cons m r ih =>
      intro ρ g g1 l e
      cases m with
      | sh f =>
        simp only [fMs] at e
        cases e1 : f ρ g with
        | ok d g2 =>
          rw [e1] at e
          simp only [Res.bind] at e
          cases e2 : fMs r ρ g2 with
          | ok l2 g3 => rw [e2] at e; cases e; simp [ih _ _ _ _ e2]
          | bad d g3 => rw [e2] at e; cases e
          | no => rw [e2] at e; cases e
        | bad d g2 => rw [e1] at e; cases e
        | no => rw [e1] at e; cases e
      | ow f =>
        simp only [fMs] at e
        cases e1 : f ρ g with
        | ok d g2 =>
          rw [e1] at e
          simp only [Res.bind] at e
          cases e2 : fMs r ρ g2 with
          | ok l2 g3 => rw [e2] at e; cases e; simp [ih _ _ _ _ e2]
          | bad d g3 => rw [e2] at e; cases e
          | no => rw [e2] at e; cases e
        | bad d g2 => rw [e1] at e; cases e
        | no => rw [e1] at e; cases e
  refine ⟨ρ, g, dr, ad, G, S.sr, ?_⟩
  unfold fPar at h
  cases e : fMs ms ρ g with
  | ok l g1 =>
    rw [e] at h
    intro vs G1 H1 i x m
    have S2 : SB W ρ g1 dr ad σ G0 H0 G1 H1 := S.next x i
    obtain ⟨ad', S3⟩ := ms_set (K := W.K) (is := is) m S2 (fun c z => S.ext.none_of z) fun j e hj => by
      obtain ⟨_, _, _, h4⟩ := S.sr.slot j _ hj
      obtain ⟨u, hu, _⟩ := h4.there
      rw [hu]; simp
    exact q vs H1 (by rw [m.length, len _ _ _ _ _ e]) (h ad' _ G1 H1 S3)
  | bad d g1 => rw [e] at h; exact badP.mono h S.ext
  | no => rw [e] at h; exact h
theorem w_par2 (i j : Nat) {x y : Str} {a b : Expr} {ma mb : Mk} {px py pt : Pos} {kt k2 pt2} (hN : X.N.Nodup) (ha : PA X [a, b] (tM W (fMs [ma, mb]))) (hi : X.N[i]? = some x := by rfl) (hj : X.N[j]? = some y := by rfl) (hij : i ≠ j := by decide)
    (hx : X.env.scope.names.lookup x = some .local := by rfl) (hy : X.env.scope.names.lookup y = some .local := by rfl) (hc : X.calm = true := by rfl)
    (hw : swappedStores [.Tuple [.Name x px, .Name y py] kt pt] (.Tuple [a, b] k2 pt2) X.env = pure (some [x, y]) := by rfl)
    (hs : swapsWithSole [.Tuple [.Name x px, .Name y py] kt pt] (.Tuple [a, b] k2 pt2) pos.line X.env = pure false := by rfl) :
    PS X (.Assign [.Tuple [.Name x px, .Name y py] kt pt] (.Tuple [a, b] k2 pt2) pos) (tS W (fPar [i, j] [ma, mb])) := by
  refine PS.imp (ps_par hc hN hi hj hij hx hy ha hw hs) fun D σ H h => ?_
  refine par_run h fun vs H' hl q => ?_
  match vs, hl with
  | [u, v], _ => exact ⟨u, v, rfl, q⟩
theorem w_par3 (i j k : Nat) {x y z : Str} {a b c : Expr} {ma mb mc : Mk} {px py pz pt : Pos} {kt k2 pt2} (hN : X.N.Nodup) (ha : PA X [a, b, c] (tM W (fMs [ma, mb, mc]))) (hi : X.N[i]? = some x := by rfl) (hj : X.N[j]? = some y := by rfl) (hk : X.N[k]? = some z := by rfl) (hij : i ≠ j := by decide) (hik : i ≠ k := by decide) (hjk : j ≠ k := by decide)
    (hx : X.env.scope.names.lookup x = some .local := by rfl) (hy : X.env.scope.names.lookup y = some .local := by rfl) (hz : X.env.scope.names.lookup z = some .local := by rfl) (hc : X.calm = true := by rfl)
    (hw : swappedStores [.Tuple [.Name x px, .Name y py, .Name z pz] kt pt] (.Tuple [a, b, c] k2 pt2) X.env = pure (some [x, y, z]) := by rfl)
    (hs : swapsWithSole [.Tuple [.Name x px, .Name y py, .Name z pz] kt pt] (.Tuple [a, b, c] k2 pt2) pos.line X.env = pure false := by rfl) :
    PS X (.Assign [.Tuple [.Name x px, .Name y py, .Name z pz] kt pt] (.Tuple [a, b, c] k2 pt2) pos) (tS W (fPar [i, j, k] [ma, mb, mc])) := by
  refine PS.imp (ps_par3 hc hN hi hj hk hij hik hjk hx hy hz ha hw hs) fun D σ H h => ?_
  refine par_run h fun vs H' hl q => ?_
  match vs, hl with
  | [u, v, w], _ => exact ⟨u, v, w, rfl, q⟩
/-! the rest -/
def fFz (i : Nat) (f : FnS) : FnS := fun ρ g => if wOk ρ g then fFrz i f ρ g else .no
theorem w_frz {st : Stmt} {f : FnS} (i : Nat) (h : PS X st (tS W f)) : PS X st (tS W (fFz i f)) := cs_frz i h
theorem w_app {i : Nat} {x : Expr} {p2 p3 : Pos} (hx : PE X x (tVar i)) (ha : PE X e (tE W fa)) (he : starEach (e :: []) X.env = (false, eval e X.env) :: starEach [] X.env := by rfl)
    (hbm : ∀ {te : TE} {ta : TA}, PE X x te → PA X [e] ta → PE X (.Call (.Attribute x "append" p2) [e] [] p3) (tBM X.K "list" rAppend te ta) := by exact fun h1 h2 => pe_bm PySem.F.plainAttrs_list PySem.F.slot_list_append PySem.F.type_list_append mt_append h1 h2)
    (hs : swapsWith (.Call (.Attribute x "append" p2) [e] [] p3) none pos.line X.env = pure false := by rfl) : PS X (.Expr (.Call (.Attribute x "append" p2) [e] [] p3) pos) (tS W (fApp i fa)) :=
  cs_append hx (fun h1 h2 => ps_expr (hbm h1 h2) hs) ha he
theorem w_pgn (i : Nat) {x : Str} (hN : X.N.Nodup) (hi : X.N[i]? = some x := by rfl) (hx : Loc X.env.scope x := by first | exact Or.inl rfl | exact Or.inr rfl) (hf : X.fn x = true ∨ X.env.scope.names.lookup x = some .local := by first | exact .inl rfl | exact .inr rfl) : PG X (.Name x pos) (gName i) := pg_name hN hi hx hf
theorem w_asg {tg : Expr} {g : TG} {t : Tg} (ht : TgOk W.K t g) (hg : PG X tg g) (he : PE X e (tE W fa)) (hs : swapsWithSole [tg] e pos.line X.env = pure false := by rfl) (hw : swappedStores [tg] e X.env = pure none := by rfl)
    (h1 : (assignEach [tg] X.env).map (·.2) = [assign tg X.env] := by rfl) : PS X (.Assign [tg] e pos) (tS W (fAsg t fa)) := cs_asg (tpos := pos) (fun te h => ps_asg h hg hs hw h1) ht he
theorem w_disp {keys : List (Option Expr)} {values : List Expr} (l : List (Fn × Fn)) (h : PPs X pos keys values (l.map fun p => (tP W p.1, tE W p.2))) (hall : keys.all (·.isSome) = true := by rfl) (hl : keys.length = values.length := by rfl) (h0 : keys ≠ [] := by exact List.cons_ne_nil _ _) (h15 : keys.length ≤ 15 := by decide) :
    PE X (.Dict keys values pos) (tF W (fDisp l)) := cf_disp l h hall hl h0 h15
end
end PL
end L2
set_option Elab.async false
set_option linter.all false
set_option maxRecDepth 100000
/-! PL 26: refusals for printed walks. -/
namespace L2
namespace PL
open PySem PySem.Spec PyProof.Rows LamX

/-- the lambdas of one def: its code object at c, their table at P -/
structure LamF (mg : Str → Option Value) (base : Heap) (T : List (Addr × Str)) (c P : Addr) (q : Str) : Prop where
  TB : TabB base mg c P
  mT : (P, q) ∈ T
  uT : ∀ p ∈ T, p.1 = P → p.2 = q
section
variable {X : Cx} {T : List (Addr × Str)} {E : XK} {C fI g c P : Addr} {bg : List Stmt} {sg : Scope}
theorem w_refu (k : Nat) {k' : Nat} {q : Str} {params : Arguments} {body due : Expr} {scope : Scope} {fb fd : Fn} {p lpos pos : Pos} {j1 : Nat} {p1 p2 p3 p4 p5 p6 p7 p8 p9 p10 p11 p12 p13 p14 p15 p16 p17 : Pos} (RT : RefTxt X.K X.mg g bg sg)
    (BT : BadX.BadTxt X.prog X.K X.mg C fI) (LF : LamF X.mg X.base T c P q) (hgd : X.A.guards = some []) (hr : Room k' X.A)
    (hbody : ∀ (A : Around) (outer : List PySem.Env) (s : Shared) (H : Hp) (E : XK) (f c' : Addr), A.guards = some [] → Room k (A.deeper (lamEnv X scope s.heap.objs.size f c')) → (A.deeper (lamEnv X scope s.heap.objs.size f c')).units + 200 < cLine →
      Passes (L2.CX X.prog X.w) (lamCx X A outer s H E scope f c') E → PE (lamCx X A outer s H E scope f c') body (tE ⟨X.K, T, C, E⟩ fb))
    (hdue : PE X due (tE ⟨X.K, T, C, E⟩ fd)) (hk : k + 2 ≤ k' := by decide) (hq : X.env.qual ++ "<lambda>" = q := by first | rfl | kernel_rfl)
    (hbg : bg = [.Try [.Expr (.Call (.Name "work" p1) [] [] p2) p3, .Return (some (.Constant (.bool false) j1 p4)) p5] [.ExceptHandler (some (.Name "BadThing" p6)) (some "e") [.Return (some (.Compare (.Call (.Name "repr" p7) [.Attribute (.Name "e" p8) "thing" p9] [] p10) [.Eq] [.Call (.Name "repr" p11) [.Name "due" p12] [] p13] p14)) p15] p16] [] [] p17] := by rfl)
    (hco : X.env.code = .ref c := by rfl) (L : lamSB X.env.scope scope = true := by kernel_rfl) (hdef : defaultsOf params X.env = ([], []) := by rfl)
    (hbind : ∀ (q : Str) (cl : List (Str × Addr)) (pm cv ctv : Value), bindArgs (PySem.W.kla_fn "<lambda>" q params body scope cl pm cv ctv) ⟨[], []⟩ = pure [] := by intros; rfl) (hg : Gl X "_law_refuses" := by rfl) (hst : starEach [due] X.env = [(false, eval due X.env)] := by rfl) :
    PE X (.Call (.Name "_law_refuses" p) [.Lambda params body scope lpos, due] [] pos) (tE ⟨X.K, T, C, E⟩ (fRefu fb fd)) := by
  refine ce_refu RT hbg BT LF.TB hco (by rw [hq]; exact LF.mT) (by rw [hq]; exact LF.uT) hgd (hr.mono hk) (lamS_by L) hdef hbind (fun A outer s H E f c' hA hr2 => hbody A outer s H E f c' hA hr2 (by have := hr2.un; omega) (passes_call (takes_of rfl rfl rfl rfl) fun _ _ _ _ h => h)) hdue hg hst
theorem w_top {j : Nat} {x : Str} {e63 z1 z2 : Expr} {ps px p2 p3 pl pos : Pos} {y : Str} (hN : X.N.Nodup) (hsv : PE X (.Name y ps) (tVar 0)) (h63 : PE X e63 (tC (.int 63))) (h1 : PE X z1 (tC (.int 0))) (h2 : PE X z2 (tC (.int 0))) (hj : X.N[j]? = some x := by rfl) (hx : Loc X.env.scope x := by first | exact Or.inl rfl | exact Or.inr rfl)
    (a1 : starEach [.Subscript (.Name y ps) (.Slice none (some e63) none p2) p3, z1, z2] X.env = (false, eval (.Subscript (.Name y ps) (.Slice none (some e63) none p2) p3) X.env) :: starEach [z1, z2] X.env := by rfl) (a2 : starEach [z1, z2] X.env = (false, eval z1 X.env) :: starEach [z2] X.env := by rfl) (a3 : starEach [z2] X.env = (false, eval z2 X.env) :: starEach [] X.env := by rfl)
    (hs : swapsWith (.List [.Subscript (.Name y ps) (.Slice none (some e63) none p2) p3, z1, z2] pl) (some (.Name x px)) pos.line X.env = pure false := by rfl) (hf : X.fn x = true ∨ X.env.scope.names.lookup x = some .local := by first | exact .inl rfl | exact .inr rfl) :
    PS X (.Assign [.Name x px] (.List [.Subscript (.Name y ps) (.Slice none (some e63) none p2) p3, z1, z2] pl) pos) (tTop X.K j) :=
  ps_set hN hj hx (pe_lst (pa_cons (pe_slice sl_any hsv po_none (po_some h63)) (pa_cons h1 (pa_cons h2 pa_nil a3) a2) a1)) hs hf
end
section
variable {X : Cx} {W : Wd} {fa fk fv : Fn} {e : Expr} {pos : Pos}
theorem w_gc {v : V} {x : Str} (h : ∃ u, X.mg x = some u ∧ RelV v u) (hg : Gl X x := by rfl) (hd : (x == ("__debug__" : Str)) = false := by decide) : PE X (.Name x pos) (tC v) := by
  obtain ⟨u, hm, r⟩ := h
  exact pe_glob hg hm r hd
theorem w_put {i : Nat} {o y value : Expr} {pos' : Pos} (hu : X.A.units + 200 < cLine) (ho : PE X o (tVar i)) (hy : PE X y (tP W fk)) (hv : PE X value (tE W fv)) (hs : swapsWith value (some (.Subscript o y pos')) pos.line X.env = pure false := by rfl) :
    PS X (.Assign [.Subscript o y pos'] value pos) (tS W (fPut i fk fv)) := cs_put (by omega) ho hy hv hs
def PPf (X : Cx) (W : Wd) (pos : Pos) (keys : List (Option Expr)) (values : List Expr) (l : List (Fn × Fn)) : Prop := PPs X pos keys values (l.map fun p => (tP W p.1, tE W p.2))
theorem ppf_nil : PPf X W pos [] [] [] := pps_nil
theorem ppf_cons {k v : Expr} {ks : List (Option Expr)} {vs : List Expr} {l : List (Fn × Fn)} (hk : PE X k (tP W fk)) (hv : PE X v (tE W fv)) (hr : PPf X W pos ks vs l) : PPf X W pos (some k :: ks) (v :: vs) ((fk, fv) :: l) := pps_cons hk hv hr
theorem w_dis {keys : List (Option Expr)} {values : List Expr} {l : List (Fn × Fn)} (h : PPf X W pos keys values l) (hall : keys.all (·.isSome) = true := by rfl) (hl : keys.length = values.length := by rfl) (h0 : keys ≠ [] := by exact List.cons_ne_nil _ _) (h15 : keys.length ≤ 15 := by first | decide | exact Nat.le_of_ble_eq_true rfl) :
    PE X (.Dict keys values pos) (tF W (fDisp l)) := cf_disp l h hall hl h0 h15
theorem w_drAt {x y : Expr} (i j : Nat) (hu : X.A.units + 200 < cLine) (ha : PE X x (tVar i)) (hb : PE X y (tC (.int j))) (hK : X.K = W.K := by rfl) (hs : PlainIx y := by exact fun _ _ => rfl) : PE X (.Subscript x y pos) (tE W (fDrAt i j)) := ce_drAt hK (by omega) ha hb hs
end
end PL
end L2
set_option Elab.async false
set_option linter.all false
set_option maxRecDepth 100000
/-! PL 27: while, +=. -/
namespace L2
namespace PL
open PySem PySem.Spec PyProof.Rows

def whileF (fc : Fn) (body : FnS) : Nat → FnS
  | 0, _, _ => .no
  | n + 1, ρ, g => (fc ρ g).bind fun x g1 => match x with
    | .bool true => (body ρ g1).bind fun fl g2 => match fl with
      | .nx ρ' => whileF fc body n ρ' g2
      | .ct ρ' => whileF fc body n ρ' g2
      | .bk ρ' => .ok (.nx ρ') g2
      | .rt d => .ok (.rt d) g2
    | .bool false => .ok (.nx ρ) g1
    | _ => .no
section
variable {X : Cx} {W : Wd} {c e : Expr} {fc fa : Fn} {f : FnS} {body : List Stmt} {pos : Pos}
theorem w_while (n : Nat) (hc : PT X c (tT W fc)) (hb : PSs X body (tS W f)) (hp : PassesOwn (model X.prog X.w) X.A X.env X.xe := by exact passes_of rfl) : PS X (.While c body [] pos) (tS W (whileF fc f n)) := by
  refine PS.imp (ps_while hp hc hb) ?_
  rintro D σ H ⟨ρ, g, dr, ad, G, G0, H0, S, h⟩
  refine ⟨fun m σ H => ∃ ρ g ad G, SB W ρ g dr ad σ G0 H0 G H ∧ okS W dr G0 H0 (whileF fc f m ρ g) D, ⟨n, ρ, g, ad, G, S, h⟩, ?_⟩
  rintro m σ H ⟨ρ, g, ad, G, S, h⟩
  cases m with
  | zero => exact h.elim
  | succ m =>
    refine seqT S.sr poS (P := pS W dr G0 H0 D) ⟨S.ext, h⟩ (fun x g1 n => ?_) fun b H1 g1 G1 S1 x1 h1 => ?_
    · cases x <;> first | rfl | (rename_i b; exact absurd rfl (n b))
    · have S2 : SB W ρ g1 dr ad σ G0 H0 G1 H1 := S.next x1 S1.gi
      have h1 := h1.2
      cases b with
      | false =>
        rw [if_neg Bool.false_ne_true]
        exact h1 ad σ G1 H1 S2
      | true =>
        rw [if_pos rfl]
        refine ⟨fun σ' H' => ∃ ρ' g' ad' G', SB W ρ' g' dr ad' σ' G0 H0 G' H' ∧ okS W dr G0 H0 (whileF fc f m ρ' g') D, fun σ' H' q => ⟨m, Nat.lt_succ_self m, q⟩, ρ, g1, dr, ad, G1, G0, H0, S2, ?_⟩
        cases e : f ρ g1 with
        | ok fl g2 =>
          simp only [e, Res.bind] at h1
          cases fl with
          | nx ρ' => exact fun ad σ G H S => ⟨ρ', g2, ad, G, S, h1⟩
          | ct ρ' => exact fun ad σ G H S => ⟨ρ', g2, ad, G, S, h1⟩
          | bk ρ' => exact fun ad σ G H S => h1 ad σ G H S
          | rt d => exact h1
        | bad d g2 => simp only [e, Res.bind] at h1; exact h1
        | no => simp only [e, Res.bind] at h1; exact h1
/-! x += e, whole numbers -/
def fAug (i : Nat) (k : Int → Int → Int) (fa : Fn) : FnS := fun ρ g => match ρ[i]? with
  | some (.sh (.int a)) => (fa ρ g).bind fun d g1 => match d with
    | .int b => .ok (.nx (ρ.set i (.sh (.int (k a b))))) g1
    | _ => .no
  | _ => .no
theorem w_aug {op : Operator} {k : Int → Int → Int} {i : Nat} {x : Str} {pos' : Pos} (ho : PIp X op (ipI k)) (hN : X.N.Nodup) (he : PE X e (tE W fa)) (hi : X.N[i]? = some x := by rfl) (hx : Loc X.env.scope x := by first | exact Or.inl rfl | exact Or.inr rfl) (hf : X.fn x = true ∨ X.env.scope.names.lookup x = some .local := by first | exact .inl rfl | exact .inr rfl) :
    PS X (.AugAssign (.Name x pos') op e pos) (tS W (fAug i k fa)) := by
  refine PS.imp (ps_aug hN hi hx he ho hf) ?_
  rintro D σ H ⟨ρ, g, dr, ad, G, G0, H0, S, h⟩
  unfold fAug at h
  cases e1 : ρ[i]? with
  | none => rw [e1] at h; exact h.elim
  | some sl =>
    rw [e1] at h
    cases sl with
    | sh d =>
      cases d with
      | int a =>
        obtain ⟨v, s1, s2⟩ := S.sr.slot i _ e1
        obtain rfl := s2.inv_int
        refine ⟨_, s1, ?_⟩
        refine seqE S.sr poS (P := pS W dr G0 H0 D) ⟨S.ext, h⟩ fun v H1 d g1 G1 S1 x1 r1 hh => ?_
        have S2 : SB W ρ g1 dr ad σ G0 H0 G1 H1 := S.next x1 S1.gi
        have hh := hh.2
        cases d with
        | int b =>
          obtain rfl := r1.inv_int
          exact ⟨a, b, rfl, rfl, hh _ _ G1 H1 (S2.set i (.sh (.int (k a b))) (.int (k a b)) 0 ⟨_, rfl, .int _⟩ fun d z => by cases z)⟩
        | none | bool | str | list | tuple | dict => exact hh.elim
      | none | bool | str | list | tuple | dict => exact h.elim
    | un | ow | dr | sc => exact h.elim
end
end PL
end L2
set_option Elab.async false
set_option linter.all false
set_option maxRecDepth 100000
/-! PL 28: list(range), tuple(range), dict(pairs), d.get. -/
namespace L2
namespace PL
open PySem PySem.Spec PyProof.Rows

theorem rp_rg {K : PySem.W.Frag} {G : Hp} {a b : Int} : RpL K G (rgV a b) (rngD a b) := by
  unfold rgV rngD
  generalize List.range (b - a).toNat = l
  induction l with
  | nil => exact .nil
  | cons x l ih => exact .cons (.int _) ih
def okRg (a b : Int) : Bool := decide (-(2 ^ 62) ≤ a) && decide (a < 2 ^ 62) && decide (-(2 ^ 62) ≤ b) && decide (b < 2 ^ 62) && decide ((b - a).toNat ≤ 2 ^ 24)
theorem okRg_ok {a b : Int} (h : okRg a b = true) : RgOk a b := by
  unfold okRg at h
  simp only [Bool.and_eq_true, decide_eq_true_eq] at h
  exact ⟨h.1.1.1.1, h.1.1.1.2, h.1.1.2, h.1.2, h.2⟩
section
variable {X : Cx} {W : Wd} {a b e : Expr} {fa fb : Fn} {p p2 pos : Pos}
/-- the range's items -/
def kRg (wrap : List PyData → PyData) (a b : Int) (g : Gs) : Res PyData := if okRg a b then .ok (wrap (rngD a b)) g else .no
def fRgA (wrap : List PyData → PyData) (fa : Fn) : Fn := fun ρ g => (fa ρ g).bind fun x g1 => match x with
  | .int n => kRg wrap 0 n g1
  | _ => .no
def fRgB (wrap : List PyData → PyData) (fa fb : Fn) : Fn := fun ρ g => (fa ρ g).bind fun x g1 => (fb ρ g1).bind fun y g2 => match x, y with
  | .int m, .int n => kRg wrap m n g2
  | _, _ => .no
theorem fin_lst {dr : Option Addr} {g : Gs} {G H : Hp} {Q : VK} {m n : Int} (i : GI W g dr G H) (h : okF W dr G H (kRg .list m n g) Q) : RgOk m n ∧ ∀ q, H q = none → Q (.ref q) (upd H q (.lst (rgV m n))) := by
  unfold kRg at h
  by_cases c : okRg m n = true
  · rw [if_pos c] at h
    exact ⟨okRg_ok c, fun q hq => h q _ _ (i.new hq) (Ext.new hq) hq (none_sub i.sub hq) (dr_new i hq) ⟨_, upd_same, rp_rg⟩⟩
  · rw [if_neg c] at h; exact h.elim
theorem fin_tup {dr : Option Addr} {g : Gs} {G H : Hp} {Q : VK} {m n : Int} (i : GI W g dr G H) (h : okE W dr G H (kRg .tuple m n g) Q) : RgOk m n ∧ ∀ q, H q = none → Q (.ref q) (upd H q (.tup (rgV m n))) := by
  unfold kRg at h
  by_cases c : okRg m n = true
  · rw [if_pos c] at h
    exact ⟨okRg_ok c, fun q hq => h _ _ _ (i.add hq trivial) (Ext.add i hq) (.tup upd_same rp_rg)⟩
  · rw [if_neg c] at h; exact h.elim
theorem w_lrg1 (hb : Bl X.mg) (ha : PE X a (tP W fa)) (hc : X.calm = true := by rfl) (hg : Gl X "list" := by rfl) (hg2 : Gl X "range" := by rfl) (na : starEach [a] X.env = (false, eval a X.env) :: starEach [] X.env := by rfl) (nb : starEach [.Call (.Name "range" p2) [a] [] pos] X.env = (false, eval (.Call (.Name "range" p2) [a] [] pos) X.env) :: starEach [] X.env := by rfl) {pos2 : Pos} :
    PE X (.Call (.Name "list" p) [.Call (.Name "range" p2) [a] [] pos] [] pos2) (tF W (fRgA .list fa)) := by
  refine PE.imp (pe_listRg hc hg hb.list (prg_1 hg2 hb.range ha na) nb) ?_
  rintro σ H Q ⟨ρ, g, dr, ad, G, S, h⟩
  refine seqP S poF h fun v H1 x g1 G1 S1 x1 r1 h1 => ?_
  cases x with
  | int n => exact ⟨n, r1.int, fin_lst S1.gi h1⟩
  | none | bool | str | list | tuple | dict => exact h1.elim
theorem w_trg1 (hb : Bl X.mg) (ha : PE X a (tP W fa)) (hc : X.calm = true := by rfl) (hg : Gl X "tuple" := by rfl) (hg2 : Gl X "range" := by rfl) (na : starEach [a] X.env = (false, eval a X.env) :: starEach [] X.env := by rfl) (nb : starEach [.Call (.Name "range" p2) [a] [] pos] X.env = (false, eval (.Call (.Name "range" p2) [a] [] pos) X.env) :: starEach [] X.env := by rfl) {pos2 : Pos} :
    PE X (.Call (.Name "tuple" p) [.Call (.Name "range" p2) [a] [] pos] [] pos2) (tE W (fRgA .tuple fa)) := by
  refine PE.imp (pe_tupRg hc hg hb.tuple (prg_1 hg2 hb.range ha na) nb) ?_
  rintro σ H Q ⟨ρ, g, dr, ad, G, S, h⟩
  refine seqP S poE h fun v H1 x g1 G1 S1 x1 r1 h1 => ?_
  cases x with
  | int n => exact ⟨n, r1.int, fin_tup S1.gi h1⟩
  | none | bool | str | list | tuple | dict => exact h1.elim
theorem w_lrg2 (hb : Bl X.mg) (ha : PE X a (tP W fa)) (hb2 : PE X b (tP W fb)) (hc : X.calm = true := by rfl) (hg : Gl X "list" := by rfl) (hg2 : Gl X "range" := by rfl) (na : starEach [a, b] X.env = (false, eval a X.env) :: starEach [b] X.env := by rfl) (na2 : starEach [b] X.env = (false, eval b X.env) :: starEach [] X.env := by rfl)
    (hp : (backTo pos (starEach [b] X.env)).any (·.1) = false := by rfl) (nb : starEach [.Call (.Name "range" p2) [a, b] [] pos] X.env = (false, eval (.Call (.Name "range" p2) [a, b] [] pos) X.env) :: starEach [] X.env := by rfl) {pos2 : Pos} :
    PE X (.Call (.Name "list" p) [.Call (.Name "range" p2) [a, b] [] pos] [] pos2) (tF W (fRgB .list fa fb)) := by
  refine PE.imp (pe_listRg hc hg hb.list (prg_2 hg2 hb.range ha hb2 na na2 hp) nb) ?_
  rintro σ H Q ⟨ρ, g, dr, ad, G, S, h⟩
  refine seqP S poF h fun v H1 x g1 G1 S1 x1 r1 h1 => ?_
  refine seqP S1 poF h1 fun w H2 y g2 G2 S2 x2 r2 h2 => ?_
  cases x with
  | int m =>
    cases y with
    | int n => exact ⟨m, n, r1.int, r2.int, fin_lst S2.gi h2⟩
    | none | bool | str | list | tuple | dict => exact h2.elim
  | none | bool | str | list | tuple | dict => exact h2.elim
theorem w_trg2 (hb : Bl X.mg) (ha : PE X a (tP W fa)) (hb2 : PE X b (tP W fb)) (hc : X.calm = true := by rfl) (hg : Gl X "tuple" := by rfl) (hg2 : Gl X "range" := by rfl) (na : starEach [a, b] X.env = (false, eval a X.env) :: starEach [b] X.env := by rfl) (na2 : starEach [b] X.env = (false, eval b X.env) :: starEach [] X.env := by rfl)
    (hp : (backTo pos (starEach [b] X.env)).any (·.1) = false := by rfl) (nb : starEach [.Call (.Name "range" p2) [a, b] [] pos] X.env = (false, eval (.Call (.Name "range" p2) [a, b] [] pos) X.env) :: starEach [] X.env := by rfl) {pos2 : Pos} :
    PE X (.Call (.Name "tuple" p) [.Call (.Name "range" p2) [a, b] [] pos] [] pos2) (tE W (fRgB .tuple fa fb)) := by
  refine PE.imp (pe_tupRg hc hg hb.tuple (prg_2 hg2 hb.range ha hb2 na na2 hp) nb) ?_
  rintro σ H Q ⟨ρ, g, dr, ad, G, S, h⟩
  refine seqP S poE h fun v H1 x g1 G1 S1 x1 r1 h1 => ?_
  refine seqP S1 poE h1 fun w H2 y g2 G2 S2 x2 r2 h2 => ?_
  cases x with
  | int m =>
    cases y with
    | int n => exact ⟨m, n, r1.int, r2.int, fin_tup S2.gi h2⟩
    | none | bool | str | list | tuple | dict => exact h2.elim
  | none | bool | str | list | tuple | dict => exact h2.elim
end
end PL
end L2
set_option Elab.async false
set_option linter.all false
set_option maxRecDepth 100000
/-! PL 29: dict(pairs), dict(d), d.get. -/
namespace L2
namespace PL
open PySem PySem.Spec PyProof.Rows

def pairsD : List PyData → Option (List (PyData × PyData))
  | [] => some []
  | .tuple [k, v] :: r => if keyFlat k then (pairsD r).map ((k, v) :: ·) else none
  | _ => none
theorem pairs_rp {K : PySem.W.Frag} {G H : Hp} (s : Sub G H) : ∀ {ds : List PyData} {vs : List V} {l : List (PyData × PyData)}, RpL K G vs ds → pairsD ds = some l → ∃ (ps : List Addr) (kvs : List (Key × V)), vs = ps.map V.ref ∧ Paired (fun p kv => SqT K H p [kV kv.1, kv.2]) ps kvs ∧ RpL K G (kvs.map Prod.snd) (l.map Prod.snd) ∧ l.map Prod.fst = kvs.map (fun p => keyD p.1)
  | [], _, _, .nil, h => by cases h; exact ⟨[], [], rfl, .nil, .nil, rfl⟩
  | d :: r, _, l, .cons a b, h => by
    match d, h with
    | .tuple [k, v], h =>
      simp only [pairsD] at h
      by_cases c : keyFlat k = true
      · rw [if_pos c, Option.map_eq_some_iff] at h
        obtain ⟨l', h1, rfl⟩ := h
        obtain ⟨ps, kvs, rfl, h3, h4, h5⟩ := pairs_rp s b h1
        cases a with
        | tup ga ra =>
          rename_i p vs'
          cases ra with
          | cons r1 r2 =>
            cases r2 with
            | cons r3 r4 =>
              cases r4
              obtain ⟨key, e1, e2⟩ := flat_key r1 c
              subst e1
              exact ⟨p :: ps, (key, _) :: kvs, rfl, .cons (SqT.of (s _ _ ga)) h3, .cons r3 h4, by simp [e2, h5]⟩
      · rw [if_neg c] at h; cases h
/-- a dict with flat keys only -/
theorem Pk.dctK {K : PySem.W.Frag} {dr : Option Addr} {G H : Hp} {v : V} {kvs : List (PyData × PyData)} (s : Sub G H) (h : Pk K dr G H v (.dict kvs)) (f : kvs.all (fun kv => keyFlat kv.1) = true) :
    ∃ a ks, v = .ref a ∧ Rd H a (.dK ks) ∧ RpL K G (ks.map Prod.snd) (kvs.map Prod.snd) ∧ kvs.map Prod.fst = ks.map (fun p => keyD p.1) := by
  have no : ∀ ks : List (List Key × V), kvs.map Prod.fst = ks.map (fun p => PyData.tuple (p.1.map keyD)) → ks ≠ [] → False := fun ks e n => by
    cases ks with
    | nil => exact n rfl
    | cons k r =>
      cases kvs with
      | nil => simp at e
      | cons kv t =>
        simp only [List.map_cons, List.cons.injEq] at e
        simp only [List.all_cons, Bool.and_eq_true] at f
        rw [e.1] at f
        exact absurd f.1 (by simp [keyFlat])
  rcases h with h | ⟨a, h1, h2, h3, h4⟩
  · cases h with
    | dK a b c => exact ⟨_, _, rfl, Rd.sub s a, b, c⟩
    | dT a b c n => exact (no _ c n).elim
  · rcases h4 with ⟨ks, q, r, e⟩ | ⟨ks, q, r, e, n⟩
    · exact ⟨a, ks, h1, .inl q, r, e⟩
    · exact (no _ e n).elim
def kDictP (x : PyData) (g : Gs) : Res PyData := match x with
  | .list ds => match pairsD ds with
    | some l => .ok (.dict (mergeD [] l)) g
    | none => .no
  | .dict kvs => if kvs.all (fun kv => keyFlat kv.1) then .ok (.dict kvs) g else .no
  | _ => .no
section
variable {X : Cx} {W : Wd} {a b e o : Expr} {fa fb fo : Fn} {p pos : Pos}
def rDictA (K : PySem.W.Frag) : List V → Hp → VK → Prop := fun xs H Q => (∃ (a : Addr) (ps : List Addr) (kvs : List (Key × V)), xs = [.ref a] ∧ SqL K H a (ps.map V.ref) ∧ Paired (fun p kv => SqT K H p [kV kv.1, kv.2]) ps kvs ∧
    ∀ p, H p = none → Q (.ref p) (upd H p (.dK (mergeK [] kvs)))) ∨ ∃ (a : Addr) (kvs : List (Key × V)), xs = [V.ref a] ∧ Rd H a (.dK kvs) ∧ ∀ p, H p = none → Q (.ref p) (upd H p (.dK kvs))
theorem c_dict : Call1F W (rDictA W.K) kDictP := by
  intro dr g G H v x Q i p h
  cases x with
  | list ds =>
    obtain ⟨a, vs, rfl, hl, rl⟩ := p.lst i.sub
    simp only [kDictP] at h
    cases e : pairsD ds with
    | none => rw [e] at h; exact h.elim
    | some l =>
      rw [e] at h
      obtain ⟨ps, kvs, rfl, h3, h4, h5⟩ := pairs_rp i.sub rl e
      refine .inl ⟨a, ps, kvs, rfl, SqL.of hl, h3, fun q hq => ?_⟩
      obtain ⟨m1, m2⟩ := merge_rp (ls := []) (kws := []) h4 h5 .nil rfl
      exact h q _ _ (i.new hq) (Ext.new hq) hq (none_sub i.sub hq) (dr_new i hq) (.inl ⟨_, upd_same, m1, m2⟩)
  | dict kvs =>
    simp only [kDictP] at h
    by_cases c : kvs.all (fun kv => keyFlat kv.1) = true
    · rw [if_pos c] at h
      obtain ⟨a, ks, rfl, h1, r, e⟩ := p.dctK i.sub c
      exact .inr ⟨a, ks, rfl, h1, fun q hq => h q _ _ (i.new hq) (Ext.new hq) hq (none_sub i.sub hq) (dr_new i hq) (.inl ⟨_, upd_same, r, e⟩)⟩
    · rw [if_neg c] at h; exact h.elim
  | none | bool | int | str | tuple => exact h.elim
theorem w_dict (hb : Bl X.mg) (hc : X.calm = true) (ha : PE X e (tP W fa)) (hK : X.K = W.K := by rfl) (hg : Gl X "dict" := by rfl) (he : starEach (e :: []) X.env = (false, eval e X.env) :: starEach [] X.env := by rfl) : PE X (.Call (.Name "dict" p) [e] [] pos) (tF W (f1 kDictP fa)) :=
  c1_TF c_dict (by rw [← hK]; exact (call_dictP hc).or call_dictD) hg hb.dict (by rfl) ha (by decide) (by decide) he
/-! d.get(k, x) -/
def fGet2 (fo fk fx : Fn) : Fn := fun ρ g => (fo ρ g).bind fun d g1 => match d with
  | .dict kvs => if kvs.all (fun kv => keyFlat kv.1) then (fk ρ g1).bind fun k g2 => if keyFlat k then (fx ρ g2).bind fun x g3 => .ok ((lookD k kvs).getD x) g3 else .no else .no
  | _ => .no
theorem isD_pk {dr : Option Addr} {G H : Hp} {v : V} {kvs : List (PyData × PyData)} (s : Sub G H) (h : Pk W.K dr G H v (.dict kvs)) : ∃ a, v = .ref a ∧ IsD H a := by
  rcases h.dct s with ⟨a, ks, rfl, h1, _⟩ | ⟨a, ks, rfl, h1, _⟩
  · exact ⟨a, rfl, .inl ⟨ks, h1⟩⟩
  · exact ⟨a, rfl, .inr ⟨ks, h1⟩⟩
theorem w_get2 {k x : Expr} {fk fx : Fn} {apos : Pos} (hu : X.A.units + 200 < cLine) (ho : PE X o (tP W fo)) (hk : PE X k (tE W fk)) (hx : PE X x (tE W fx)) (m : M2 X o "get" apos k x pos := by exact ⟨rfl, rfl, rfl, rfl⟩) : PE X (.Call (.Attribute o "get" apos) [k, x] [] pos) (tE W (fGet2 fo fk fx)) := by
  refine PE.imp (pe_dget2 (by omega) ho hk hx m) ?_
  rintro σ H Q ⟨ρ, g, dr, ad, G, S, h⟩
  refine seqP S poE h fun v H1 d g1 G1 S1 x1 r1 h1 => ?_
  cases d with
  | dict kvs =>
    have h1 : okE W dr G1 H1 (if kvs.all (fun kv => keyFlat kv.1) = true then (fk ρ g1).bind fun k g2 => if keyFlat k = true then (fx ρ g2).bind fun x g3 => .ok ((lookD k kvs).getD x) g3 else .no else .no) Q := h1
    by_cases c : kvs.all (fun kv => keyFlat kv.1) = true
    · rw [if_pos c] at h1
      obtain ⟨a, ha, hd⟩ := isD_pk S1.gi.sub r1
      refine ⟨a, ha, hd, ?_⟩
      refine seqE S1 poE h1 fun w H2 y g2 G2 S2 x2 r2 h2 => ?_
      by_cases c2 : keyFlat y = true
      · rw [if_pos c2] at h2
        refine seqE S2 poE h2 fun u H3 z g3 G3 S3 x3 r3 h3 => ?_
        obtain ⟨b, ks, e1, h4, h5, h6⟩ := ((r1.ext x2).ext x3).dctK S3.gi.sub c
        rw [ha] at e1
        cases e1
        obtain ⟨key, rfl, rfl⟩ := flat_key r2 c2
        refine ⟨valV ks key, .inl ⟨ks, key, h4, rfl, rfl⟩, ?_⟩
        rcases look_gen keyD keyD_eqv key h5 h6 with ⟨e1, e2⟩ | ⟨v', d', e1, e2, e3⟩
        · rw [e1]; rw [e2] at h3
          exact h3 _ G3 H3 S3.gi Ext.refl r3
        · rw [e1]; rw [e3] at h3
          exact h3 _ G3 H3 S3.gi Ext.refl e2
      · rw [if_neg c2] at h2; exact h2.elim
    · rw [if_neg c] at h1; exact h1.elim
  | none | bool | int | str | list | tuple => exact h1.elim
end
end PL
end L2
set_option Elab.async false
set_option linter.all false
set_option maxRecDepth 100000
/-! PL 30: two clauses in a list comprehension. -/
namespace L2
namespace PL
open PySem PySem.Spec PyProof.Rows

/-- one clause's loop, from any heap -/
theorem lc_from {J : It} {n : Nat} {G : Hp → Prop} {Y : Nat → Hp → V → Hp → Prop} (w : Walk J n G Y) {g : TG} {tt : TT} {te : TE} {vs : List Nat} {σ : St} {Hs : Hp} {D : Addr} {Qd : Hp → Prop} (Pv : Nat → Hp → Prop) (h0 : Pv 0 Hs) (hG : ∀ i H, i ≤ n → Pv i H → G H)
    (hs : ∀ i x H H', i < n → Pv i H → Y i H x H' → g x (wipe σ vs) H' fun σ2 H2 => wipe σ2 vs = wipe σ vs ∧ tt σ2 H2 fun b H3 =>
      if b = true then te σ2 H3 fun y H4 => ∃ acc, H4 D = some (.lst acc) ∧ acc.length < sizeLine ∧ Pv (i + 1) (upd H4 D (.lst (acc ++ [y]))) else Pv (i + 1) H3) (hd : ∀ H, Pv n H → Qd H) :
    ∃ W : Nat → Nat → Hp → Prop, (∃ m, W 0 m Hs) ∧ ∀ i m H, W i m H →
      (J.stop i H ∧ Qd H) ∨ (J.go i H ∧ ∃ Nx : Hp → Prop, (∀ H', Nx H' → ∃ m', m' < m ∧ W (i + 1) m' H') ∧ ∀ x H', J.yld i H x H' → g x (wipe σ vs) H' fun σ2 H2 => wipe σ2 vs = wipe σ vs ∧ tt σ2 H2 fun b H3 =>
        if b = true then te σ2 H3 fun y H4 => ∃ acc, H4 D = some (.lst acc) ∧ acc.length < sizeLine ∧ Nx (upd H4 D (.lst (acc ++ [y]))) else Nx H3) := by
  refine ⟨fun i m H => i ≤ n ∧ m = n - i ∧ Pv i H, ⟨n, Nat.zero_le _, rfl, h0⟩, ?_⟩
  rintro i m H ⟨hi, rfl, p⟩
  rcases Nat.lt_or_ge i n with hlt | hge
  · exact .inr ⟨w.goes i H hlt (hG i H hi p), Pv (i + 1), fun H' p' => ⟨n - (i + 1), by omega, hlt, rfl, p'⟩, fun x H' y => hs i x H H' hlt p (w.yields i H x H' hlt (hG i H hi p) y)⟩
  · obtain rfl : i = n := by omega
    exact .inl ⟨w.stops H (hG i H hi p), hd H p⟩
/-- any loop's walk over a first clause -/
theorem out_from {J : It} {n : Nat} {G : Hp → Prop} {Y : Nat → Hp → V → Hp → Prop} (w : Walk J n G Y) {Hs : Hp} {Qd : Hp → Prop} {body : V → Hp → (Hp → Prop) → Prop} (Pv : Nat → Hp → Prop) (h0 : Pv 0 Hs) (hG : ∀ i H, i ≤ n → Pv i H → G H)
    (hs : ∀ i x H H', i < n → Pv i H → Y i H x H' → body x H' (Pv (i + 1))) (hd : ∀ H, Pv n H → Qd H) :
    ∃ W : Nat → Nat → Hp → Prop, (∃ m, W 0 m Hs) ∧ ∀ i m H, W i m H →
      (J.stop i H ∧ Qd H) ∨ (J.go i H ∧ ∃ Nx : Hp → Prop, (∀ H', Nx H' → ∃ m', m' < m ∧ W (i + 1) m' H') ∧ ∀ x H', J.yld i H x H' → body x H' Nx) := by
  refine ⟨fun i m H => i ≤ n ∧ m = n - i ∧ Pv i H, ⟨n, Nat.zero_le _, rfl, h0⟩, ?_⟩
  rintro i m H ⟨hi, rfl, p⟩
  rcases Nat.lt_or_ge i n with hlt | hge
  · exact .inr ⟨w.goes i H hlt (hG i H hi p), Pv (i + 1), fun H' p' => ⟨n - (i + 1), by omega, hlt, rfl, p'⟩, fun x H' y => hs i x H H' hlt p (w.yields i H x H' hlt (hG i H hi p) y)⟩
  · obtain rfl : i = n := by omega
    exact .inl ⟨w.stops H (hG i H hi p), hd H p⟩
def lc2F (t : Tg) (fc : Fn) (fi1 : FnL) (t1 : Tg) (fc1 fe : Fn) (vs vs1 : List Nat) (ρ : Env) : List PyData → List PyData → Gs → Res PyData
  | [], acc, g => .ok (.list acc) g
  | d :: ds, acc, g => match bindT t d with
    | none => .no
    | some l => (fc (setE (wipeE ρ vs) l) g).calm.bind fun b g1 => match b with
      | .bool true => (fi1 (setE (wipeE ρ vs) l) g1).calm.bind fun ds1 g2 => (lcF t1 fc1 fe vs1 (setE (wipeE ρ vs) l) ds1 acc g2).calm.bind fun r g3 => match r with
        | .list acc' => lc2F t fc fi1 t1 fc1 fe vs vs1 ρ ds acc' g3
        | _ => .no
      | .bool false => lc2F t fc fi1 t1 fc1 fe vs vs1 ρ ds acc g1
      | _ => .no
def fLc2 (fi : FnL) (t : Tg) (fc : Fn) (fi1 : FnL) (t1 : Tg) (fc1 fe : Fn) (vs vs1 : List Nat) : Fn := fun ρ g => (fi ρ g).bind fun ds g1 => lc2F t fc fi1 t1 fc1 fe vs vs1 ρ ds [] g1
section
variable {X : Cx} {W : Wd}
theorem lc_inner {P : Res PyData → Prop} {Nx : Hp → Prop} {J : It} {ds acc : List PyData} {dr : Option Addr} {D : Addr} {G1 H1 G5 H5 : Hp} {g5 : Gs} {ρ2 : Env} {σ2 : L2.St} {t : Tg} {gg : TG} {fc fe : Fn} {vs : List Nat}
    (ht : TgOk W.K t gg) (hv : ∀ i ∈ tgSlots t, i ∈ vs) (dD : dr ≠ some D) (hD : H1 D = none) (hS : ∀ G H g acc, LcS W dr D G1 H1 G H acc g → Sub G5 G → ∃ ad, SR W ρ2 g dr ad σ2 G H) (o : ItOk W dr J ds G5 H5) (L5 : LcS W dr D G1 H1 G5 H5 acc g5)
    (hP : P (lcF t fc fe vs ρ2 ds acc g5)) (pn : P .no → False) (fin : ∀ G H g acc, LcS W dr D G1 H1 G H acc g → Sub G5 G → P (.ok (.list acc) g) → Nx H) :
    ∃ W1 : Nat → Nat → Hp → Prop, (∃ m, W1 0 m H5) ∧ ∀ i m H, W1 i m H →
      (J.stop i H ∧ Nx H) ∨ (J.go i H ∧ ∃ Nx1 : Hp → Prop, (∀ H', Nx1 H' → ∃ m', m' < m ∧ W1 (i + 1) m' H') ∧ ∀ x H', J.yld i H x H' → gg x (wipe σ2 vs) H' fun σ3 H2 => wipe σ3 vs = wipe σ2 vs ∧ tT W.calm fc σ3 H2 fun b H3 =>
        if b = true then tE W.calm fe σ3 H3 fun y H4 => ∃ acc, H4 D = some (.lst acc) ∧ acc.length < sizeLine ∧ Nx1 (upd H4 D (.lst (acc ++ [y]))) else Nx1 H3) := by
  obtain ⟨C, Y, w, hC, hY⟩ := o
  refine lc_from w (fun i H => ∃ G g acc, LcS W dr D G1 H1 G H acc g ∧ Sub G5 G ∧ P (lcF t fc fe vs ρ2 (ds.drop i) acc g)) ⟨G5, g5, acc, L5, fun _ _ z => z, hP⟩ (fun i H _ ⟨G, g, acc, L, s, _⟩ => hC G H s L.gi.sub) ?_ ?_
  · rintro i x H2 H' hlt ⟨G2, g2, acc, L, sb, hl⟩ y
    obtain ⟨G3, d, gi, xe, hd, rd⟩ := hY i G2 H2 x H' g2 hlt L.gi sb y
    have hdrop : ds.drop i = d :: ds.drop (i + 1) := by
      rw [List.drop_eq_getElem_cons hlt]
      congr 1
      have := List.getElem?_eq_getElem hlt
      rw [hd] at this
      exact (Option.some.inj this).symm
    rw [hdrop] at hl
    have L3 := L.ofExt dD xe gi
    have sb3 : Sub G5 G3 := fun a u e => xe.g a u (sb a u e)
    simp only [lcF] at hl
    cases eb : bindT t d with
    | none => simp only [eb] at hl; exact (pn hl).elim
    | some l =>
      simp only [eb] at hl
      obtain ⟨ws, r2, k⟩ := ht G3 H' x d l gi.sub rd eb
      obtain ⟨ad0, S3⟩ := hS _ _ _ _ L3 sb3
      obtain ⟨ad', S5⟩ := (S3.wipe vs).setAll r2
      refine k _ _ ⟨?_, ?_⟩
      · have hs := bindT_slots t d l eb
        rw [wipe_setV (fun j hj => hv j (by rw [← hs]; exact hj)), wipe_wipe _ _ _ fun v hv => hv]
      · refine calmT S5 (P := P) pn hl (fun x g n => ?_) fun b H4 g3 G4 S6 x6 hl => ?_
        · cases x <;> first | rfl | exact absurd rfl (n _)
        · have L4 := L3.ofExt dD x6 S6.gi
          have sb4 : Sub G5 G4 := fun a u e => x6.g a u (sb3 a u e)
          cases b with
          | false =>
            rw [if_neg Bool.false_ne_true]
            exact ⟨G4, g3, acc, L4, sb4, hl⟩
          | true =>
            rw [if_pos rfl]
            refine calmE S6 (P := P) pn hl fun v H5 y g5 G5' S7 x7 r7 hl => ?_
            by_cases c : acc.length < sizeLine
            · rw [if_pos c] at hl
              obtain ⟨ws', w1, w2, L6⟩ := (L4.ofExt dD x7 S7.gi).push dD hD r7
              exact ⟨ws', w1, by omega, G5', g5, _, L6, fun a u e => x7.g a u (sb4 a u e), hl⟩
            · rw [if_neg c] at hl; exact (pn hl).elim
  · rintro H2 ⟨G2, g2, acc, L, sb, hl⟩
    rw [List.drop_length] at hl
    exact fin G2 H2 g2 acc L sb hl
theorem tLc2_of {fi fi1 : FnL} {t t1 : Tg} {g g1 : TG} {fc fc1 fe : Fn} {vs vs1 : List Nat} (ht : TgOk W.K t g) (ht1 : TgOk W.K t1 g1) (hv : ∀ i ∈ tgSlots t, i ∈ vs) (hv1 : ∀ i ∈ tgSlots t1, i ∈ vs1) (σ : St) (H : Hp) (Q : VK) (h : tF W (fLc2 fi t fc fi1 t1 fc1 fe vs vs1) σ H Q) :
    tLc2 (tI W fi) g (tT W.calm fc) (tI W.calm fi1) g1 (tT W.calm fc1) (tE W.calm fe) vs vs1 σ H Q := by
  obtain ⟨ρ, g0, dr, ad, G, S, h⟩ := h
  refine seqI S poF h fun J H1 ds g1' G1 S1 x1 o h1 => ?_
  intro D hD
  obtain ⟨C, Y, w, hC, hY⟩ := o
  have dD : dr ≠ some D := dr_new S1.gi hD
  have L0 : LcS W dr D G1 H1 G1 (upd H1 D (.lst [])) [] g1' := ⟨S1.gi.new hD, Ext.new hD, ⟨[], upd_same, .nil⟩, none_sub S1.gi.sub hD⟩
  refine out_from w (Qd := Q (.ref D)) (body := fun x H' Nx => g x (wipe σ vs) H' fun σ2 H2 => wipe σ2 vs = wipe σ vs ∧ tT W.calm fc σ2 H2 fun b H3 =>
    if b = true then tI W.calm fi1 σ2 H3 fun J1 H4 => ∃ W1 : Nat → Nat → Hp → Prop, (∃ m, W1 0 m H4) ∧ ∀ j k H, W1 j k H →
      (J1.stop j H ∧ Nx H) ∨ (J1.go j H ∧ ∃ Nx1 : Hp → Prop, (∀ H', Nx1 H' → ∃ k', k' < k ∧ W1 (j + 1) k' H') ∧ ∀ x H', J1.yld j H x H' → g1 x (wipe σ2 vs1) H' fun σ3 H5 => wipe σ3 vs1 = wipe σ2 vs1 ∧ tT W.calm fc1 σ3 H5 fun b H6 =>
        if b = true then tE W.calm fe σ3 H6 fun y H7 => ∃ acc, H7 D = some (.lst acc) ∧ acc.length < sizeLine ∧ Nx1 (upd H7 D (.lst (acc ++ [y]))) else Nx1 H6)
    else Nx H3) (fun i H => ∃ G g acc, LcS W dr D G1 H1 G H acc g ∧ okF W dr G1 H1 (lc2F t fc fi1 t1 fc1 fe vs vs1 ρ (ds.drop i) acc g) Q) ⟨G1, g1', [], L0, h1⟩ (fun i H _ ⟨G, g, acc, L, _⟩ => hC G H L.ext.g L.gi.sub) ?_ ?_
  · rintro i x H2 H' hlt ⟨G2, g2, acc, L, hl⟩ y
    obtain ⟨G3, d, gi, xe, hd, rd⟩ := hY i G2 H2 x H' g2 hlt L.gi L.ext.g y
    have hdrop : ds.drop i = d :: ds.drop (i + 1) := by
      rw [List.drop_eq_getElem_cons hlt]
      congr 1
      have := List.getElem?_eq_getElem hlt
      rw [hd] at this
      exact (Option.some.inj this).symm
    rw [hdrop] at hl
    have L3 := L.ofExt dD xe gi
    simp only [lc2F] at hl
    cases eb : bindT t d with
    | none => simp only [eb] at hl; exact hl.elim
    | some l =>
      simp only [eb] at hl
      obtain ⟨ws, r2, k⟩ := ht G3 H' x d l gi.sub rd eb
      have SW : SR W (wipeE ρ vs) g2 dr ad (L2.wipe σ vs) G3 H' := ((S1.ext L3.ext gi).wipe vs)
      obtain ⟨ad', S5⟩ := SW.setAll r2
      have hS : ∀ G H g acc, LcS W dr D G1 H1 G H acc g → Sub G3 G → ∃ ad, SR W (setE (wipeE ρ vs) l) g dr ad (setV (L2.wipe σ vs) (l.map Prod.fst) ws) G H := fun G H g acc L s =>
        ((S1.ext L.ext L.gi).wipe vs).setAll (r2.mono s)
      refine k _ _ ⟨?_, ?_⟩
      · have hs := bindT_slots t d l eb
        rw [wipe_setV (fun j hj => hv j (by rw [← hs]; exact hj)), wipe_wipe _ _ _ fun v hv => hv]
      · refine calmT S5 (P := fun r => okF W dr G1 H1 r Q) (fun hb => hb) hl (fun x g n => ?_) fun b H4 g3 G4 S6 x6 hl => ?_
        · cases x <;> first | rfl | exact absurd rfl (n _)
        · have L4 := L3.ofExt dD x6 S6.gi
          cases b with
          | false =>
            rw [if_neg Bool.false_ne_true]
            exact ⟨G4, g3, acc, L4, hl⟩
          | true =>
            rw [if_pos rfl]
            refine calmI S6 (P := fun r => okF W dr G1 H1 r Q) (fun hb => hb) hl fun J1 H5 ds1 g5 G5 S7 x7 o1 hl => ?_
            have L5 := L4.ofExt dD x7 S7.gi
            refine lc_inner (P := fun r => okF W dr G1 H1 (r.calm.bind fun r g3 => match r with | .list acc' => lc2F t fc fi1 t1 fc1 fe vs vs1 ρ (ds.drop (i + 1)) acc' g3 | _ => .no) Q) ht1 hv1 dD hD (fun G H g acc L s => hS G H g acc L fun a u e => s a u (x7.g a u (x6.g a u e))) o1 L5 hl (fun z => z) fun G H g acc L s hp => ⟨G, g, acc, L, hp⟩
  · rintro H2 ⟨G2, g2, acc, L, hl⟩
    rw [List.drop_length] at hl
    have hl : okF W dr G1 H1 (.ok (.list acc) g2) Q := hl
    obtain ⟨ws, o1, o2⟩ := L.own
    exact hl D G2 H2 L.gi L.ext hD L.gn dD ⟨ws, o1, o2⟩
end
section
variable {X : Cx} {W : Wd} {fi fi1 : FnL} {t t1 : Tg} {g g1 : TG} {fc fc1 fe : Fn} {elt tg iter tg1 iter1 : Expr} {ifs ifs1 : List Expr} {scope : Scope} {pos spos : Pos}
theorem all_in {l m : List Nat} (h : l.all (fun i => decide (i ∈ m)) = true) : ∀ i ∈ l, i ∈ m := fun i hi => by
  simp only [List.all_eq_true, decide_eq_true_eq] at h
  exact h i hi
theorem w_lc2 (own : List (Str × Nat)) (vs1 : List Nat) (hN : X.N.Nodup) (ht : TgOk W.K t g) (hg : ∀ (s : Shared) (H : Hp) (C : Addr) (cl : List (Str × Addr)) (fp : List Addr), PG (X.blk s H scope (compEnvC scope cl C X.env) fp) tg g) (hi : PI X tg iter (tI W fi))
    (hc : ∀ (s : Shared) (H : Hp) (C : Addr) (cl : List (Str × Addr)) (fp : List Addr), PTs (X.blk s H scope (compEnvC scope cl C X.env) fp) ifs (tT W.calm fc)) (ht1 : TgOk W.K t1 g1)
    (hg1 : ∀ (s : Shared) (H : Hp) (C : Addr) (cl : List (Str × Addr)) (fp : List Addr), PG (X.blk s H scope (compEnvC scope cl C X.env) fp) tg1 g1) (hi1 : ∀ (s : Shared) (H : Hp) (C : Addr) (cl : List (Str × Addr)) (fp : List Addr), PI (X.blk s H scope (compEnvC scope cl C X.env) fp) tg1 iter1 (tI W.calm fi1))
    (hc1 : ∀ (s : Shared) (H : Hp) (C : Addr) (cl : List (Str × Addr)) (fp : List Addr), PTs (X.blk s H scope (compEnvC scope cl C X.env) fp) ifs1 (tT W.calm fc1))
    (he : ∀ (s : Shared) (H : Hp) (C : Addr) (cl : List (Str × Addr)) (fp : List Addr), PE (X.blk s H scope (compEnvC scope cl C X.env) fp) elt (tE W.calm fe))
    (ok : blkB X.N X.env.scope scope own = true := by kernel_rfl) (hv : (tgSlots t).all (fun i => decide (i ∈ own.map (·.2))) = true := by rfl) (hv1 : (tgSlots t1).all (fun i => decide (i ∈ vs1)) = true := by rfl) (hv2 : vs1.all (fun i => decide (i ∈ own.map (·.2))) = true := by rfl) (hcm : X.calm = true := by rfl)
    (hs : ∀ x, foldedSetIterable iter X.env x = pure x := by intro _; rfl) (hs1 : ∀ env x, foldedSetIterable iter1 env x = pure x := by intro _ _; rfl) :
    PE X (.ListComp elt [⟨tg, iter, ifs, 0⟩, ⟨tg1, iter1, ifs1, 0⟩] scope pos) (tF W (fLc2 fi t fc fi1 t1 fc1 fe (own.map (·.2)) vs1)) :=
  PE.imp (pe_lc2 hcm hN hi (blk_of ok) (all_in hv2) hg hc hi1 hg1 hc1 he hs hs1) (tLc2_of ht ht1 (all_in hv) (all_in hv1))
theorem w_setLc2O (i : Nat) (own : List (Str × Nat)) (vs1 : List Nat) {y : Str} {py : Pos} (hN : X.N.Nodup) (ht : TgOk W.K t g) (hg : ∀ (s : Shared) (H : Hp) (C : Addr) (cl : List (Str × Addr)) (fp : List Addr), PG (X.blk s H scope (compEnvC scope cl C X.env) fp) tg g) (hi : PI X tg iter (tI W fi))
    (hc : ∀ (s : Shared) (H : Hp) (C : Addr) (cl : List (Str × Addr)) (fp : List Addr), PTs (X.blk s H scope (compEnvC scope cl C X.env) fp) ifs (tT W.calm fc)) (ht1 : TgOk W.K t1 g1)
    (hg1 : ∀ (s : Shared) (H : Hp) (C : Addr) (cl : List (Str × Addr)) (fp : List Addr), PG (X.blk s H scope (compEnvC scope cl C X.env) fp) tg1 g1) (hi1 : ∀ (s : Shared) (H : Hp) (C : Addr) (cl : List (Str × Addr)) (fp : List Addr), PI (X.blk s H scope (compEnvC scope cl C X.env) fp) tg1 iter1 (tI W.calm fi1))
    (hc1 : ∀ (s : Shared) (H : Hp) (C : Addr) (cl : List (Str × Addr)) (fp : List Addr), PTs (X.blk s H scope (compEnvC scope cl C X.env) fp) ifs1 (tT W.calm fc1))
    (he : ∀ (s : Shared) (H : Hp) (C : Addr) (cl : List (Str × Addr)) (fp : List Addr), PE (X.blk s H scope (compEnvC scope cl C X.env) fp) elt (tE W.calm fe))
    (hy : X.N[i]? = some y := by rfl) (hyl : X.env.scope.names.lookup y = some .local := by rfl) (hsw : swapsWith (.ListComp elt [⟨tg, iter, ifs, 0⟩, ⟨tg1, iter1, ifs1, 0⟩] scope pos) (some (.Name y py)) spos.line X.env = pure true := by rfl)
    (ok : blkB X.N X.env.scope scope own = true := by kernel_rfl) (hv : (tgSlots t).all (fun i => decide (i ∈ own.map (·.2))) = true := by rfl) (hv1 : (tgSlots t1).all (fun i => decide (i ∈ vs1)) = true := by rfl) (hv2 : vs1.all (fun i => decide (i ∈ own.map (·.2))) = true := by rfl) (hcm : X.calm = true := by rfl)
    (hs : ∀ x, foldedSetIterable iter X.env x = pure x := by intro _; rfl) (hs1 : ∀ env x, foldedSetIterable iter1 env x = pure x := by intro _ _; rfl) :
    PS X (.Assign [.Name y py] (.ListComp elt [⟨tg, iter, ifs, 0⟩, ⟨tg1, iter1, ifs1, 0⟩] scope pos) spos) (tS W (fSetO i (fLc2 fi t fc fi1 t1 fc1 fe (own.map (·.2)) vs1))) :=
  PS.imp (ps_setLc2 hcm hN hy hyl hsw hi (blk_of ok) (all_in hv2) hg hc hi1 hg1 hc1 he hs hs1) fun D σ H h => tLc2_of ht ht1 (all_in hv) (all_in hv1) σ H _ (asgO_of D σ H h)
theorem w_setLc2 (i : Nat) (own : List (Str × Nat)) (vs1 : List Nat) {y : Str} {py : Pos} (hN : X.N.Nodup) (ht : TgOk W.K t g) (hg : ∀ (s : Shared) (H : Hp) (C : Addr) (cl : List (Str × Addr)) (fp : List Addr), PG (X.blk s H scope (compEnvC scope cl C X.env) fp) tg g) (hi : PI X tg iter (tI W fi))
    (hc : ∀ (s : Shared) (H : Hp) (C : Addr) (cl : List (Str × Addr)) (fp : List Addr), PTs (X.blk s H scope (compEnvC scope cl C X.env) fp) ifs (tT W.calm fc)) (ht1 : TgOk W.K t1 g1)
    (hg1 : ∀ (s : Shared) (H : Hp) (C : Addr) (cl : List (Str × Addr)) (fp : List Addr), PG (X.blk s H scope (compEnvC scope cl C X.env) fp) tg1 g1) (hi1 : ∀ (s : Shared) (H : Hp) (C : Addr) (cl : List (Str × Addr)) (fp : List Addr), PI (X.blk s H scope (compEnvC scope cl C X.env) fp) tg1 iter1 (tI W.calm fi1))
    (hc1 : ∀ (s : Shared) (H : Hp) (C : Addr) (cl : List (Str × Addr)) (fp : List Addr), PTs (X.blk s H scope (compEnvC scope cl C X.env) fp) ifs1 (tT W.calm fc1))
    (he : ∀ (s : Shared) (H : Hp) (C : Addr) (cl : List (Str × Addr)) (fp : List Addr), PE (X.blk s H scope (compEnvC scope cl C X.env) fp) elt (tE W.calm fe))
    (hy : X.N[i]? = some y := by rfl) (hyl : X.env.scope.names.lookup y = some .local := by rfl) (hsw : swapsWith (.ListComp elt [⟨tg, iter, ifs, 0⟩, ⟨tg1, iter1, ifs1, 0⟩] scope pos) (some (.Name y py)) spos.line X.env = pure true := by rfl)
    (ok : blkB X.N X.env.scope scope own = true := by kernel_rfl) (hv : (tgSlots t).all (fun i => decide (i ∈ own.map (·.2))) = true := by rfl) (hv1 : (tgSlots t1).all (fun i => decide (i ∈ vs1)) = true := by rfl) (hv2 : vs1.all (fun i => decide (i ∈ own.map (·.2))) = true := by rfl) (hcm : X.calm = true := by rfl)
    (hs : ∀ x, foldedSetIterable iter X.env x = pure x := by intro _; rfl) (hs1 : ∀ env x, foldedSetIterable iter1 env x = pure x := by intro _ _; rfl) :
    PS X (.Assign [.Name y py] (.ListComp elt [⟨tg, iter, ifs, 0⟩, ⟨tg1, iter1, ifs1, 0⟩] scope pos) spos) (tS W (fSet i (fLstO (fLc2 fi t fc fi1 t1 fc1 fe (own.map (·.2)) vs1)))) :=
  PS.imp (ps_setLc2 hcm hN hy hyl hsw hi (blk_of ok) (all_in hv2) hg hc hi1 hg1 hc1 he hs hs1) fun D σ H h => tLc2_of ht ht1 (all_in hv) (all_in hv1) σ H _ (tell_lst (asgE_of D σ H h))
end
end PL
end L2
set_option Elab.async false
set_option linter.all false
set_option maxRecDepth 100000
/-! PL 31: defs that call themselves; d.update(e). -/
namespace L2
namespace PL
open PySem PySem.Spec PyProof.Rows
section
variable {P : Program} {w : World} {K : PySem.W.Frag} {mg : Str → Option Value} {base : Heap} {T : List (Addr × Str)} {C : Addr}
theorem hasF_no {x : Str} {st : Stmt} {ps : List Str} {k n : Nat} (r : Raw K mg x st ps) (hn : ps.length = n) : HasF P w K mg base k x ps (spF K T C n fun _ _ => .no) := by
  obtain ⟨f, fd, Fu, h1, h2, h3⟩ := r
  refine ⟨f, fd, ⟨spF_len hn, fun A outer s H args us vs Q E hg hr e0 hb r hsp => ?_⟩, h1, h2, h3⟩
  obtain ⟨as, g, dr, G, i, a, hl, h⟩ := hsp
  exact h.elim
end
section
variable {X : Cx} {W : Wd} {e : Expr} {fa : Fn} {pos : Pos}
def rDUpd : V → List V → Hp → VK → Prop := fun x xs H Q => ∃ (a b : Addr) (ls more : List (Key × V)), x = .ref a ∧ xs = [.ref b] ∧ a ≠ b ∧ H a = some (.dK ls) ∧ Rd H b (.dK more) ∧ ls.length + more.length ≤ sizeLine ∧ Q .non (upd H a (.dK (mergeK ls more)))
theorem mt_dupd : MtR X "dict.update" rDUpd := by
  intro pins s σ H x xs v us Q I rx rxs h
  obtain ⟨a, b, ls, more, rfl, rfl, hab, ha, hb, hz, q⟩ := h
  obtain rfl : v = Value.ref a := rx
  obtain ⟨u, rfl, ru⟩ := vals1 rxs
  obtain rfl : u = Value.ref b := ru
  obtain ⟨z1, lo1, vs1, r1, d1⟩ := dk_rd I.hok (.inl ha)
  obtain ⟨z2, lo2, vs2, r2, d2⟩ := dk_rd I.hok hb
  refine call_meetsIn PySem.F.slot_dict_update d1.typeIs PySem.F.entry_dict_update (PySem.F.args_dict_update_2 _ _) (meets_dict_update (mixKind X.prog X.w) a b hab lo2) ⟨vs1, vs2, d1, d2, by rw [← r1.length, ← r2.length]; exact hz, fun h' hd' _ hs => ?_⟩
  have he : ∃ u, h'.get? a = some u := by
    obtain ⟨o, es, ep, ho, _⟩ := hd'
    exact ⟨o, ho⟩
  refine ⟨.non, upd H a (.dK (mergeK ls more)), I.write (x := a) (e := a) (t' := s.toks) (by rw [ha]; trivial) (.inl rfl) (fun c u hc hu => (hs.2 c hc).trans hu) he ⟨?_, lo1, merged vs1 vs2, KV.merge r2 r1, hd'⟩, rfl, q⟩
  refine Nat.le_trans (length_mergeK more ls) ?_
  exact hz
def fUpd (i : Nat) (fa : Fn) : FnS := fun ρ g => match ρ[i]? with
  | some (.ow (.dict _)) => (fa ρ g).bind fun d g1 => match ρ[i]?, d with
    | some (.ow (.dict kvs)), .dict more => if wOk ρ g1 && kvs.all (fun kv => keyFlat kv.1) && more.all (fun kv => keyFlat kv.1) && decide (kvs.length + more.length ≤ sizeLine) then .ok (.nx (ρ.set i (.ow (.dict (mergeD kvs more))))) g1 else .no
    | _, _ => .no
  | _ => .no
theorem w_upd {i : Nat} {x : Expr} {p2 p3 : Pos} (hx : PE X x (tVar i)) (ha : PE X e (tE W fa)) (he : starEach (e :: []) X.env = (false, eval e X.env) :: starEach [] X.env := by rfl)
    (hbm : ∀ {te : TE} {ta : TA}, PE X x te → PA X [e] ta → PE X (.Call (.Attribute x "update" p2) [e] [] p3) (tBM X.K "dict" rDUpd te ta) := by exact fun h1 h2 => pe_bm PySem.F.plainAttrs_dict PySem.F.slot_dict_update PySem.F.type_dict_update mt_dupd h1 h2)
    (hs : swapsWith (.Call (.Attribute x "update" p2) [e] [] p3) none pos.line X.env = pure false := by rfl) : PS X (.Expr (.Call (.Attribute x "update" p2) [e] [] p3) pos) (tS W (fUpd i fa)) := by
  refine PS.imp (ps_expr (hbm hx (pa_cons ha pa_nil he)) hs) ?_
  rintro D σ H ⟨ρ, g, dr, ad, G, G0, H0, S, h⟩
  unfold fUpd at h
  cases e1 : ρ[i]? with
  | none => rw [e1] at h; exact h.elim
  | some sl =>
    rw [e1] at h
    cases sl with
    | ow d =>
      cases d with
      | dict kvs0 =>
        obtain ⟨h1, h2, h3, o⟩ := S.sr.slot i _ e1
        have ty : tyV X.K "dict" (.ref (ad i)) H := by
          rcases o with ⟨ks, q, _⟩ | ⟨ks, q, _⟩
          · exact .inr (.inr (.inl ⟨rfl, .inl ⟨_, q⟩⟩))
          · exact .inr (.inr (.inl ⟨rfl, .inr ⟨_, q⟩⟩))
        refine ⟨_, h1, ty, ?_⟩
        refine seqE S.sr poS (P := pS W dr G0 H0 D) ⟨S.ext, h⟩ fun v H1 d g1 G1 S1 x1 r1 hh => ?_
        have hh := hh.2
        cases d with
        | dict more =>
          have S2 : SB W ρ g1 dr ad σ G0 H0 G1 H1 := S.next x1 S1.gi
          obtain ⟨z1, z2, z3, z4⟩ := S1.slot i _ e1
          by_cases c : (wOk ρ g1 && kvs0.all (fun kv => keyFlat kv.1) && more.all (fun kv => keyFlat kv.1) && decide (kvs0.length + more.length ≤ sizeLine)) = true
          · simp only [c, if_true] at hh
            simp only [Bool.and_eq_true, decide_eq_true_eq] at c
            obtain ⟨⟨⟨c1, c2⟩, c3⟩, c4⟩ := c
            obtain ⟨a, ks, ea, q1, q2, q3⟩ := Pk.dctK S1.gi.sub (.inr ⟨ad i, rfl, z2, z3, z4⟩ : Pk W.K dr G1 H1 (.ref (ad i)) (.dict kvs0)) c2
            cases ea
            obtain ⟨b, ms, eb, m1, m2, m3⟩ := Pk.dctK S1.gi.sub (.inl r1 : Pk W.K dr G1 H1 v (.dict more)) c3
            have hq : H1 (ad i) = some (.dK ks) := by
              rcases q1 with q1 | ⟨o, q1⟩
              · exact q1
              · exfalso
                rcases z4 with ⟨k2, q, _⟩ | ⟨k2, q, _⟩ <;> (rw [q] at q1; cases q1)
            have ne : ad i ≠ b := fun z => by
              cases r1 with
              | dK ga _ _ =>
                cases eb
                rcases ga with ga | ⟨o, ga⟩ <;> (rw [← z, z2] at ga; cases ga)
              | dT ga _ _ _ =>
                cases eb
                rcases ga with ga | ⟨o, ga⟩ <;> (rw [← z, z2] at ga; cases ga)
            have l1 : ks.length = kvs0.length := by rw [← List.length_map (f := fun p : Key × V => keyD p.1), ← q3, List.length_map]
            have l2 : ms.length = more.length := by rw [← List.length_map (f := fun p : Key × V => keyD p.1), ← m3, List.length_map]
            refine ⟨ad i, b, ks, ms, rfl, by rw [eb], ne, hq, m1, by omega, ?_⟩
            obtain ⟨p1, p2⟩ := merge_rp m2 m3 q2 q3
            exact hh _ _ G1 _ (S2.write e1 (d' := .dict (mergeD kvs0 more)) (.inl ⟨_, upd_same, p1, p2⟩) fun j ns hj => wOk_iff c1 S1.gi j ns hj)
          · simp only [c] at hh
            exact hh.elim
        | none | bool | int | str | list | tuple => exact hh.elim
      | none | bool | int | str | tuple | list => exact h.elim
    | un | sh | dr | sc => exact h.elim
end
end PL
end L2
set_option Elab.async false
set_option linter.all false
set_option maxRecDepth 100000
/-! PL 32: list(d.values()), list(d.items()). -/
namespace L2
namespace PL
open PySem PySem.Spec PyProof.Rows
section
variable {X : Cx} {W : Wd} {e : Expr} {fa : Fn} {te : TE} {p apos cpos pos : Pos}
def rVals : V → Hp → VK → Prop := fun x H Q => ∃ (d : Addr) (kvs : List (Key × V)), x = .ref d ∧ Rd H d (.dK kvs) ∧ ∀ q, H q = none → Q (.ref q) (upd H q (.lst (kvs.map Prod.snd)))
theorem kv_vals {kvs : List (Key × V)} {vs : List (Key × Value)} (r : KV kvs vs) : Vals (kvs.map Prod.snd) (vs.map Prod.snd) := by
  unfold KV at r
  induction r with
  | nil => exact .nil
  | cons h _ ih => exact .cons h.2 ih
theorem pe_listVals (hc : X.calm = true) (he : PE X e te) (hg : Gl X "list") (hm : X.mg "list" = none) (hbase : attributeBase e "values" X.env (eval e X.env) = eval e X.env := by rfl) (hline : (apos.endLine == cpos.line) = true := by rfl)
    (hs : starEach [.Call (.Attribute e "values" apos) [] [] cpos] X.env = (false, eval (.Call (.Attribute e "values" apos) [] [] cpos) X.env) :: starEach [] X.env := by rfl) :
    PE X (.Call (.Name "list" p) [.Call (.Attribute e "values" apos) [] [] cpos] [] pos) (fun σ H Q => te σ H fun x H1 => rVals x H1 Q) := by
  refine ⟨fun pins s σ H Q I hq => ?_⟩
  refine wpAny_Call_Name_kw (ld_blt I hg hm (u := .type "list") (by rfl) ?_ (by decide) (by decide))
  refine PyProof.Rows.callWith_type1 ?_ hs rfl
  rw [hs]
  show wpAny _ _ (spliced ((false, eval (.Call (.Attribute e "values" apos) [] [] cpos) X.env) :: backTo pos (starEach [] X.env))) _ _ s
  refine Calls.spliced_cons ?_
  refine wpAny_Call_method (T := "dict") (id := "dict.values") hbase rfl hline F.plainAttrs_dict F.slot_dict_values F.type_dict_values (thn (he.run pins s σ H _ I hq) fun u s1 ⟨x, H1, I1, rx, d, kvs, ex, hd, q⟩ => ?_)
  subst ex
  obtain rfl : u = Value.ref d := rx
  obtain ⟨hz, hs0, vs, kv, hdo⟩ := dk_rd I1.hok hd
  obtain ⟨ep, hat⟩ := hdo.dictAt
  have lk : kvs.length = vs.length := Paired.length kv
  have I2 : Inv X pins σ H1 { s1 with heap := s1.heap.push { cls := .type "dict_values", data := .fields #[.ref d] } } := I1.kept (t' := s1.toks) fun b ob q => Heap.get?_push_of_some _ q
  refine ⟨hdo.typeIs, hdo.mapOf.noDict, ?_⟩
  show wpAny _ _ (callWith cpos (.builtin "dict.values") [.ref d] [] []) _ X.xe s1
  refine method_meetsIn F.slot_dict_values F.entry_dict_values rfl (PySem.evalArgs_none ⟨rfl, hdo.typeIs, F.args_dict_values_1 _, _, meets_dict_values (mixKind X.prog X.w) d hs0, ⟨vs, hdo⟩, ?_⟩)
  refine Calls.spliced_nil ?_
  refine PySem.W.kdl_call (PySem.W.kdl_values (knd := mixKind X.prog X.w) (kvs := vs) (ep := ep)) (I1.ok.hd hc) ⟨⟨_, Heap.get?_push_size _ rfl, rfl, rfl⟩, hat.push _⟩ (by omega) fun h' tk acc' c' hk hS hacc => ?_
  have el : acc'.toList = vs.map Prod.snd := PySem.W.kdl_vals_eq acc'.toList (by rw [Array.length_toList]; exact hacc.1) fun j v e => hacc.2 j v (by rw [← Array.getElem?_toList]; exact e)
  refine ⟨.ref _, upd H1 _ (.lst (kvs.map Prod.snd)), I2.laid (t' := tk) hk (Nat.le_refl _) (show ObjOk X.prog X.w _ _ _ (.lst (kvs.map Prod.snd)) from ⟨by rw [List.length_map]; exact hz, acc'.toList, c', by rw [el]; exact kv_vals kv, by rw [Array.toArray_toList]; exact hS⟩), rfl, q _ (I2.hok.fresh (Nat.le_refl _))⟩
def fVals (fa : Fn) : Fn := fun ρ g => (fa ρ g).bind fun x g1 => match x with
  | .dict kvs => if kvs.all (fun kv => keyFlat kv.1) then .ok (.list (kvs.map Prod.snd)) g1 else .no
  | _ => .no
theorem w_lvals (hb : Bl X.mg) (hc : X.calm = true) (he : PE X e (tP W fa)) (hg : Gl X "list" := by rfl) (hbase : attributeBase e "values" X.env (eval e X.env) = eval e X.env := by rfl) (hline : (apos.endLine == cpos.line) = true := by rfl)
    (hs : starEach [.Call (.Attribute e "values" apos) [] [] cpos] X.env = (false, eval (.Call (.Attribute e "values" apos) [] [] cpos) X.env) :: starEach [] X.env := by rfl) :
    PE X (.Call (.Name "list" p) [.Call (.Attribute e "values" apos) [] [] cpos] [] pos) (tF W (fVals fa)) := by
  refine PE.imp (pe_listVals hc he hg hb.list hbase hline hs) ?_
  rintro σ H Q ⟨ρ, g, dr, ad, G, S, h⟩
  refine seqP S poF h fun v H1 x g1 G1 S1 x1 r1 h1 => ?_
  cases x with
  | dict kvs =>
    have h1 : okF W dr G1 H1 (if kvs.all (fun kv => keyFlat kv.1) = true then .ok (.list (kvs.map Prod.snd)) g1 else .no) Q := h1
    by_cases c : kvs.all (fun kv => keyFlat kv.1) = true
    · rw [if_pos c] at h1
      obtain ⟨a, ks, rfl, q1, q2, q3⟩ := r1.dctK S1.gi.sub c
      exact ⟨a, ks, rfl, q1, fun q hq => h1 q _ _ (S1.gi.new hq) (Ext.new hq) hq (none_sub S1.gi.sub hq) (dr_new S1.gi hq) ⟨_, upd_same, q2⟩⟩
    · rw [if_neg c] at h1; exact h1.elim
  | none | bool | int | str | list | tuple => exact h1.elim
def rItems : V → Hp → VK → Prop := fun x H Q => ∃ (d : Addr) (kvs : List (Key × V)), x = .ref d ∧ Rd H d (.dK kvs) ∧
  ∀ (H' : Hp) (p : Addr) (ts : List Addr), (∀ b o, H b = some o → H' b = some o) → H p = none → (∀ t ∈ ts, H t = none) → p ∉ ts → H' p = some (.lst (ts.map V.ref)) → Paired (fun (t : Addr) (q : Key × V) => H' t = some (.tup [kV q.1, q.2])) ts kvs → Q (.ref p) H'
theorem pe_listIts (hc : X.calm = true) (he : PE X e te) (hg : Gl X "list") (hm : X.mg "list" = none) (hbase : attributeBase e "items" X.env (eval e X.env) = eval e X.env := by rfl) (hline : (apos.endLine == cpos.line) = true := by rfl)
    (hs : starEach [.Call (.Attribute e "items" apos) [] [] cpos] X.env = (false, eval (.Call (.Attribute e "items" apos) [] [] cpos) X.env) :: starEach [] X.env := by rfl) :
    PE X (.Call (.Name "list" p) [.Call (.Attribute e "items" apos) [] [] cpos] [] pos) (fun σ H Q => te σ H fun x H1 => rItems x H1 Q) := by
  refine ⟨fun pins s σ H Q I hq => ?_⟩
  refine wpAny_Call_Name_kw (ld_blt I hg hm (u := .type "list") (by rfl) ?_ (by decide) (by decide))
  refine PyProof.Rows.callWith_type1 ?_ hs rfl
  rw [hs]
  show wpAny _ _ (spliced ((false, eval (.Call (.Attribute e "items" apos) [] [] cpos) X.env) :: backTo pos (starEach [] X.env))) _ _ s
  refine Calls.spliced_cons ?_
  refine wpAny_Call_method (T := "dict") (id := "dict.items") hbase rfl hline F.plainAttrs_dict F.slot_dict_items F.type_dict_items (thn (he.run pins s σ H _ I hq) fun u s1 ⟨x, H1, I1, rx, d, kvs, ex, hd, q⟩ => ?_)
  subst ex
  obtain rfl : u = Value.ref d := rx
  obtain ⟨hz, hs0, vs, kv, hdo⟩ := dk_rd I1.hok hd
  obtain ⟨ep, hat⟩ := hdo.dictAt
  have lk : kvs.length = vs.length := Paired.length kv
  have I2 : Inv X pins σ H1 { s1 with heap := s1.heap.push { cls := .type "dict_items", data := .fields #[.ref d] } } := I1.kept (t' := s1.toks) fun b ob q => Heap.get?_push_of_some _ q
  refine ⟨hdo.typeIs, hdo.mapOf.noDict, ?_⟩
  show wpAny _ _ (callWith cpos (.builtin "dict.items") [.ref d] [] []) _ X.xe s1
  refine method_meetsIn F.slot_dict_items F.entry_dict_items rfl (PySem.evalArgs_none ⟨rfl, hdo.typeIs, F.args_dict_items_1 _, _, meets_dict_items (mixKind X.prog X.w) d hs0, ⟨vs, hdo⟩, ?_⟩)
  refine Calls.spliced_nil ?_
  refine PySem.W.kdx_call (knd := mixKind X.prog X.w) (kvs := vs) (ep := ep) (I1.ok.hd hc) ⟨_, Heap.get?_push_size _ rfl, rfl, rfl⟩ (hat.push _) (by omega) fun h' tk acc c as hk hS hl hG hacc => ?_
  obtain ⟨H', k1, k2, k3, k4, k5, k6, J⟩ := LiI.items_laid (tk := tk) I2 hz kv hk hS hl hG hacc
  exact ⟨.ref _, H', J, rfl, q H' _ as k1 k2 k3 k4 k5 k6⟩
theorem rp_items {K : PySem.W.Frag} {G G' H' : Hp} (g : Sub G G') {ts : List Addr} {ks : List (Key × V)} (hp : Paired (fun (t : Addr) (q : Key × V) => H' t = some (.tup [kV q.1, q.2])) ts ks) : ∀ {kvs : List (PyData × PyData)}, (∀ t ∈ ts, G' t = H' t) → RpL K G (ks.map Prod.snd) (kvs.map Prod.snd) → kvs.map Prod.fst = ks.map (fun p => keyD p.1) →
    RpL K G' (ts.map V.ref) (kvs.map fun kv => .tuple [kv.1, kv.2]) := by
  induction hp with
  | nil =>
    intro kvs h r e
    cases kvs with
    | nil => exact .nil
    | cons _ _ => simp at e
  | @cons t q ts ks a b ih =>
    intro kvs h r e
    cases kvs with
    | nil => simp at e
    | cons kv kvs =>
      simp only [List.map_cons, List.cons.injEq] at e r
      cases r with
      | cons r1 r2 =>
        refine .cons (.tup (by rw [h t List.mem_cons_self]; exact a) (.cons ?_ (.cons (r1.mono g) .nil))) (ih (fun t ht => h t (List.mem_cons_of_mem _ ht)) r2 e.2)
        rw [e.1]
        cases q.1 with
        | inl i => exact .int i
        | inr x => exact .str x
def fItems (fa : Fn) : Fn := fun ρ g => (fa ρ g).bind fun x g1 => match x with
  | .dict kvs => if kvs.all (fun kv => keyFlat kv.1) then .ok (.list (kvs.map fun kv => .tuple [kv.1, kv.2])) g1 else .no
  | _ => .no
theorem w_litems (hb : Bl X.mg) (hc : X.calm = true) (he : PE X e (tP W fa)) (hg : Gl X "list" := by rfl) (hbase : attributeBase e "items" X.env (eval e X.env) = eval e X.env := by rfl) (hline : (apos.endLine == cpos.line) = true := by rfl)
    (hs : starEach [.Call (.Attribute e "items" apos) [] [] cpos] X.env = (false, eval (.Call (.Attribute e "items" apos) [] [] cpos) X.env) :: starEach [] X.env := by rfl) :
    PE X (.Call (.Name "list" p) [.Call (.Attribute e "items" apos) [] [] cpos] [] pos) (tF W (fItems fa)) := by
  refine PE.imp (pe_listIts hc he hg hb.list hbase hline hs) ?_
  rintro σ H Q ⟨ρ, g, dr, ad, G, S, h⟩
  refine seqP S poF h fun v H1 x g1 G1 S1 x1 r1 h1 => ?_
  cases x with
  | dict kvs =>
    have h1 : okF W dr G1 H1 (if kvs.all (fun kv => keyFlat kv.1) = true then .ok (.list (kvs.map fun kv => .tuple [kv.1, kv.2])) g1 else .no) Q := h1
    by_cases c : kvs.all (fun kv => keyFlat kv.1) = true
    · rw [if_pos c] at h1
      obtain ⟨a, ks, rfl, q1, q2, q3⟩ := r1.dctK S1.gi.sub c
      refine ⟨a, ks, rfl, q1, fun H' q ts k1 k2 k3 k4 k5 k6 => ?_⟩
      obtain ⟨G', eG⟩ : ∃ G' : Hp, (fun b => if b ∈ ts then H' b else G1 b) = G' := ⟨_, rfl⟩
      have gin : ∀ t ∈ ts, G' t = H' t := fun t ht => by rw [← eG]; exact if_pos ht
      have gout : ∀ t, t ∉ ts → G' t = G1 t := fun t ht => by rw [← eG]; exact if_neg ht
      have tin : ∀ t ∈ ts, ∃ xs, H' t = some (.tup xs) := fun t ht => by
        obtain ⟨j, pk, _, _, e3⟩ := LiI.paired_ix k6 ht
        exact ⟨_, e3⟩
      have gs : Sub G1 G' := fun b o e => by
        rw [gout b (fun z => by have := S1.gi.sub b o e; rw [k3 b z] at this; cases this)]
        exact e
      have gi : GI W g1 dr G' H' := by
        refine ⟨fun b o e => ?_, fun b o e => ?_, S1.gi.draw.add gs k1 fun c hc ⟨o, ho⟩ n => by rw [gout c (fun z => by rw [k3 c z] at ho; cases ho)]; exact n, S1.gi.tabs.ext k1⟩
        · by_cases hb : b ∈ ts
          · rw [gin b hb] at e; exact e
          · rw [gout b hb] at e; exact k1 b o (S1.gi.sub b o e)
        · by_cases hb : b ∈ ts
          · obtain ⟨xs, ex⟩ := tin b hb
            rw [gin b hb, ex] at e; cases e; exact trivial
          · rw [gout b hb] at e; exact S1.gi.imm b o e
      have xe : Ext dr G1 H1 G' H' := ⟨gs, fun b o e _ _ => k1 b o e, fun b o e _ _ n => by rw [gout b (fun z => by rw [k3 b z] at e; cases e)]; exact n, fun b o e => ⟨o, k1 b o e⟩⟩
      exact h1 q G' H' gi xe k2 (by rw [gout q k4]; exact none_sub S1.gi.sub k2) (dr_new S1.gi k2) ⟨_, k5, rp_items gs k6 gin q2 q3⟩
    · rw [if_neg c] at h1; exact h1.elim
  | none | bool | int | str | list | tuple => exact h1.elim
end
end PL
end L2
set_option Elab.async false
set_option linter.all false
set_option maxRecDepth 100000
/-! PL 33: sorted(set(xs)), len(set(xs)) of whole numbers. -/
namespace L2
open PySem PySem.Spec PyProof.Rows
section
variable {P : Program} {w : World} {A : Around} {E : Value → Shared → Prop} {s : Shared}
set_option maxHeartbeats 3200000 in
theorem call_set_ints {l : Addr} {items : Array Value} (ns : List Int) {Q : Value → Shared → Prop} (hh : A.handled = none) (hl : s.heap.IsList l items) (hit : IntsAre items.toList ns) (hb : ns.length + 1 < scanBound)
    (h : ∀ (h' : Heap) (tk c : Nat), SetR w h' s.heap.objs.size (fun j => decide (j ∈ ns)) c → c ≤ ns.length → (∀ b o, s.heap.get? b = some o → h'.get? b = some o) → Q (.ref s.heap.objs.size) { s with heap := h', toks := tk }) :
    wpAny (model P w) A (call (.type "set") [.ref l]) Q E s := by
  have eqn : items.size = ns.length := by
    have q := IntsAre.length hit
    rw [Array.length_toList] at q
    exact q
  obtain ⟨c, tl, mr1⟩ := F.called_set.mro
  have mk1 := F.called_set.made
  have sb1 := F.called_set.sub
  refine wpAny_call (codeAny_of_tree ?_)
  show wpAny _ _ (callAny (.type "set") _) _ _ _
  refine wpAny_pure ⟨Code.quiet_builtin _ (by decide +kernel), codeAny_builtin F.entry_type_call ?_⟩
  rw [Around.under_plain (weight_type_call_type "set" [.ref l] []) rfl]
  have h1 := F.called_set.notType
  have h2 := F.called_set.canCreate
  have ct1 := F.typeCall_set_1 (.ref l)
  repeat (any_goals (first | assumption | wp_step))

  refine codeAny_mono (code_set_led1 (.ref l) (E := E) (Q₁ := fun obj s₁ => obj = .ref s.heap.objs.size ∧ s₁ = { s with heap := s.heap.push { cls := .type "set", dict := none, data := .set #[] 0 (.fresh 0 0 (!w.params.followText "set-order")) } }) ⟨rfl, rfl⟩) fun r s₁ hr => ?_
  cases r with
  | error e => exact hr
  | ok fl =>
    cases fl with
    | ret obj =>
      obtain ⟨rfl, rfl⟩ := hr
      have hS : (s.heap.push { cls := .type "set", dict := none, data := .set #[] 0 (.fresh 0 0 (!w.params.followText "set-order")) }).get? s.heap.objs.size = some { cls := .type "set", dict := none, data := .set #[] 0 (.fresh 0 0 (!w.params.followText "set-order")) } := Heap.get?_push_size _ rfl
      have hT : Shared.TypeIs { s with heap := s.heap.push { cls := .type "set", dict := none, data := .set #[] 0 (.fresh 0 0 (!w.params.followText "set-order")) } } (.ref s.heap.objs.size) "set" := ⟨_, hS, rfl⟩
      have li1 := F.called_set.init.lookup
      have bi1 := F.called_set.init.bind (.ref s.heap.objs.size)
      repeat (any_goals (first | assumption | wp_step))

      refine codeAny_mono (codeAny_call_builtin (R := wants (fun r s₂ => r = .none ∧ ∃ h' tk c, s₂ = { s with heap := h', toks := tk } ∧ SetR w h' s.heap.objs.size (fun j => decide (j ∈ ns)) c ∧ c ≤ ns.length ∧
          (∀ b o, s.heap.get? b = some o → h'.get? b = some o)) E) F.called_set.init.plain F.entry_set_init (check_set_init_1 hT ?_)) fun r₂ s₂ hr₂ => ?_
      · obtain ⟨ol, hol, hcl, nl, hdl⟩ := hl
        obtain ⟨ocls, odict, odata, oslots⟩ := ol
        simp only at hcl hdl
        subst hcl; subst hdl
        have hol' : (s.heap.push { cls := .type "set", dict := none, data := .set #[] 0 (.fresh 0 0 (!w.params.followText "set-order")) }).get? l = some { cls := .type "list", dict := odict, data := .seq items nl, slots := oslots } := Heap.get?_push_of_some _ hol
        have ss1 := F.sub_list_set
        have ss2 := F.sub_list_frozenset
        have hne : (Value.type "list" == Value.type "dict") = false := by decide
        have hl1 : (s.heap.push { cls := .type "set", dict := none, data := .set #[] 0 (.fresh 0 0 (!w.params.followText "set-order")) }).IsList l items := ⟨_, hol', rfl, nl, rfl⟩
        unfold Builtin.«set.__init__» noKeywords Builtin.Frozenset.updateFrom
        generalize hPI : pyIter = PI
        wp_walk
        subst hPI

        refine wpAny_pyIter_list hl1 ?_
        refine wpAny_bind (wpAny_runValue ?_)
        have ltS : l < s.heap.objs.size := Heap.lt_size hol
        have calm3 : A.in1.in1.in1.handled = none := by simp [hh]
        have hz1 : (s.heap.push { cls := .type "set", dict := none, data := .set #[] 0 (.fresh 0 0 (!w.params.followText "set-order")) }).objs.size = s.heap.objs.size + 1 := Heap.size_push ..
        have neI : l ≠ (s.heap.push { cls := .type "set", dict := none, data := .set #[] 0 (.fresh 0 0 (!w.params.followText "set-order")) }).objs.size := by
          rw [Heap.size_push]; exact Nat.ne_of_lt (Nat.lt_succ_of_lt ltS)
        have notfp : s.heap.objs.size ∉ [(s.heap.push { cls := .type "set", dict := none, data := .set #[] 0 (.fresh 0 0 (!w.params.followText "set-order")) }).objs.size, l] := by
          rw [Heap.size_push]; simp only [List.mem_cons, List.mem_singleton, List.not_mem_nil, or_false, not_or]
          exact ⟨Nat.ne_of_lt (Nat.lt_succ_self _), Nat.ne_of_gt ltS⟩
        have isint : ∀ (i : Nat) (v : Value), items[i]? = some v → ∃ k t, ns[i]? = some k ∧ v = .int k t := fun i v hv => by
          have hi : i < ns.length := by rw [← eqn]; exact (Array.getElem?_eq_some_iff.mp hv).1
          obtain ⟨t, e⟩ := PyProof.Rows.IntsAre.int_at hit i v (by rw [Array.getElem?_toList]; exact hv)
          refine ⟨ns[i], t, List.getElem?_eq_getElem hi, ?_⟩
          rw [e, List.getD_eq_getElem?_getD, List.getElem?_eq_getElem hi] <;> rfl
        refine set_update_ints ((Walks.list calm3 _ l neI items).toS) s.heap.objs.size
          notfp ns eqn hb isint (items.size - 0) 0 _ (by omega) (Nat.zero_le _)
          ⟨⟨_, Heap.get?_push_size _ rfl, rfl, rfl⟩, (hl1.push _)⟩ ?hS0 ?hR
        case hS0 =>
          have atS : ((s.heap.push { cls := .type "set", dict := none, data := .set #[] 0 (.fresh 0 0 (!w.params.followText "set-order")) }).push { cls := .type "list_iterator", data := .fields #[.ref l, .int 0 0] }).get? s.heap.objs.size
              = some { cls := .type "set", dict := none, data := .set #[] 0 (.fresh 0 0 (!w.params.followText "set-order")) } := Heap.get?_push_of_some _ hS
          exact ⟨0, Nat.le_refl 0, setR_new_at atS⟩
        case hR =>
          intro s' c' hm hc' hS'
          obtain ⟨h', g2, d', tk', os'⟩ := s'
          have eg : g2 = s.gens := hm.gens
          have ed : d' = s.drawn := hm.drawn
          have eo : os' = s.os := hm.os
          subst eg; subst ed; subst eo
          show wpAny _ _ _ _ _ _
          refine wpAny_pure ?_
          show wpAny _ _ (ret Value.none) _ _ _
          rw [eqn] at hc'
          refine wpAny_pure ⟨rfl, h', tk', c', rfl, hS', hc', fun b o e => ?_⟩
          have hb0 : b < s.heap.objs.size := Heap.lt_size e
          have hb1 : b ≠ s.heap.objs.size := Nat.ne_of_lt hb0
          have hb2 : b ≠ (s.heap.push { cls := .type "set", dict := none, data := .set #[] 0 (.fresh 0 0 (!w.params.followText "set-order")) }).objs.size := by
            rw [Heap.size_push]; exact Nat.ne_of_lt (Nat.lt_succ_of_lt hb0)
          exact hm.heap b o (by simp only [List.mem_cons, List.mem_singleton, List.not_mem_nil, or_false, not_or]; exact ⟨hb1, hb2⟩) (Heap.get?_push_of_some _ (Heap.get?_push_of_some _ e))

      · cases r₂ with
        | error e => exact hr₂
        | ok fl₂ =>
          cases fl₂ with
          | ret r =>
            obtain ⟨rfl, h', tk, c', rfl, hS', hc', hk'⟩ := hr₂
            repeat (any_goals (first | assumption | wp_step))
            exact h _ _ _ hS' hc' hk'
          | _ => exact hr₂.elim
    | _ => exact hr.elim

end
end L2
set_option Elab.async false
set_option linter.all false
set_option maxRecDepth 100000
/-! PL 34: sorted(set(xs)), len(set(xs)) of whole numbers, over data. -/
namespace L2
namespace PL
open PySem PySem.Spec PyProof.Rows

def insU (x : Int) : List Int → List Int
  | [] => [x]
  | y :: l => if x < y then x :: y :: l else if x = y then y :: l else y :: insU x l
def sortU : List Int → List Int
  | [] => []
  | x :: l => insU x (sortU l)
theorem insU_mem {x k : Int} : ∀ {l : List Int}, k ∈ insU x l ↔ k = x ∨ k ∈ l
  | [] => by simp [insU]
  | y :: l => by
    unfold insU
    by_cases c : x < y
    · rw [if_pos c]; simp
    · rw [if_neg c]
      by_cases d : x = y
      · rw [if_pos d]; subst d; simp
      · rw [if_neg d, List.mem_cons, insU_mem (l := l), List.mem_cons]
        constructor
        · rintro (h | h | h)
          · exact .inr (.inl h)
          · exact .inl h
          · exact .inr (.inr h)
        · rintro (h | h | h)
          · exact .inr (.inl h)
          · exact .inl h
          · exact .inr (.inr h)
theorem insU_sorted {x : Int} : ∀ {l : List Int}, l.Pairwise (· < ·) → (insU x l).Pairwise (· < ·)
  | [], _ => by simp [insU]
  | y :: l, h => by
    have h0 := List.pairwise_cons.mp h
    unfold insU
    by_cases c : x < y
    · rw [if_pos c]
      refine List.pairwise_cons.mpr ⟨fun z hz => ?_, h⟩
      rcases List.mem_cons.mp hz with e | e
      · rw [e]; exact c
      · have := h0.1 z e; omega
    · rw [if_neg c]
      by_cases d : x = y
      · rw [if_pos d]; exact h
      · rw [if_neg d]
        refine List.pairwise_cons.mpr ⟨fun z hz => ?_, insU_sorted h0.2⟩
        rcases insU_mem.mp hz with e | e
        · omega
        · exact h0.1 z e
theorem sortU_sorted : ∀ l : List Int, (sortU l).Pairwise (· < ·)
  | [] => List.Pairwise.nil
  | _ :: l => insU_sorted (sortU_sorted l)
theorem sortU_mem {k : Int} : ∀ {l : List Int}, k ∈ sortU l ↔ k ∈ l
  | [] => Iff.rfl
  | x :: l => by rw [sortU, insU_mem, sortU_mem, List.mem_cons]
theorem sorted_ext : ∀ {l m : List Int}, l.Pairwise (· < ·) → m.Pairwise (· < ·) → (∀ k, k ∈ l ↔ k ∈ m) → l = m
  | [], [], _, _, _ => rfl
  | [], y :: m, _, _, h => absurd ((h y).mpr List.mem_cons_self) (by simp)
  | x :: l, [], _, _, h => absurd ((h x).mp List.mem_cons_self) (by simp)
  | x :: l, y :: m, p, q, h => by
    have p0 := List.pairwise_cons.mp p
    have q0 := List.pairwise_cons.mp q
    have e : x = y := by
      have h1 := (h x).mp List.mem_cons_self
      have h2 := (h y).mpr List.mem_cons_self
      rcases List.mem_cons.mp h1 with e | e
      · exact e
      · rcases List.mem_cons.mp h2 with e2 | e2
        · exact e2.symm
        · have := q0.1 x e
          have := p0.1 y e2
          omega
    subst e
    rw [sorted_ext p0.2 q0.2 fun k => ?_]
    constructor
    · intro hk
      rcases List.mem_cons.mp ((h k).mp (List.mem_cons_of_mem _ hk)) with e | e
      · have := p0.1 k hk; omega
      · exact e
    · intro hk
      rcases List.mem_cons.mp ((h k).mpr (List.mem_cons_of_mem _ hk)) with e | e
      · have := q0.1 k hk; omega
      · exact e
section
variable {X : Cx} {W : Wd} {e : Expr} {fa : Fn} {p p2 q pos : Pos}
def rSetI (K : PySem.W.Frag) (w : World) : List V → Hp → VK → Prop := fun xs H Q => ∃ (l : Addr) (ns : List Int), xs = [V.ref l] ∧ (SqL K H l (ns.map V.int) ∨ SqT K H l (ns.map V.int)) ∧ ns.length + 1 < scanBound ∧
  ∀ (a : Addr) (c : Nat), H a = none → c = (sortU ns).length → Q (.ref a) (upd H a (SetO w a (fun j => decide (j ∈ ns)) c))
theorem setR_card {w : World} {h : Heap} {a : Addr} {ns : List Int} {c : Nat} (R : SetR w h a (fun j => decide (j ∈ ns)) c) : c = (sortU ns).length := by
  obtain ⟨o, es, ep, t, ho, hex, hd, g, nd, hm, hb, hf, hn, hr, hl⟩ := R
  have n2 : (sortU ns).Nodup := (sortU_sorted ns).imp fun h => by omega
  have pm : (es.toList.map keyOf).Perm (sortU ns) := (List.perm_ext_iff_of_nodup nd n2).mpr fun k => by rw [sortU_mem, ← hm k]; exact decide_eq_true_iff
  have := pm.length_eq
  rw [List.length_map, Array.length_toList] at this
  omega
theorem cr_setI (hc : X.calm = true) : CallR X (.type "set") (rSetI X.K X.w) := by
  intro pins s σ H xs us Q I r h
  obtain ⟨l, ns, rfl, hq, hb, k⟩ := h
  rw [Vals.ref1 r]
  have fin : ∀ (h' : Heap) (tk c : Nat), SetR X.w h' s.heap.objs.size (fun j => decide (j ∈ ns)) c → c ≤ ns.length → (∀ b o, s.heap.get? b = some o → h'.get? b = some o) → EP X pins σ Q (.ref s.heap.objs.size) { s with heap := h', toks := tk } := fun h' tk c R hc' hk =>
    ⟨.ref _, upd H s.heap.objs.size (SetO X.w s.heap.objs.size (fun j => decide (j ∈ ns)) c), I.laid (t' := tk) hk (Nat.le_refl _) (setO_new R), rfl, k _ c (I.hok.fresh (Nat.le_refl _)) (setR_card R)⟩
  rcases hq with hq | hq
  · obtain ⟨its, rv, pl, hz⟩ := I.list hq
    exact call_set_ints ns (I.ok.hd hc) pl.isList (by simpa using rv.ints) hb fin
  · obtain ⟨its, rv, pl, hz⟩ := I.tuple hq
    exact call_set_tupI ns (I.ok.hd hc) pl (by simpa using rv.ints) hb fin
def kSrtSet (x : PyData) (g : Gs) : Res PyData := match itemsD x with
  | some ds => match asInts ds with
    | some ns => if ns.length + 1 < scanBound ∧ (sortU ns).length < 64 then .ok (.list ((sortU ns).map .int)) g else .no
    | none => .no
  | none => .no
def kLenSet (x : PyData) (g : Gs) : Res PyData := match itemsD x with
  | some ds => match asInts ds with
    | some ns => if ns.length + 1 < scanBound then .ok (.int (sortU ns).length) g else .no
    | none => .no
  | none => .no
theorem row_ints {dr : Option Addr} {G H : Hp} {v : V} {x : PyData} {ds : List PyData} {ns : List Int} (s : Sub G H) (h : Pk W.K dr G H v x) (e : itemsD x = some ds) (e2 : asInts ds = some ns) : ∃ l, v = .ref l ∧ (SqL W.K H l (ns.map V.int) ∨ SqT W.K H l (ns.map V.int)) := by
  obtain ⟨a, vs, rfl, h1, r⟩ := h.row s e
  have := ints_rp r e2
  subst this
  exact ⟨a, rfl, h1⟩
theorem w_sortset (hb : Bl X.mg) (hc : X.calm = true) (ha : PE X e (tP W fa)) (hK : X.K = W.K := by rfl) (hg : Gl X "sorted" := by rfl) (hg2 : Gl X "set" := by rfl) (he : starEach [e] X.env = (false, eval e X.env) :: starEach [] X.env := by rfl)
    (he2 : starEach [.Call (.Name "set" p2) [e] [] q] X.env = (false, eval (.Call (.Name "set" p2) [e] [] q) X.env) :: starEach [] X.env := by rfl) : PE X (.Call (.Name "sorted" p) [.Call (.Name "set" p2) [e] [] q] [] pos) (tF W (f1 kSrtSet fa)) := by
  refine PE.imp (pe_callB (cr_sortedSet hc) hg hb.sorted (by rfl) (pa_cons (pe_callTy (cr_setI hc) hg2 hb.set (by rfl) (pa_cons ha pa_nil he) (by decide) (by decide) he) pa_nil he2) (by decide) (by decide) he2) ?_
  rintro σ H Q ⟨ρ, g, dr, ad, G, S, h⟩
  refine seqP S poF h fun v H1 x g1 G1 S1 x1 r1 h1 => ?_
  unfold kSrtSet at h1
  cases e1 : itemsD x with
  | none => rw [e1] at h1; exact h1.elim
  | some ds =>
    rw [e1] at h1
    cases e2 : asInts ds with
    | none => simp only [e2] at h1; exact h1.elim
    | some ns =>
      simp only [e2] at h1
      by_cases c : ns.length + 1 < scanBound ∧ (sortU ns).length < 64
      · rw [if_pos c] at h1
        obtain ⟨l, rfl, hl⟩ := row_ints S1.gi.sub r1 e1 e2
        refine ⟨l, ns, rfl, by rw [hK]; exact hl, c.1, fun a n hn hcn => ?_⟩
        refine ⟨a, _, n, rfl, upd_same, by rw [hcn]; exact c.2, fun ms q pw hm hl2 hq => ?_⟩
        have em : ms = sortU ns := sorted_ext pw (sortU_sorted ns) fun k => by rw [hm k, sortU_mem]; exact decide_eq_true_iff
        subst em
        have gi := S1.gi.new (p := a) (o := SetO X.w a (fun j => decide (j ∈ ns)) n) hn
        exact h1 q G1 _ (gi.new hq) ((Ext.new hn).trans (Ext.new hq)) (by
          cases z : H1 q with
          | none => rfl
          | some u => rw [upd_ne (ne_of_none z hn)] at hq; rw [hq] at z; cases z) (none_sub gi.sub hq) (dr_new gi hq) ⟨_, upd_same, by
            generalize sortU ns = l
            clear hm hl2 pw hcn hq gi
            induction l with
            | nil => exact .nil
            | cons x l ih => exact .cons (.int x) ih⟩
      · rw [if_neg c] at h1; exact h1.elim
def rLenSet (w : World) : List V → Hp → VK → Prop := fun xs H Q => ∃ (a : Addr) (S : Int → Bool) (n : Nat), xs = [V.ref a] ∧ H a = some (SetO w a S n) ∧ Q (.int n) H
theorem cr_lenSet : CallR X (.builtin "len") (rLenSet X.w) := by
  intro pins s σ H xs us Q I r h
  obtain ⟨a, S, n, rfl, ha, q⟩ := h
  rw [Vals.ref1 r]
  obtain ⟨o, es, ep, t, ho, hex, hd, _, _, _, hb, hf, hn, _, _⟩ := setO_get I ha
  exact call_len_set ho hex hd hf (by unfold scanBound at hb; omega) ⟨.int n, H, I.tok _, ⟨_, by rw [hn]⟩, q⟩
theorem w_lenset (hb : Bl X.mg) (hc : X.calm = true) (ha : PE X e (tP W fa)) (hK : X.K = W.K := by rfl) (hg : Gl X "len" := by rfl) (hg2 : Gl X "set" := by rfl) (he : starEach [e] X.env = (false, eval e X.env) :: starEach [] X.env := by rfl)
    (he2 : starEach [.Call (.Name "set" p2) [e] [] q] X.env = (false, eval (.Call (.Name "set" p2) [e] [] q) X.env) :: starEach [] X.env := by rfl) : PE X (.Call (.Name "len" p) [.Call (.Name "set" p2) [e] [] q] [] pos) (tE W (f1 kLenSet fa)) := by
  refine PE.imp (pe_callB cr_lenSet hg hb.len (by rfl) (pa_cons (pe_callTy (cr_setI hc) hg2 hb.set (by rfl) (pa_cons ha pa_nil he) (by decide) (by decide) he) pa_nil he2) (by decide) (by decide) he2) ?_
  rintro σ H Q ⟨ρ, g, dr, ad, G, S, h⟩
  refine seqP S poE h fun v H1 x g1 G1 S1 x1 r1 h1 => ?_
  unfold kLenSet at h1
  cases e1 : itemsD x with
  | none => rw [e1] at h1; exact h1.elim
  | some ds =>
    rw [e1] at h1
    cases e2 : asInts ds with
    | none => simp only [e2] at h1; exact h1.elim
    | some ns =>
      simp only [e2] at h1
      by_cases c : ns.length + 1 < scanBound
      · rw [if_pos c] at h1
        obtain ⟨l, rfl, hl⟩ := row_ints S1.gi.sub r1 e1 e2
        refine ⟨l, ns, rfl, by rw [hK]; exact hl, c, fun a n hn hcn => ?_⟩
        refine ⟨a, _, n, rfl, upd_same, ?_⟩
        rw [hcn]
        exact h1 _ G1 _ (S1.gi.new hn) (Ext.new hn) (.int _)
      · rw [if_neg c] at h1; exact h1.elim
end
end PL
end L2
set_option Elab.async false
set_option linter.all false
set_option maxRecDepth 100000
/-! PL 35: products of rows. -/
namespace L2
namespace PL
open PySem PySem.Spec PyProof.Rows
def repD (n : Int) (xs : List PyData) : List PyData := (List.replicate n.toNat xs).flatten
theorem rp_rep {K : PySem.W.Frag} {G : Hp} {vs : List V} {ds : List PyData} (r : RpL K G vs ds) : ∀ n : Nat, RpL K G (List.replicate n vs).flatten (List.replicate n ds).flatten
  | 0 => .nil
  | n + 1 => by
    rw [List.replicate_succ, List.replicate_succ, List.flatten_cons, List.flatten_cons]
    exact r.append (rp_rep r n)
def kMulX (x y : PyData) (g : Gs) : Res PyData := match x, y with
  | .int i, .int j => if cMul i j then .ok (.int (i * j)) g else .no
  | .tuple xs, .int n => if 2 ≤ n ∧ n ≤ 1000 ∧ xs.length ≤ 1000 ∧ xs ≠ [] then .ok (.tuple (repD n xs)) g else if n = 1 ∧ xs ≠ [] then .no else .no
  | .list xs, .int n => if -(2 ^ 63) ≤ n ∧ n < 2 ^ 63 ∧ xs.length * n.toNat ≤ sizeLine then .ok (.list (repD n xs)) g else .no
  | _, _ => .no
section
variable {X : Cx} {W : Wd} {a b : Expr} {fa fb : Fn} {pos : Pos}
def rMulX (K : PySem.W.Frag) : R2 := fun x y H Q => rI CMul (fun i j => .int (i * j)) x y H Q ∨ (rRepT K x y H Q ∨ rRep x y H Q)
theorem op_mulX : OpP W (rMulX W.K) kMulX := by
  intro dr g G H v w x y Q i p q h
  cases x with
  | int m =>
    cases y with
    | int n =>
      simp only [kMulX] at h
      by_cases c : cMul m n = true
      · rw [if_pos c] at h
        exact .inl ⟨m, n, p.int, q.int, cMul_ok m n c, h (.int _) G H i Ext.refl (.int _)⟩
      · rw [if_neg c] at h; exact h.elim
    | none | bool | str | list | tuple | dict => exact h.elim
  | tuple xs =>
    cases y with
    | int n =>
      simp only [kMulX] at h
      by_cases c : 2 ≤ n ∧ n ≤ 1000 ∧ xs.length ≤ 1000 ∧ xs ≠ []
      · rw [if_pos c] at h
        obtain ⟨l, vs, rfl, h1, r⟩ := p.tup
        refine .inr (.inl ⟨l, n, vs, rfl, q.int, SqT.of (i.sub _ _ h1), fun z => c.2.2.2 (by have := r.length; rw [z] at this; exact List.length_eq_zero_iff.mp this.symm), c.1, c.2.1, by rw [r.length]; exact c.2.2.1, fun t ht => ?_⟩)
        exact h _ _ _ (i.add ht trivial) (Ext.add i ht) (.tup upd_same ((rp_rep r _).mono (Ext.add (dr := dr) (o := .tup (List.replicate n.toNat vs).flatten) i ht).g))
      · rw [if_neg c] at h
        split at h <;> exact h.elim
    | none | bool | str | list | tuple | dict => exact h.elim
  | list xs =>
    cases y with
    | int n =>
      simp only [kMulX] at h
      by_cases c : -(2 ^ 63) ≤ n ∧ n < 2 ^ 63 ∧ xs.length * n.toNat ≤ sizeLine
      · rw [if_pos c] at h
        obtain ⟨l, vs, rfl, h1, r⟩ := p.lst i.sub
        refine .inr (.inr ⟨l, n, vs, rfl, q.int, h1, c.1, c.2.1, by rw [r.length]; exact c.2.2, fun t ht => ?_⟩)
        exact h _ _ _ (i.add ht trivial) (Ext.add i ht) (.lst upd_same ((rp_rep r _).mono (Ext.add (dr := dr) (o := .lst (List.replicate n.toNat vs).flatten) i ht).g))
      · rw [if_neg c] at h; exact h.elim
    | none | bool | str | list | tuple | dict => exact h.elim
  | none | bool | str | dict => cases y <;> exact h.elim
theorem w_mulx (ha : PE X a (tP W fa)) (hb : PE X b (tP W fb)) (hK : X.K = W.K := by rfl) : PE X (.BinOp a .Mult b pos) (tE W (fBin kMulX fa fb)) := cp_bin (r := rMulX W.K) (by rw [← hK]; exact op_mul.or (op_repT.or op_rep)) op_mulX ha hb
end
end PL
end L2
set_option Elab.async false
set_option linter.all false
set_option maxRecDepth 100000
/-! PL 36: a law that makes lambdas itself. -/
namespace L2
namespace PL
open PySem PySem.Spec PyProof.Rows
theorem law_start {X : Cx} {K : PySem.W.Frag} {T : List (Addr × Str)} {C : Addr} {s0 : Stmt} {rest : List Stmt} {N : List Str} {m j : Nat} {b : FnS} {vs : List V} {H : Hp} {Q : VK} {E : XK} (hN : N.length = 1 + m) (hj : j < 1 + m) (hsp : spLaw K T C m j b vs H Q E)
    (b1 : PS X s0 (tTop K j)) (b2 : PSs X rest (tS ⟨K, T, C, E⟩ b)) : ∃ t, PSs X (s0 :: rest) t ∧ t { nx := fun _ H' => Q .non H', rt := Q } (start N vs) H := by
  obtain ⟨a, ns, rfl, hl, hs, ht, ⟨g', hb⟩, hq⟩ := hsp
  refine ⟨_, pss_cons b1 b2, ?_⟩
  have e0 : (start N [V.ref a])[0]? = some (some (V.ref a)) := rfl
  refine ⟨_, e0, ⟨63, rfl, .inl ⟨a, _, rfl, hs, fun p hp => ?_⟩⟩⟩
  have cw : cutV (ns.map V.int) none (some 63) = ns.map V.int := by
    unfold cutV
    have e1 : HT.sIx (ns.map V.int).length (ns.map V.int).length (some 63) = min 63 (ns.map V.int).length := HT.sIx_nat _ _ 63
    rw [e1, HT.sIx_none, List.length_map, Nat.min_eq_right hl]
    simp only [Nat.sub_zero, List.drop_zero]
    exact List.take_of_length_le (by simp)
  rw [cw]
  refine ⟨by show 3 ≤ sizeLine; decide, fun d hd2 => ?_⟩
  have i0 : GI ⟨K, T, C, E⟩ none none (fun _ => none) H := ⟨fun _ _ z => (by cases z), fun _ _ z => (by cases z), rfl, ht⟩
  have i1 := i0.add (o := .lst (ns.map V.int)) hp trivial
  have i2 := i1.new (p := d) (o := .lst [.ref p, .int 0, .int 0]) hd2
  have nd : d ≠ p := fun z => by rw [z, upd_same] at hd2; cases hd2
  have g1d : (upd (fun _ => none) p (.lst (ns.map V.int)) : Hp) d = none := by rw [upd_ne nd]
  obtain ⟨G3, eG⟩ : ∃ G3 : Hp, (upd (fun _ => none) p (.lst (ns.map V.int)) : Hp) = G3 := ⟨_, rfl⟩
  obtain ⟨H3, eH⟩ : ∃ H3 : Hp, upd (upd H p (.lst (ns.map V.int))) d (.lst [.ref p, .int 0, .int 0]) = H3 := ⟨_, rfl⟩
  have i3 : GI ⟨K, T, C, E⟩ (some (ns.map PyData.int, 0)) (some d) (upd (fun _ => none) p (.lst (ns.map V.int))) (upd (upd H p (.lst (ns.map V.int))) d (.lst [.ref p, .int 0, .int 0])) :=
    ⟨i2.sub, i2.imm, ⟨d, _, rfl, g1d, upd_same, .lst upd_same (rpL_ints ns)⟩, i2.tabs⟩
  have S1 : SB ⟨K, T, C, E⟩ ((List.replicate (1 + m) Sl.un).set j .dr) (some (ns.map PyData.int, 0)) (some d) (fun _ => 0) ((start N [V.ref a]).set j (some (V.ref d))) G3 H3 G3 H3 := by
    rw [eG, eH] at i3
    have key : ∀ (i : Nat) (sl : Sl), ((List.replicate (1 + m) Sl.un).set j .dr)[i]? = some sl → (sl = .un ∨ (i = j ∧ sl = .dr)) := fun i sl hi => by
      by_cases c : i = j
      · subst c
        rw [List.getElem?_set_self (by simpa using hj)] at hi
        cases hi; exact .inr ⟨rfl, rfl⟩
      · rw [List.getElem?_set_ne (Ne.symm c)] at hi
        exact .inl (List.eq_of_mem_replicate (List.mem_of_getElem? hi))
    refine ⟨⟨i3, ?_, fun i sl hi => ?_, fun i k dd ee h1 h2 _ => ?_⟩, Ext.refl, fun i dd hi => ?_⟩
    · unfold start
      simp only [List.length_set, List.length_append, List.length_map, List.length_replicate, List.length_cons, List.length_nil]
      omega
    · rcases key i sl hi with rfl | ⟨rfl, rfl⟩
      · exact trivial
      · refine ⟨d, rfl, ?_⟩
        rw [List.getElem?_set_self]
        unfold start
        simp only [List.length_append, List.length_map, List.length_replicate, List.length_cons, List.length_nil]
        omega
    · rcases key i _ h1 with z | ⟨_, z⟩ <;> cases z
    · rcases key i _ hi with z | ⟨_, z⟩ <;> cases z
  rw [← eG, ← eH] at S1
  refine ⟨_, _, _, _, _, _, _, S1, ?_⟩
  rw [hb]
  exact fun v G1 H1 _ _ r1 => by rw [r1.inv_bool]; exact hq H1
theorem lawFC_of {P : Program} {w : World} {K : PySem.W.Frag} {T : List (Addr × Str)} {C c : Addr} {mg : Str → Option Value} {base : Heap} {x : Str} {st s0 : Stmt} {rest : List Stmt} {N : List Str} {k m j : Nat} {b : FnS} {y : Str}
    (r : RawC K mg x st [y] c) (S : FnScope N [y] (defScope st)) (hN : N.length = 1 + m) (hj : j < 1 + m) (hd : defBody st = s0 :: rest)
    (body : ∀ (A : Around) (outer : List PySem.Env) (s : Shared) (H : Hp) (f : Addr) (E : XK), A.guards = some [] → Room k (A.deeper (envOfC x (defScope st) s.heap.objs.size f (.ref c))) →
      PS (cxOf (L2.CX P w) P w K mg base N x (defScope st) f (.ref c) A outer s H E) s0 (tTop K j) ∧ PSs (cxOf (L2.CX P w) P w K mg base N x (defScope st) f (.ref c) A outer s H E) rest (tS ⟨K, T, C, E⟩ b)) :
    ∃ f fd, FnG P w K mg base (k + 1) f fd [y] (spLaw K T C m j b) ∧ mg x = some (.ref f) ∧ Binds K fd [y] [] ∧ ∃ oc od osl, K.lookup f = some ⟨oc, od, .func fd, osl⟩ := by
  obtain ⟨f, oc, od, kV, doc, pm, an, ct, osl, lk, hcd, h1, h2, h3⟩ := r
  refine ⟨f, _, fnG_ofC lk hcd S (by rintro vs H Q E ⟨a, ns, rfl, _⟩; rfl) (fun A outer s H vs Q E hg hr hsp => ?_), h1, h3, oc, od, osl, lk⟩
  obtain ⟨b1, b2⟩ := body A outer s H f E hg hr
  rw [hd]
  exact law_start hN hj hsp b1 b2
end PL
end L2
set_option Elab.async false
set_option linter.all false
set_option maxRecDepth 100000
set_option maxHeartbeats 2000000
/-! PL 37: the head by one run, its facts by a Hook; the error class with its own __init__. -/
namespace L2
namespace PL
open PySem PySem.Spec PyProof.Rows He
/-- where the class stands, its __init__ -/
def badC (K : PySem.W.Frag) : Addr := ga K "BadThing"
def badF (K : PySem.W.Frag) : Addr := ma K (badC K) "__init__"
abbrev FnI : Type := Option (Str × Str × Arguments × FuncBody × Scope × Addr × List Str × Addr)
def mkI (name qual : Str) (params : Arguments) (body : List Stmt) (scope : Scope) : FnI := some (name, qual, params, FuncBody.stmts body, scope, mainGlobals, [("__class__" : Str)], builtinsNs)
def badI (K : PySem.W.Frag) : FnI := match K.lookup (badF K) with
  | some ⟨_, _, .func fd, _⟩ => some (fd.name, fd.qualname, fd.params, fd.body, fd.scope, fd.globals, fd.closure.map (·.1), fd.builtins)
  | _ => none
def badCls (K : PySem.W.Frag) : Bool := match K.lookup (badC K) with
  | some ⟨.type "type", _, .cls cd, sl⟩ => (match cd.mro, sl.toList with
    | .ref C' :: bm, [_, _, _, _, some (.builtin n), _] => C' == badC K && (n == "ValueError.__new__" && (!cd.hasDel && (cd.hasDict && PySem.HandSPX.refsVE bm)))
    | _, _ => false)
  | _ => false
def badFn (K : PySem.W.Frag) (file : Str) : Bool := match K.lookup (badF K) with
  | some ⟨_, _, .func fd, _⟩ => (match fd.defaults, fd.kwdefaults, fd.code, fd.closure with
    | .none, .none, .ref cda, [(_, cc)] => PySem.W.codeIn K (.ref cda) "BadThing.__init__" && ((match K.lookup cda with
        | some ⟨_, _, .fields vs, _⟩ => (match (vs[2]? : Option Value) with
          | some (.str fl _) => file == fl
          | _ => false)
        | _ => false) && (match K.lookup cc with
        | some ⟨_, _, .cell (some (.ref C')), _⟩ => C' == badC K
        | _ => false))
    | _, _, _, _ => false)
  | _ => false
def badB (file : Str) (K : PySem.W.Frag) : Bool :=
  badCls K && (badFn K file && (eqO (PySem.W.nsIn K mainGlobals "BadThing") (some (some (.ref (badC K)))) && (eqO (PySem.W.findIn K (.ref (badC K)) "__setattr__") (some (some (.builtin "object.__setattr__"))) &&
  (eqO (PySem.W.findIn K (.ref (badC K)) "__getattribute__") (some (some (.builtin "BaseException.__getattribute__"))) && (eqO (PySem.W.findIn K (.ref (badC K)) "__getattr__") (some none) && (eqO (PySem.W.findIn K (.ref (badC K)) "thing") (some none) &&
  (eqO (PySem.W.findIn K (.ref (badC K)) "__init__") (some (some (.ref (badF K)))) && (decide (PySem.W.typeIn K (.ref (badF K)) = some (.type "function")) && (PySem.W.keepIn K (.ref (badC K)) && (decide (PySem.W.subIn K (.ref (badC K)) (.type "BaseException") = some true) &&
  (decide (PySem.W.typeIn K (.ref (badC K)) = some (.type "type")) && (PySem.W.hasDictIn K (badC K) && (decide (PySem.W.exmOne K (.ref (badC K)) (.ref (badC K)) = some true) && (decide (PySem.W.subIn K (.ref (badC K)) (.type "ValueError") = some true) &&
  (decide (PySem.W.mroIn K (badC K) (.ref (badC K)) = some true) && (eqO (PySem.W.ks_superIn K (badC K) (badC K) "__init__") (some (some (.builtin "ValueError.__init__"))) && eqO (PySem.W.nsIn K cStatics "thirdparty.any") (some none)))))))))))))))))
theorem badCls_ok {K : PySem.W.Frag} (c : badCls K = true) : ∃ nm q N bs bm sn sub ab col dd k0 k1 k2 k3 k5, K.lookup (badC K) = some (excClassObj nm q (badC K) N bs bm true sn sub ab col dd k0 k1 k2 k3 k5 "ValueError.__new__") ∧ PySem.HandSPX.refsVE bm = true := by
  unfold badCls at c
  split at c
  · rename_i dd cd sl ho
    split at c
    · rename_i C' bm k0 k1 k2 k3 n k5 hm hs
      obtain ⟨c1, c⟩ := ba c
      obtain ⟨c2, c⟩ := ba c
      obtain ⟨c3, c⟩ := ba c
      obtain ⟨c4, c5⟩ := ba c
      have d1 := beq_iff_eq.mp c1
      have d2 := beq_iff_eq.mp c2
      have d3 : cd.hasDel = false := by simpa using c3
      clear c1 c2 c3
      obtain ⟨nm, bs, mro, ns, qn, hd, sn, sub, ab, col, del⟩ := cd
      dsimp only at hm d3 c4
      subst hm d3 c4 d2
      have hsl : sl = #[k0, k1, k2, k3, some (.builtin "ValueError.__new__"), k5] := by
        obtain ⟨l⟩ := sl
        simp only at hs
        rw [hs]
      subst hsl
      refine ⟨nm, qn, ns, bs, bm, sn, sub, ab, col, dd, k0, k1, k2, k3, k5, ?_, c5⟩
      rw [ho, d1]
    · cases c
  · cases c
theorem badFn_ok {K : PySem.W.Frag} {file : Str} {name qual : Str} {params : Arguments} {body : List Stmt} {scope : Scope} (c : badFn K file = true) (e : badI K = mkI name qual params body scope) :
    ∃ (oc : Value) (od : Option Addr) (doc pm : Value) (an : Option Addr) (cda cc : Addr) (ct : Value) (osl : Array (Option Value)), K.lookup (badF K) = some ⟨oc, od, .func (PySem.W.ksFn name qual params body scope .none .none doc pm an (.ref cda) ct cc), osl⟩ ∧ PySem.W.codeIn K (.ref cda) "BadThing.__init__" = true ∧
    (∃ (ccl : Value) (cdd : Option Addr) (vs : Array Value) (ccs : Array (Option Value)) (fl : Str) (tf : Tok), K.lookup cda = some ⟨ccl, cdd, .fields vs, ccs⟩ ∧ vs[2]? = some (.str fl tf) ∧ (file == fl) = true) ∧
    ∃ (cl : Value) (cld : Option Addr) (csl : Array (Option Value)), K.lookup cc = some ⟨cl, cld, .cell (some (.ref (badC K))), csl⟩ := by
  unfold badFn at c
  unfold badI at e
  split at c
  · rename_i oc od fd osl ho
    rw [ho] at e
    obtain ⟨n1, n2, n3, n4, n5, n6, n7, n8, n9, n10, n11, n12, n13, n14, n15⟩ := fd
    have e2 : (some (n1, n2, n3, n4, n5, n6, n7.map (·.1), n15) : FnI) = some (name, qual, params, FuncBody.stmts body, scope, mainGlobals, [("__class__" : Str)], builtinsNs) := e
    simp only [Option.some.injEq, Prod.mk.injEq] at e2
    obtain ⟨h1, h2, h3, h4, h5, h6, h7, h8⟩ := e2
    subst h1 h2 h3 h4 h5 h6 h8
    dsimp only at c
    split at c
    · rename_i cda y cc
      obtain ⟨c1, c⟩ := ba c
      obtain ⟨c2, c3⟩ := ba c
      have hy : y = ("__class__" : Str) := by
        have z : [y] = (["__class__"] : List Str) := h7
        exact (List.cons.inj z).1
      subst hy
      refine ⟨oc, od, n10, n11, n12, cda, cc, n14, osl, ho, c1, ?_, ?_⟩
      · split at c2
        · rename_i ccl cdd vs ccs hc
          split at c2
          · rename_i fl tf hv
            exact ⟨ccl, cdd, vs, ccs, fl, tf, hc, hv, c2⟩
          · cases c2
        · cases c2
      · split at c3
        · rename_i cl cld C' csl hc
          have := beq_iff_eq.mp c3
          exact ⟨cl, cld, csl, by rw [hc, this]⟩
        · cases c3
    · cases c
  · cases c
/-- the class's facts -/
theorem bad_mk {prog : Program} {K : PySem.W.Frag} {h : Heap} {mg : Str → Option Value} {msg : Str} {i5 : Nat} {p1 p2 r1 r2 r3 r4 r5 r6 q1 q2 q3 q4 : Pos} (X : K.In h) (G : h.Ns mainGlobals mg) (c : badB prog.main.file K = true)
    (e : badI K = mkI "__init__" "BadThing.__init__" (BadX.iA p1 p2) (BadX.iB msg i5 r1 r2 r3 r4 r5 r6 q1 q2 q3 q4) BadX.iS) (hp : (r3.endLine == r5.line) = true) (hs : mg "super" = none)
    (ht : (prog.main.scope.names.lookup ("super" : Str)).isSome = false) : BadX.BadTxt prog K mg (badC K) (badF K) := by
  unfold badB at c
  obtain ⟨c1, c⟩ := ba c; obtain ⟨c2, c⟩ := ba c; obtain ⟨c3, c⟩ := ba c; obtain ⟨c4, c⟩ := ba c; obtain ⟨c5, c⟩ := ba c; obtain ⟨c6, c⟩ := ba c; obtain ⟨c7, c⟩ := ba c; obtain ⟨c8, c⟩ := ba c; obtain ⟨c9, c⟩ := ba c
  obtain ⟨c10, c⟩ := ba c; obtain ⟨c11, c⟩ := ba c; obtain ⟨c12, c⟩ := ba c; obtain ⟨c13, c⟩ := ba c; obtain ⟨c14, c⟩ := ba c; obtain ⟨c15, c⟩ := ba c; obtain ⟨c16, c⟩ := ba c; obtain ⟨c17, c18⟩ := ba c
  obtain ⟨oc, od, doc, pm, an, cda, cc, ct, osl, lk, ci, hf, hc⟩ := badFn_ok c2 e
  exact { gC := PySem.W.mg_of X G (eqO_ok c3), cls := badCls_ok c1, sa := eqO_ok c4, ga := eqO_ok c5, gg := eqO_ok c6, noN := eqO_ok c7, iC := eqO_ok c8, tC := of_decide_eq_true c9, kC := c10, exC := of_decide_eq_true c11, tyC := of_decide_eq_true c12, hdC := c13,
          te := of_decide_eq_true c14, vE := of_decide_eq_true c15, sS := of_decide_eq_true c16, sup := eqO_ok c17, opq := eqO_ok c18, noS := hs, top := ht,
          fn := ⟨oc, od, doc, pm, an, cda, cc, ct, osl, msg, i5, p1, p2, r1, r2, r3, r4, r5, r6, q1, q2, q3, q4, hp, lk, ci, hf, hc⟩ }

/-! ### the Hook: facts, defs, the __init__, tables -/
def asH (g : Addr → Option Obj) (n : Nat) : List Addr := cStatics :: asD g n
abbrev AlH : Type := AlD × FnI × Bool
def obsH (n : Nat) (fa : List Fa) (fn : List DefD) (tf : List Defn) (ex : PySem.W.Frag → Bool) (g : Addr → Option Obj) : AlH :=
  (obsD fa fn (frT g (asH g n)), badI (frT g (asH g n)), ex (frT g (asH g n)) && tabsB g tf (frT g (asH g n)))
structure SaysH (fa : List Fa) (fn : List DefD) (tf : List Defn) (ex : PySem.W.Frag → Bool) (v : FnI) (h : Heap) (K : PySem.W.Frag) : Prop where
  d : SaysD fa fn K
  i : badI K = v
  ex : ex K = true
  tabs : ∀ p ∈ tf, PySem.W.codeHdIn K (cT K p).1 (cT K p).2 = true ∧ K.lookup (cT K p).2 = none ∧ h.get? (cT K p).2 = some { cls := .none, data := .fields #[] }
theorem saysH_of {n : Nat} {fa : List Fa} {fn : List DefD} {tf : List Defn} {ex : PySem.W.Frag → Bool} {v : FnI} {h : Heap} (e : obsH n fa fn tf ex h.get? = (valD fn, v, true)) : SaysH fa fn tf ex v h (frT h.get? (asH h.get? n)) := by
  obtain ⟨K, eK⟩ : ∃ K, frT h.get? (asH h.get? n) = K := ⟨_, rfl⟩
  have e1 : obsD fa fn (frT h.get? (asH h.get? n)) = valD fn := congrArg (fun z : AlH => z.1) e
  have e2 : badI (frT h.get? (asH h.get? n)) = v := congrArg (fun z : AlH => z.2.1) e
  have e3 : (ex (frT h.get? (asH h.get? n)) && tabsB h.get? tf (frT h.get? (asH h.get? n))) = true := congrArg (fun z : AlH => z.2.2) e
  obtain ⟨h1, h2⟩ := ba e3
  refine ⟨e1, e2, h1, fun p hp => ?_⟩
  obtain ⟨h3, h4⟩ := ba (List.all_eq_true.mp h2 p hp)
  refine ⟨h3, ?_⟩
  split at h4
  · rename_i o ho
    exact ⟨frT_none ho h4, by rw [ho, emptyTab_eq h4]⟩
  · cases h4
def hookH (n : Nat) (fa : List Fa) (fn : List DefD) (tf : List Defn) (ex : PySem.W.Frag → Bool) (v : FnI) : PySem.W.Hook where
  α := AlH
  obs := fun s => obsH n fa fn tf ex s.heap.get?
  val := fun _ => (valD fn, v, true)
  says := fun _ h => ∃ K : PySem.W.Frag, K.In h ∧ SaysH fa fn tf ex v h K
  of := fun _ _ e => ⟨_, frT_in, saysH_of e⟩
  keeps := fun _ _ _ ⟨K, hK, c⟩ k => ⟨K, PySem.W.Frag.In.keeps hK k, ⟨c.d, c.i, c.ex, fun p hp => ⟨(c.tabs p hp).1, (c.tabs p hp).2.1, k _ _ (c.tabs p hp).2.2⟩⟩⟩
theorem obsH_eq {n : Nat} {fa : List Fa} {fn : List DefD} {tf : List Defn} {ex : PySem.W.Frag → Bool} {v : FnI} {g : Addr → Option Obj} {s : Shared} (h : ∀ a, g a = s.heap.get? a) : obsH n fa fn tf ex g = (hookH n fa fn tf ex v).obs s := by
  have e : g = s.heap.get? := funext h
  rw [e] <;> rfl

/-- .. and the tables are different ones -/
def exB (file : Str) (tf : List Defn) (K : PySem.W.Frag) : Bool := badB file K && decide ((tf.map fun p => (cT K p).2).Nodup)

/-! ### the end by such a Hook -/
theorem walkGE {l : PySem.W.OpenLaw} {n k : Nat} {q : Program} {loose : List Str} {XP : (Str → Option Value) → Heap → Prop} {YP : World → Heap → Prop} {d : DefRec} {x : Str}
    (hn : l.most = some n) (hn2 : n ≤ sizeLine) (hdf : d.params.defaults = []) (hr : Room k callerA)
    (F : ∀ (w : World) (mg : Str → Option Value) (fa : Addr) (h : Heap), YP w h → h.Ns mainGlobals mg → mg d.name = some (.ref fa) → ∃ K : PySem.W.Frag, K.In h ∧ LawAtG l w K k n x mg fa h) :
    PySem.W.WalkO q loose XP YP l.row.toRowW d [] (fun f vs => PySem.call f vs) :=
  Att.attach_callB hn hdf fun w s₀ s₁ mg mb fa o pm cd doc a vs ns G Y ho hd hcd hmg hobj hints hlen hbits hg =>
    let ⟨K, KX, fd, cs, sp, hT, nT, C, hb, hsp, hF⟩ := F w mg fa _ Y G.T.g hmg
    lawG KX G.T.g G.T.b G.T.builtins G.T.nolimit hg hT nT C G.T.bmain hobj hints (Nat.le_trans hlen hn2) hr hF hb fun H hH hO hS => hsp H a ns hlen hbits hH hO hS

/-! ### a def's facts -/
def dd (x : Str) (st : Stmt) : DefD := ⟨(x, none), x, x, defArgs st, defBody st, defScope st, [], []⟩
theorem funD_raw {K : PySem.W.Frag} {h : Heap} {mg : Str → Option Value} {x : Str} {st : Stmt} {ps : List Str} {fd : FuncData} (X : K.In h) (G : h.Ns mainGlobals mg) (g : (Fa.glo x).ok K = true) (F : FunD K x x (defArgs st) (defBody st) (defScope st) [] [] (ga K x) fd)
    (hb : ∀ (kV doc pm : Value) (an : Option Addr) (cdv ct : Value) (us : List Value), us.length = ps.length → bindArgs (PySem.W.fnOf x x (defArgs st) (defBody st) (defScope st) .none kV doc pm an cdv ct) ⟨us, []⟩ = pure (ps.zip us)) : Raw K mg x st ps := by
  obtain ⟨oc, od, dV, kV, doc, pm, an, cdv, ct, osl, rfl, lk, ci, hd, _⟩ := F.ex
  obtain rfl : dV = .none := by
    rcases hd with ⟨_, z⟩ | ⟨z, _⟩
    · exact z
    · exact absurd rfl z
  exact raw_mk X G (eqO_ok g) lk ci F.kp hb
theorem funD_rawC {K : PySem.W.Frag} {h : Heap} {mg : Str → Option Value} {x : Str} {st : Stmt} {ps : List Str} {fd : FuncData} (X : K.In h) (G : h.Ns mainGlobals mg) (g : (Fa.glo x).ok K = true) (F : FunD K x x (defArgs st) (defBody st) (defScope st) [] [] (ga K x) fd)
    (hb : ∀ (kV doc pm : Value) (an : Option Addr) (cdv ct : Value) (us : List Value), us.length = ps.length → bindArgs (PySem.W.fnOf x x (defArgs st) (defBody st) (defScope st) .none kV doc pm an cdv ct) ⟨us, []⟩ = pure (ps.zip us)) : RawC K mg x st ps (cT K (x, none)).1 := by
  obtain ⟨oc, od, dV, kV, doc, pm, an, cdv, ct, osl, rfl, lk, ci, hd, _⟩ := F.ex
  obtain rfl : dV = .none := by
    rcases hd with ⟨_, z⟩ | ⟨z, _⟩
    · exact z
    · exact absurd rfl z
  obtain ⟨c, rfl⟩ := codeIn_ref ci
  obtain rfl : codeOf K (x, none) = c := codeOf_eq lk rfl
  exact rawC_mk X G (eqO_ok g) lk ci F.kp hb
theorem funD_ref {K : PySem.W.Frag} {h : Heap} {mg : Str → Option Value} {st : Stmt} {fd : FuncData} (X : K.In h) (G : h.Ns mainGlobals mg) (g : (Fa.glo "_law_refuses").ok K = true) (F : FunD K "_law_refuses" "_law_refuses" (defArgs st) (defBody st) (defScope st) [] [] (ga K "_law_refuses") fd)
    (sc : FnScope refN ["work", "due"] (defScope st)) (g1 : (defScope st).names.lookup ("repr" : Str) = some NameKind.globalImplicit) (g2 : (defScope st).names.lookup ("BadThing" : Str) = some NameKind.globalImplicit) (lo : (defScope st).names.lookup ("e" : Str) = some NameKind.local) (nr : mg "repr" = none)
    (hb : ∀ (kV doc pm : Value) (an : Option Addr) (cdv ct : Value) (us : List Value), us.length = (["work", "due"] : List Str).length → bindArgs (PySem.W.fnOf "_law_refuses" "_law_refuses" (defArgs st) (defBody st) (defScope st) .none kV doc pm an cdv ct) ⟨us, []⟩ = pure ((["work", "due"] : List Str).zip us)) :
    RefTxt K mg (ga K "_law_refuses") (defBody st) (defScope st) := by
  obtain ⟨oc, od, dV, kV, doc, pm, an, cdv, ct, osl, rfl, lk, ci, hd, _⟩ := F.ex
  obtain rfl : dV = .none := by
    rcases hd with ⟨_, z⟩ | ⟨z, _⟩
    · exact z
    · exact absurd rfl z
  exact ⟨PySem.W.mg_of X G (eqO_ok g), F.kp, ⟨oc, od, _, kV, doc, pm, an, cdv, ct, osl, lk, ci, (fun_mk (st := st) lk ci F.kp).binds hb⟩, sc, g1, g2, lo, nr⟩
theorem tab_inj {K : PySem.W.Frag} {p p' : Defn} : ∀ {tf : List Defn}, (tf.map fun p => (cT K p).2).Nodup → p' ∈ tf → p ∈ tf → (cT K p').2 = (cT K p).2 → p' = p
  | a :: r, nd, h', h, e => by
    rw [List.map_cons, List.nodup_cons] at nd
    rcases List.mem_cons.mp h with z | h2
    · rcases List.mem_cons.mp h' with z2 | h3
      · rw [z, z2]
      · exact absurd (List.mem_map.mpr ⟨p', h3, by rw [e, z]⟩) nd.1
    · rcases List.mem_cons.mp h' with z2 | h3
      · exact absurd (List.mem_map.mpr ⟨p, h2, by rw [← e, z2]⟩) nd.1
      · exact tab_inj nd.2 h3 h2 e
theorem lamF_of {K : PySem.W.Frag} {mg : Str → Option Value} {base : Heap} {tf : List Defn} (nd : decide ((tf.map fun p => (cT K p).2).Nodup) = true) (tb : ∀ p ∈ tf, LamX.TabB base mg (cT K p).1 (cT K p).2) (i : Nat) {p : Defn} (hi : tf[i]? = some p) :
    LamF mg base (tf.map fun p => ((cT K p).2, p.1 ++ ".<locals>.<lambda>")) (cT K p).1 (cT K p).2 (p.1 ++ ".<locals>.<lambda>") := by
  have hm := List.mem_of_getElem? hi
  refine ⟨tb p hm, List.mem_map.mpr ⟨p, hm, rfl⟩, fun q hq e => ?_⟩
  obtain ⟨p', hp', rfl⟩ := List.mem_map.mp hq
  rw [tab_inj (of_decide_eq_true nd) hp' hm e]
end PL
end L2
set_option Elab.async false
set_option linter.all false
set_option maxRecDepth 100000
/-! PU: {**a, **b} -/
namespace L2
namespace PL
open PySem PySem.Spec PyProof.Rows
section
variable {prog : Program} {w : World} {K : Type} [DecidableEq K] {knd : KeyKind prog w K} {A : Around} {E : Value → Shared → Prop} {s : Shared}
theorem put_pairs {d : Addr} {kvs : List (K × Value)} {k : K} {key v : Value} {Q : Unit → Shared → Prop} (hkey : knd.is k key = true) (hm : s.heap.DictOf knd d kvs)
    (hQ : ∀ h', h'.DictOf knd d (stored kvs k v) → Heap.SameBut d s.heap h' → Q () { s with heap := h' }) (hsz : kvs.length ≤ sizeLine) :
    wpAny (model prog w) A (dictPut d (knd.hash k) key v) Q E s := by
  obtain ⟨o, es, ep, ho, hc, hd, hk, hp, hn⟩ := hm
  have hes : es.size ≤ sizeLine := by
    have e1 := hp.length
    have e2 : es.toList.length = es.size := by simp
    omega
  unfold dictPut
  refine wpAny_bind (wpAny_dictFind_of hkey ho hd hk ?_)
  have hidx : (es.findIdx? fun e => knd.is k e.key) = kvs.findIdx? fun kv => decide (kv.1 = k) := by
    rw [← hp.findIdx k]; obtain ⟨l⟩ := es; simp
  cases hi : es.findIdx? fun e => knd.is k e.key with
  | some i =>
    refine wpAny_updateDict ho hd (hQ _ ⟨_, _, ep, Heap.get?_update_self _ ho (Obj.isFreed_of_dict (Obj.data_mapDict hd _)), hc.mapDict _, Obj.data_mapDict hd _, hk.modify _ _, ?_, ?_⟩ (Heap.SameBut.update ..))
    · rw [stored, if_pos (any_of_findIdx_some (hidx ▸ hi))]
      have hl : (es.toList.findIdx? fun e => knd.is k e.key) = some i := by rw [← hi]; obtain ⟨l⟩ := es; simp
      have hh := hp.modify hn hl v
      obtain ⟨l⟩ := es
      simpa using hh
    · rw [stored, if_pos (any_of_findIdx_some (hidx ▸ hi)), keys_map_store]
      exact hn
  | none =>
    have hnot : k ∉ kvs.map (·.1) := not_mem_of_findIdx_none (hidx ▸ hi)
    have hany : ¬ (kvs.any fun kv => decide (kv.1 = k)) = true := by
      rw [List.any_eq_true]
      rintro ⟨kv, hkv, he⟩
      exact hnot (List.mem_map.mpr ⟨kv, hkv, of_decide_eq_true he⟩)
    refine wpAny_updateDictKeys (hz := hes) ho hd (hQ _ ⟨_, _, ep + 1, Heap.get?_update_self _ ho (Obj.isFreed_of_dict (Obj.data_mapDictKeys hd _)), hc.mapDictKeys _, Obj.data_mapDictKeys hd _, hk.push hkey _, ?_, ?_⟩ (Heap.SameBut.update ..))
    · rw [stored, if_neg hany]
      have hh := hp.append hkey (knd.hash k) v
      obtain ⟨l⟩ := es
      simpa using hh
    · rw [stored, if_neg hany, List.map_append, List.nodup_append]
      refine ⟨hn, by simp, ?_⟩
      intro a ha b hb
      simp only [List.map_cons, List.map_nil, List.mem_singleton] at hb
      subst hb
      exact fun e => hnot (e ▸ ha)
theorem merge_map {d o : Addr} {kvs more : List (K × Value)} {Q : Unit → Shared → Prop} (hdo : d ≠ o) (hoS : (o == sysModules) = false) (hd : s.heap.DictOf knd d kvs) (ho : s.heap.DictOf knd o more)
    (hr : ∀ k b, knd.is k (.ref b) = false)
    (hQ : ∀ h', h'.DictOf knd d (merged kvs more) → h'.DictOf knd o more → Heap.SameBut d s.heap h' → Q () { s with heap := h' }) (hsz : kvs.length + more.length ≤ sizeLine) :
    wpAny (model prog w) A (mergeMapping d (.ref o) false) Q E s := by
  obtain ⟨od, esd, epd, hod, hcd, hdd, hkd, hpd, hnd⟩ := id hd
  obtain ⟨oo, eso, epo, hoo, hco, hdo', hko, hpo, hno⟩ := id ho
  unfold mergeMapping
  refine wpAny_bind (wpAny_isInstance ho.typeIs isSubtype_dict_dict ?_)
  simp only [if_true]
  refine wpAny_bind (wpAny_specialOf ho.typeIs F.slot_dict_iter.lookup ?_)
  refine wpAny_bind (wpAny_pure ?_)
  simp only [beq_self_eq_true]
  rw [if_neg (by rw [hoS]; exact Bool.false_ne_true)]
  have hlen : more.length = eso.size := by rw [← hpo.length]; simp
  have loop : ∀ f, (f = fun (i : Nat) (_ : PUnit) => (do
        let l ← dictEntries o
        match l[i]? with
          | some e => do
            holding [e.key, e.val] (dictPut d e.hash e.key e.val)
            let ep ← dictEpoch o
            if (ep != epo) = true then do
                unsupported "dict.changed-during-merge"
                pure (ForInStep.yield PUnit.unit)
              else pure (ForInStep.yield PUnit.unit)
          | _ => do
            unsupported "dict.changed-during-merge"
            pure (ForInStep.yield PUnit.unit) : Sem (ForInStep PUnit))) → wpAny (model prog w) A (do
          forIn (List.range eso.size) PUnit.unit f
          pure ()) Q E s := by
    intro f hf
    subst hf
    refine wpAny_bind ?_
    rw [List.range_eq_range']
    refine wpAny_forIn_list _ (fun rest _ s' => ∃ h' i, s' = { s with heap := h' } ∧ rest = List.range' i (eso.size - i) ∧ i ≤ eso.size ∧ h'.DictOf knd d (merged kvs (more.take i)) ∧ h'.get? o = some oo ∧ Heap.SameBut d s.heap h')
      _ ?_ ?_ _ _ ⟨s.heap, 0, rfl, by simp, Nat.zero_le _, by simpa [merged] using hd, hoo, Heap.SameBut.refl _ _⟩
    · rintro x rest b s' ⟨h', i, rfl, hr', hi, hd', hoo', hs'⟩
      have hlt : i < eso.size := by
        rcases Nat.lt_or_ge i eso.size with h | h
        · exact h
        · rw [Nat.sub_eq_zero_of_le h] at hr'; simp at hr'
      obtain ⟨rfl, hrest⟩ : x = i ∧ rest = List.range' (i + 1) (eso.size - (i + 1)) := by
        have e : eso.size - i = (eso.size - (i + 1)) + 1 := by omega
        rw [e, List.range'_succ] at hr'
        injection hr' with h1 h2
        exact ⟨h1, h2⟩
      refine wpAny_bind (wpAny_dictEntries hoo' hdo' ?_)
      rw [Array.getElem?_eq_getElem hlt]
      obtain ⟨kv, hkv⟩ : ∃ kv, more[x]? = some kv := ⟨more[x]'(by rw [hlen]; exact hlt), List.getElem?_eq_getElem _⟩
      obtain ⟨k, v⟩ := kv
      obtain ⟨hkey, hval⟩ := hpo.get? (e := eso[x]) (by simp [hlt]) hkv
      obtain ⟨k', hkey', hhash⟩ := hko eso[x] (Array.getElem_mem hlt)
      obtain rfl : k' = k := knd.inj _ _ _ hkey' hkey
      show wpAny _ _ (holding [eso[x].key, eso[x].val] (dictPut d eso[x].hash eso[x].key eso[x].val) >>= _) _ _ _
      rw [hhash, hval]
      have hmx : (merged kvs (more.take x)).length ≤ sizeLine := by
        have e1 := merged_length_le kvs (more.take x)
        have e2 : (more.take x).length ≤ more.length := by rw [List.length_take]; omega
        omega
      refine wpAny_bind (wpAny_holding (put_pairs (hsz := hmx) hkey hd' fun h'' hd'' hs'' => ?_))
      have hoo'' : h''.get? o = some oo := (hs''.2 o (Ne.symm hdo)).trans hoo'
      refine wpAny_bind (wpAny_dictEpoch hoo'' hdo' ?_)
      rw [if_neg (by simp)]
      exact wpAny_pure ⟨h'', x + 1, rfl, hrest, hlt, by rw [merged_take_succ kvs more x (k', v) hkv]; exact hd'', hoo'', hs'.trans hs''⟩
    · rintro b s' ⟨h', i, rfl, hr', hi, hd', hoo', hs'⟩
      have hin : i = eso.size := by
        rcases Nat.lt_or_ge i eso.size with h | h
        · have e : eso.size - i = (eso.size - (i + 1)) + 1 := by omega
          rw [e, List.range'_succ] at hr'; exact nomatch hr'
        · exact Nat.le_antisymm hi h
      refine wpAny_pure (hQ h' ?_ ⟨oo, eso, epo, hoo', hco, hdo', hko, hpo, hno⟩ hs')
      rw [hin, ← hlen, List.take_length] at hd'
      exact hd'
  have tail : wpAny (model prog w) A (do
        let l ← dictEntries o
        let epoch ← dictEpoch o
        forIn (List.range l.size) PUnit.unit fun (i : Nat) (_ : PUnit) => (do
          let l ← dictEntries o
          match l[i]? with
            | some e => do
              holding [e.key, e.val] (dictPut d e.hash e.key e.val)
              let ep ← dictEpoch o
              if (ep != epoch) = true then do
                  unsupported "dict.changed-during-merge"
                  pure (ForInStep.yield PUnit.unit)
                else pure (ForInStep.yield PUnit.unit)
            | _ => do
              unsupported "dict.changed-during-merge"
              pure (ForInStep.yield PUnit.unit) : Sem (ForInStep PUnit))
        pure ()) Q E s :=
    wpAny_bind (wpAny_dictEntries hoo hdo' (wpAny_bind (wpAny_dictEpoch hoo hdo' (loop _ rfl))))
  simp only [Bool.false_eq_true, if_false]
  refine wpAny_bind (wpAny_dictEntries hod hdd ?_)
  split
  · refine wpAny_bind (wpAny_dictEntries hoo hdo' ?_)
    refine wpAny_bind ?_
    rw [← Array.forIn_toList]
    refine wpAny_forIn_list _ (fun rest _ s' => s' = s ∧ ∀ e ∈ rest, e ∈ eso.toList) _ ?_ ?_ _ _ ⟨rfl, fun e h => h⟩
    · rintro e rest b s' ⟨rfl, hm⟩
      obtain ⟨k, hk, _⟩ := hko e (by simpa using hm e List.mem_cons_self)
      split
      · rename_i q
        rw [q, hr] at hk
        cases hk
      · exact wpAny_pure ⟨rfl, fun e' h' => hm e' (List.mem_cons_of_mem _ h')⟩
    · rintro b s' ⟨rfl, _⟩
      exact tail
  · exact tail
theorem disp2 {va vb : Sem Value} {Q : Value → Shared → Prop}
    (h : wpAny (model prog w) A va (fun u s1 => wpAny (model prog w) A (mergeMapping s.heap.objs.size u false) (fun _ s2 => wpAny (model prog w) A vb (fun v s3 => wpAny (model prog w) A (mergeMapping s.heap.objs.size v false) (fun _ s4 => Q (.ref s.heap.objs.size) s4) (fun _ _ => False) s3) E s2) (fun _ _ => False) s1) E
      { s with heap := s.heap.push { cls := .type "dict", data := .dict #[] } }) :
    wpAny (model prog w) A (dictDisplay [(none, va), (none, vb)]) Q E s := by
  unfold dictDisplay
  simp only [List.forIn_cons, List.forIn_nil, List.isEmpty_nil, if_true, pure_bind, bind_assoc]
  refine wpAny_bind (wpAny_alloc ?_)
  refine wpAny_bind (wpAny_holding (wpAny_mono h (fun u s1 h1 => ?_) fun _ _ e => e))
  refine wpAny_bind (wpAny_onRaise (wpAny_tryCatch (wpAny_onRaise (wpAny_holding (wpAny_mono h1 (fun _ s2 h2 => ?_) fun _ _ e => e.elim)))))
  refine wpAny_bind (wpAny_holding (wpAny_mono h2 (fun v s3 h3 => ?_) fun _ _ e => e))
  refine wpAny_bind (wpAny_onRaise (wpAny_tryCatch (wpAny_onRaise (wpAny_holding (wpAny_mono h3 (fun _ s4 h4 => ?_) fun _ _ e => e.elim)))))
  exact wpAny_pure h4
end
/-- {**a, **b} of dicts with keys ints and texts -/
def tMrg (ta tb : TE) : TE := fun σ H Q => ∀ p, H p = none → ta σ (upd H p (.dK [])) fun x H1 => ∃ (a : Addr) (ls : List (Key × V)), x = .ref a ∧ a ≠ p ∧ H1 p = some (.dK []) ∧ Rd H1 a (.dK ls) ∧
  tb σ (upd H1 p (.dK (mergeK [] ls))) fun y H2 => ∃ (b : Addr) (ms : List (Key × V)), y = .ref b ∧ b ≠ p ∧ H2 p = some (.dK (mergeK [] ls)) ∧ Rd H2 b (.dK ms) ∧ (mergeK [] ls).length + ms.length ≤ sizeLine ∧ Q (.ref p) (upd H2 p (.dK (mergeK (mergeK [] ls) ms)))
theorem mix_ref {P : Program} {w : World} (k : Key) (b : Addr) : (mixKind P w).is k (.ref b) = false := by
  cases k <;> rfl
theorem merge_step {X : Cx} {pins : List (Addr × Obj)} {σ : St} {H : Hp} {s : Shared} {p a : Addr} {ks ls : List (Key × V)} {Q : Unit → Shared → Prop} {E : Value → Shared → Prop} (I : Inv X pins σ H s) (hp : H p = some (.dK ks)) (ha : Rd H a (.dK ls)) (hn : a ≠ p) (hz : ks.length + ls.length ≤ sizeLine)
    (q : ∀ s', Inv X pins σ (upd H p (.dK (mergeK ks ls))) s' → Q () s') : wpAny (model X.prog X.w) X.A (mergeMapping p (.ref a) false) Q E s := by
  obtain ⟨z1, lo1, vs1, r1, d1⟩ := dk_rd I.hok (.inl hp)
  obtain ⟨z2, lo2, vs2, r2, d2⟩ := dk_rd I.hok ha
  refine merge_map (knd := mixKind X.prog X.w) (Ne.symm hn) lo2 d1 d2 mix_ref (fun h' hd' _ hs => ?_) (by rw [← r1.length, ← r2.length]; exact hz)
  have he : ∃ u, h'.get? p = some u := by
    obtain ⟨o, es, ep, ho, _⟩ := hd'
    exact ⟨o, ho⟩
  refine q _ (d_write (t' := s.toks) I (by rw [hp]; exact True.intro) hs he (dk_new ?_ lo1 (KV.merge r2 r1) hd'))
  exact Nat.le_trans (length_mergeK ls ks) hz
theorem pe_mrg {X : Cx} {a b : Expr} {ta tb : TE} {pos : Pos} (ha : PE X a ta) (hb : PE X b tb) : PE X (.Dict [none, none] [a, b] pos) (tMrg ta tb) := by
  refine ⟨fun pins s σ H Q I q => ?_⟩
  have hn := I.hok.fresh (Nat.le_refl s.heap.objs.size)
  have I1 := I.laid (a := s.heap.objs.size) (o := .dK []) (h' := s.heap.push { cls := .type "dict", data := .dict #[] }) (t' := s.toks) (fun _ _ q => Heap.get?_push_of_some _ q) (Nat.le_refl _) (dk_empty s.heap I.big)
  rw [arm_eval_Dict]
  refine wpAny_bind (wpAny_standAt ?_)
  show wpAny _ _ (dictDisplay [(none, (do let x ← eval a X.env; standAt pos; pure x)), (none, (do let x ← eval b X.env; standAt pos; pure x))]) _ _ _
  refine disp2 ?_
  refine wpAny_bind (thn (ha.run pins _ σ _ _ I1 (q _ hn)) fun u s1 ⟨x, H1, J1, rx, c, ls, ex, n1, e1, e2, q1⟩ => ?_)
  refine wpAny_bind (wpAny_standAt (wpAny_pure ?_))
  subst ex
  obtain rfl : u = Value.ref c := rx
  have z0 : ([] : List (Key × V)).length + ls.length ≤ sizeLine := by
    have := (dk_rd J1.hok e2).1
    simpa using this
  refine merge_step J1 e1 e2 n1 z0 fun s2 J2 => ?_
  refine wpAny_bind (thn (hb.run pins _ σ _ _ J2 q1) fun u s3 ⟨y, H2, J3, ry, d, ms, ey, n2, f1, f2, z, q2⟩ => ?_)
  refine wpAny_bind (wpAny_standAt (wpAny_pure ?_))
  subst ey
  obtain rfl : u = Value.ref d := ry
  exact merge_step J3 f1 f2 n2 z fun s4 J4 => ⟨.ref s.heap.objs.size, _, J4, rfl, q2⟩
section
variable {X : Cx} {W : Wd} {pos : Pos} {a b : Expr} {fa fb : Fn}
def fMrg (fa fb : Fn) : Fn := fun ρ g => (fa ρ g).bind fun x g1 => match x with
  | .dict ks => if ks.all (fun kv => keyFlat kv.1) then (fb ρ g1).bind fun y g2 => match y with
    | .dict ms => if ms.all (fun kv => keyFlat kv.1) && decide ((mergeD [] ks).length + ms.length ≤ sizeLine) then .ok (.dict (mergeD (mergeD [] ks) ms)) g2 else .no
    | _ => .no
  else .no
  | _ => .no
/-- a heap that differs at a new place alone -/
theorem ext_at {dr : Option Addr} {G H G1 H1 : Hp} {p : Addr} {o o' : HO} (hp : H p = none) (x : Ext dr G (upd H p o) G1 H1) : Ext dr G H G1 (upd H1 p o') :=
  ⟨fun a v q => x.g a v q, fun a v q d n => by
    have na : a ≠ p := ne_of_none q hp
    rw [upd_ne na]; exact x.h a v (by rw [upd_ne na]; exact q) d n, fun a v q d m n => by
    have na : a ≠ p := ne_of_none q hp
    exact x.n a v (by rw [upd_ne na]; exact q) d m n, fun a v q => by
    have na : a ≠ p := ne_of_none q hp
    rw [upd_ne na]; exact x.d a v (by rw [upd_ne na]; exact q)⟩
theorem gi_at {dr : Option Addr} {g : Gs} {G H : Hp} {p : Addr} {o o' : HO} (i : GI W g dr G H) (hp : H p = some o) (m : ∀ ps, o ≠ .tbl ps) (hg : G p = none) (hd : dr ≠ some p) (tb : LamX.Tabs W.T (upd H p o')) : GI W g dr G (upd H p o') := by
  refine ⟨fun a v q => ?_, i.imm, ?_, tb⟩
  · have n : a ≠ p := fun z => by rw [z, hg] at q; cases q
    rw [upd_ne n]; exact i.sub a v q
  · have z := i.draw
    cases g with
    | none => exact z
    | some q =>
      obtain ⟨y, v, z1, z2, z3, z4⟩ := z
      have n : y ≠ p := fun e => hd (by rw [z1, e])
      exact ⟨y, v, z1, z2, by rw [upd_ne n]; exact z3, z4⟩
theorem len_mergeD {ks : List (PyData × PyData)} {ls : List (Key × V)} (h : ks.map Prod.fst = ls.map fun p => keyD p.1) : ks.length = ls.length := (keys_len h).symm
theorem cf_mrg (ha : PE X a (tE W fa)) (hb : PE X b (tE W fb)) : PE X (.Dict [none, none] [a, b] pos) (tF W (fMrg fa fb)) := by
  refine PE.imp (pe_mrg ha hb) ?_
  rintro σ H Q ⟨ρ, g, dr, ad, G, S, h⟩
  intro p hp
  have hpd : dr ≠ some p := dr_new S.gi hp
  have hpg : G p = none := none_sub S.gi.sub hp
  have S1 : SR W ρ g dr ad σ G (upd H p (.dK [])) := S.ext (Ext.new hp) (S.gi.new hp)
  refine ⟨ρ, g, dr, ad, G, S1, ?_⟩
  unfold fMrg at h
  cases e : fa ρ g with
  | bad d g1 =>
    rw [e] at h
    have h : badP W dr G H d g1 := h
    exact badP.mono h (Ext.new hp)
  | no => rw [e] at h; exact h
  | ok d g1 =>
    rw [e] at h
    intro v G1 H1 i1 x1 r1
    cases d with
    | dict ks =>
      have h : okF W dr G H (if ks.all (fun kv => keyFlat kv.1) then (fb ρ g1).bind fun y g2 => match y with
          | .dict ms => if ms.all (fun kv => keyFlat kv.1) && decide ((mergeD [] ks).length + ms.length ≤ sizeLine) then .ok (.dict (mergeD (mergeD [] ks) ms)) g2 else .no
          | _ => .no
        else .no) Q := h
      by_cases c : ks.all (fun kv => keyFlat kv.1) = true
      · rw [if_pos c] at h
        obtain ⟨a1, o1, ls, rfl, l1, l2, l3⟩ := rp_dK i1 r1 c
        have g1p : G1 p = none := x1.n p _ upd_same hpd trivial hpg
        have h1p := x1.h p _ upd_same hpd (fun ps z => by cases z)
        have n1 : a1 ≠ p := fun z => by rw [z, g1p] at l1; cases l1
        refine ⟨a1, ls, rfl, n1, h1p, .inr ⟨o1, i1.sub _ _ l1⟩, ?_⟩
        obtain ⟨m1, m2⟩ := merge_rp (K := W.K) (G := G1) l2 l3 (ls := []) (kws := []) .nil rfl
        have i2 : GI W g1 dr G1 (upd H1 p (.dK (mergeK [] ls))) := gi_at i1 h1p (fun ps z => by cases z) g1p hpd (tabs_upd i1.tabs h1p trivial)
        have x2 : Ext dr G H G1 (upd H1 p (.dK (mergeK [] ls))) := ext_at hp x1
        refine ⟨ρ, g1, dr, ad, G1, S.ext x2 i2, ?_⟩
        cases e2 : fb ρ g1 with
        | bad d g2 =>
          rw [e2] at h
          have h : badP W dr G H d g2 := h
          exact badP.mono h x2
        | no => rw [e2] at h; exact h
        | ok d g2 =>
          rw [e2] at h
          intro v2 G2 H2 i3 x3 r2
          cases d with
          | dict ms =>
            have h : okF W dr G H (if ms.all (fun kv => keyFlat kv.1) && decide ((mergeD [] ks).length + ms.length ≤ sizeLine) then .ok (.dict (mergeD (mergeD [] ks) ms)) g2 else .no) Q := h
            by_cases c2 : (ms.all (fun kv => keyFlat kv.1) && decide ((mergeD [] ks).length + ms.length ≤ sizeLine)) = true
            · rw [if_pos c2] at h
              rw [Bool.and_eq_true] at c2
              obtain ⟨b1, o2, ns, rfl, k1, k2, k3⟩ := rp_dK i3 r2 c2.1
              have g2p : G2 p = none := x3.n p _ upd_same hpd trivial g1p
              have h2p := x3.h p _ upd_same hpd (fun ps z => by cases z)
              have n2 : b1 ≠ p := fun z => by rw [z, g2p] at k1; cases k1
              have hz : (mergeK [] ls).length + ns.length ≤ sizeLine := by
                have q1 := of_decide_eq_true c2.2
                have q2 := len_mergeD m2
                have q3 := len_mergeD k3
                omega
              obtain ⟨w1, w2⟩ := merge_rp (K := W.K) (G := G2) k2 k3 (RpL.mono x3.g m1) m2
              refine ⟨b1, ns, rfl, n2, h2p, .inr ⟨o2, i3.sub _ _ k1⟩, hz, ?_⟩
              have i4 : GI W g2 dr G2 (upd H2 p (.dK (mergeK (mergeK [] ls) ns))) := gi_at i3 h2p (fun ps z => by cases z) g2p hpd (tabs_upd i3.tabs h2p trivial)
              have x4 : Ext dr G1 (upd H1 p (.dK [])) G2 (upd H2 p (.dK (mergeK (mergeK [] ls) ns))) → True := fun _ => trivial
              have x5 : Ext dr G H G2 (upd H2 p (.dK (mergeK (mergeK [] ls) ns))) := by
                refine ⟨fun a v q => x3.g a v (x1.g a v q), fun a v q d n => ?_, fun a v q d m n => ?_, fun a v q => ?_⟩
                · have na : a ≠ p := ne_of_none q hp
                  rw [upd_ne na]
                  exact x3.h a v (x2.h a v q d n) d n
                · exact x3.n a v (x2.h a v q d (fun ps z => m.tbl ps z)) d m (x2.n a v q d m n)
                · have na : a ≠ p := ne_of_none q hp
                  rw [upd_ne na]
                  obtain ⟨o', ho'⟩ := x2.d a v q
                  exact x3.d a o' ho'
              exact h p G2 _ i4 x5 hp g2p hpd (.inl ⟨_, upd_same, w1, w2⟩)
            · rw [if_neg c2] at h; exact h.elim
          | none | bool | int | str | list | tuple => exact h.elim
      · rw [if_neg c] at h; exact h.elim
    | none | bool | int | str | list | tuple => exact h.elim
end
/-! ### (a, b, ..) = a list -/
section
variable {X : Cx} {W : Wd} {tg e : Expr} {pos : Pos} {fa : Fn}
theorem bindTs_len : ∀ {ts : List Tg} {ds : List PyData} {l : List (Nat × PyData)}, bindTs ts ds = some l → ds.length = ts.length
  | [], [], _, _ => rfl
  | [], _ :: _, _, h => by simp [bindTs] at h
  | _ :: _, [], _, h => by simp [bindTs] at h
  | t :: ts, d :: ds, l, h => by
    unfold bindTs at h
    cases e1 : bindT t d with
    | none => rw [e1] at h; cases h
    | some a =>
      cases e2 : bindTs ts ds with
      | none => rw [e1, e2] at h; cases h
      | some b => rw [List.length_cons, List.length_cons, bindTs_len e2]
def fUnl (ts : List Tg) (fa : Fn) : FnS := fun ρ g => (fa ρ g).bind fun d g1 => match d with
  | .list ds => match bindTs ts ds with
    | some l => .ok (.nx (setE ρ l)) g1
    | none => .no
  | _ => .no
theorem cs_unl {gs : TGs} {ts : List Tg} {n : Nat} (hn : ts.length = n) (h : ∀ te, PE X e te → PS X (.Assign [tg] e pos) (tAsg te (gUnl W.K n gs))) (ht : TgsOk W.K ts gs) (he : PE X e (tE W fa)) : PS X (.Assign [tg] e pos) (tS W (fUnl ts fa)) := by
  refine PS.imp (h _ he) ?_
  rintro D σ H ⟨ρ, g, dr, ad, G, G0, H0, S, h⟩
  refine seqE S.sr poS (P := pS W dr G0 H0 D) ⟨S.ext, h⟩ fun v H1 d g1 G1 S1 x1 r1 h1 => ?_
  have S2 : SB W ρ g1 dr ad σ G0 H0 G1 H1 := S.next x1 S1.gi
  have hh := h1.2
  cases d with
  | list ds =>
    cases e : bindTs ts ds with
    | none => simp only [e] at hh; exact hh.elim
    | some l =>
      simp only [e] at hh
      cases r1 with
      | lst a b =>
        obtain ⟨vs, r2, k⟩ := ht G1 H1 _ ds l S1.gi.sub b e
        obtain ⟨ad', S3⟩ := S2.setAll r2
        exact ⟨_, _, rfl, SqL.of (S1.gi.sub _ _ a), by rw [b.length, bindTs_len e, hn], k _ _ (hh _ _ _ _ S3)⟩
  | none | bool | int | str | tuple | dict => exact hh.elim
theorem w_unl {gs : TGs} {ts : List Tg} {n : Nat} (hn : ts.length = n) (ht : TgsOk W.K ts gs) (hg : PG X tg (gUnl X.K n gs)) (he : PE X e (tE W fa)) (hK : X.K = W.K := by rfl) (hs : swapsWithSole [tg] e pos.line X.env = pure false := by rfl) (hw : swappedStores [tg] e X.env = pure none := by rfl)
    (h1 : (assignEach [tg] X.env).map (·.2) = [assign tg X.env] := by rfl) : PS X (.Assign [tg] e pos) (tS W (fUnl ts fa)) := cs_unl hn (fun te h => ps_asg h (hK ▸ hg) hs hw h1) ht he
end
/-! ### (a, b) = (x, {}) through a tuple: some targets are cells -/
section
variable {X : Cx} {W : Wd} {pos : Pos}
theorem MsOk.up {K : PySem.W.Frag} {dr : Option Addr} {G H H' Hb : Hp} {vs : List V} {l : List Sl} (m : MsOk K dr G H Hb vs l) (h : ∀ a o, H a = some o → H' a = some o) : MsOk K dr G H' Hb vs l := by
  induction m with
  | nil => exact .nil
  | sh a _ ih => exact .sh a ih
  | ow a b c d e f _ ih => exact .ow a b c (d.mono (fun _ _ z => z) fun o z _ => h _ o z) e f ih
theorem fMs_len : ∀ {ms : List Mk} {ρ : L2.PL.Env} {g g1 : Gs} {l : List Sl}, fMs ms ρ g = .ok l g1 → l.length = ms.length
  | [], _, _, _, _, e => by simp only [fMs] at e; cases e; rfl
  | .sh f :: r, ρ, g, g1, l, e => by
    simp only [fMs] at e
    cases e1 : f ρ g with
    | ok d g2 =>
      rw [e1] at e
      simp only [Res.bind] at e
      cases e2 : fMs r ρ g2 with
      | ok l2 g3 => rw [e2] at e; cases e; simp [fMs_len e2]
      | bad d g3 => rw [e2] at e; cases e
      | no => rw [e2] at e; cases e
    | bad d g2 => rw [e1] at e; cases e
    | no => rw [e1] at e; cases e
  | .ow f :: r, ρ, g, g1, l, e => by
    simp only [fMs] at e
    cases e1 : f ρ g with
    | ok d g2 =>
      rw [e1] at e
      simp only [Res.bind] at e
      cases e2 : fMs r ρ g2 with
      | ok l2 g3 => rw [e2] at e; cases e; simp [fMs_len e2]
      | bad d g3 => rw [e2] at e; cases e
      | no => rw [e2] at e; cases e
    | bad d g2 => rw [e1] at e; cases e
    | no => rw [e1] at e; cases e
theorem w_parT {is : List Nat} {ms : List Mk} {tgs es : List Expr} {k1 k2 n : Nat} {p1 p2 : Pos} {gs : TGs} (ha : PA X es (tM W (fMs ms))) (hg : PGs X tgs gs) (hgs : ∀ vs σ H Q, vs.length = n → Q (setV σ is vs) H → gs vs σ H Q) (hn : ms.length = n) (hz : n ≤ 100) (hK : X.K = W.K := by rfl) (hc : X.calm = true := by rfl)
    (hn2 : (assignEach tgs X.env).length = n := by rfl) (hst : (assignEach tgs X.env).findIdx? (·.1) = none := by rfl)
    (hs : swapsWithSole [.Tuple tgs k1 p1] (.Tuple es k2 p2) pos.line X.env = pure false := by rfl) (hw : swappedStores [.Tuple tgs k1 p1] (.Tuple es k2 p2) X.env = pure none := by rfl)
    (h1 : (assignEach [.Tuple tgs k1 p1] X.env).map (·.2) = [assign (.Tuple tgs k1 p1) X.env] := by rfl) : PS X (.Assign [.Tuple tgs k1 p1] (.Tuple es k2 p2) pos) (tS W (fPar is ms)) := by
  refine PS.imp (ps_asg (pe_tup ha) (pg_tup hc hg hn2 hst) hs hw h1) ?_
  rintro D σ H ⟨ρ, g, dr, ad, G, G0, H0, S, h⟩
  refine ⟨ρ, g, dr, ad, G, S.sr, ?_⟩
  unfold fPar at h
  cases e : fMs ms ρ g with
  | ok l g1 =>
    rw [e] at h
    intro vs G1 H1 i x m
    have hl : vs.length = n := by rw [m.length, fMs_len e, hn]
    refine ⟨by rw [hl]; exact Nat.le_trans hz (by decide), fun p hp => ?_⟩
    refine ⟨p, vs, rfl, .inl (.inl upd_same), hl, hgs _ _ _ _ hl ?_⟩
    have i2 : GI W g1 dr G1 (upd H1 p (.tup vs)) := i.new hp
    have S2 : SB W ρ g1 dr ad σ G0 H0 G1 (upd H1 p (.tup vs)) := S.next (x.trans (Ext.new hp)) i2
    obtain ⟨ad', S3⟩ := ms_set (K := W.K) (is := is) (m.up (sub_new hp)) S2 (fun c z => S.ext.none_of z) fun j e hj => by
      obtain ⟨_, _, _, h4⟩ := S.sr.slot j _ hj
      obtain ⟨u, hu, _⟩ := h4.there
      rw [hu]; simp
    exact h ad' _ G1 _ S3
  | bad d g1 => rw [e] at h; exact badP.mono h S.ext
  | no => rw [e] at h; exact h
theorem gs2 {i j : Nat} : ∀ (vs : List V) (σ : L2.St) (H : Hp) (Q : L2.St → Hp → Prop), vs.length = 2 → Q (setV σ [i, j] vs) H → L2.gCons (gName i) (L2.gCons (gName j) L2.gNil) vs σ H Q := by
  intro vs σ H Q hl q
  match vs, hl with
  | [u, v], _ => exact ⟨u, _, rfl, v, _, rfl, rfl, q⟩
theorem gs3 {i j k : Nat} : ∀ (vs : List V) (σ : L2.St) (H : Hp) (Q : L2.St → Hp → Prop), vs.length = 3 → Q (setV σ [i, j, k] vs) H → L2.gCons (gName i) (L2.gCons (gName j) (L2.gCons (gName k) L2.gNil)) vs σ H Q := by
  intro vs σ H Q hl q
  match vs, hl with
  | [u, v, w], _ => exact ⟨u, _, rfl, v, _, rfl, w, _, rfl, rfl, q⟩
end
end PL
end L2
set_option Elab.async false
set_option linter.all false
set_option maxRecDepth 100000
set_option maxHeartbeats 4000000
set_option pp.maxSteps 300
namespace K03
open PySem PySem.Spec PyProof.Rows L2 L2.PL
abbrev prog : Program := PySem.Challenge.pw_chainsback_k03_whole_blocks
def top (i : Nat) : Stmt := PySem.Challenge.pw_chainsback_k03_whole_blocks.main.body.getD i (.Pass ⟨0, 0, 0, 0⟩)
abbrev st__law_refuses : Stmt := top 35
abbrev st_is_whole : Stmt := top 4
abbrev N_is_whole : List Str := ["thing"]
abbrev ps_is_whole : List Str := ["thing"]
def b_is_whole : FnS := fRet (fAnd (fIsi isInt (fPk 0)) (fNot (fIsi isBool (fPk 0))))
def F_is_whole : L2.PL.Env → Gs → Res PyData := runF b_is_whole 0
theorem sc_is_whole : FnScope N_is_whole ps_is_whole (defScope st_is_whole) := ⟨rfl, rfl, rfl, by decide +kernel, rfl, by decide +kernel, by decide +kernel⟩
abbrev st_is_many : Stmt := top 6
abbrev N_is_many : List Str := ["thing", "many"]
abbrev ps_is_many : List Str := ["thing", "many"]
def b_is_many : FnS := fRet (fAnd (fIsi isTup (fPk 0)) (fBin (kEqX false) (f1 kLen (fPk 0)) (fPk 1)))
def F_is_many : L2.PL.Env → Gs → Res PyData := runF b_is_many 0
theorem sc_is_many : FnScope N_is_many ps_is_many (defScope st_is_many) := ⟨rfl, rfl, rfl, by decide +kernel, rfl, by decide +kernel, by decide +kernel⟩
abbrev st__law_cell_at : Stmt := top 30
abbrev N__law_cell_at : List Str := ["script", "k"]
abbrev ps__law_cell_at : List Str := ["script", "k"]
def b__law_cell_at : FnS := fSeq (fIf (fBin kLt (fPk 1) (f1 kLen (fPk 0))) (fRet (fBin kAt (fPk 0) (fPk 1))) (fSkip))
  (fRet (fCst (.int 0)))
def F__law_cell_at : L2.PL.Env → Gs → Res PyData := runF b__law_cell_at 0
theorem sc__law_cell_at : FnScope N__law_cell_at ps__law_cell_at (defScope st__law_cell_at) := ⟨rfl, rfl, rfl, by decide +kernel, rfl, by decide +kernel, by decide +kernel⟩
abbrev st__law_draw : Stmt := top 31
abbrev N__law_draw : List Str := ["cell", "k", "bound", "primes"]
abbrev ps__law_draw : List Str := ["cell", "k", "bound"]
def b__law_draw : FnS := fSeq (fSet 3 (fTup (fCons (fCst (.int 1000003)) (fCons (fCst (.int 1000033)) (fCons (fCst (.int 1000037)) (fCons (fCst (.int 1000039)) (fCons (fCst (.int 1000081)) (fCons (fCst (.int 1000099)) (fCons (fCst (.int 1000117)) (fCons (fCst (.int 1000121)) (fCons (fCst (.int 1000133)) (fCons (fCst (.int 1000151)) (fCons (fCst (.int 1000159)) (fCons (fCst (.int 1000171)) (fCons (fCst (.int 1000183)) (fCons (fCst (.int 1000187)) (fCons (fCst (.int 1000193)) (fCons (fCst (.int 1000199)) (fNil)))))))))))))))))))
  (fRet (fBin kMod (fBin kMod (f1 kInt (fBin kAdd (fBin kMulX (fPk 0) (fCst (.int 48271))) (fBin kMulX (fPk 1) (fCst (.int 69621))))) (fBin kAt (fPk 3) (fBin kMod (f1 kInt (fPk 1)) (fCst (.int 16))))) (fPk 2)))
def F__law_draw : L2.PL.Env → Gs → Res PyData := runF b__law_draw 1
theorem sc__law_draw : FnScope N__law_draw ps__law_draw (defScope st__law_draw) := ⟨rfl, rfl, rfl, by decide +kernel, rfl, by decide +kernel, by decide +kernel⟩
abbrev st__law_content : Stmt := top 36
abbrev N__law_content : List Str := ["states", "one", "to", "block", "version"]
abbrev ps__law_content : List Str := ["states", "one", "to"]
def b__law_content : FnS := fRet (fTell (f1 kDictP (fLc (fEnum (fBin kAt (fPk 0) (fPk 2))) (.tp [(.nm 3), (.nm 4)]) (fOr (fIsN true (fPk 1)) (fBin (kEqX true) (fBin kAt (fBin kAt (fPk 0) (fPk 1)) (fPk 3)) (fPk 4))) (fTup (fCons (fVar 3) (fCons (fVar 4) (fNil)))) [3, 4])))
def F__law_content : L2.PL.Env → Gs → Res PyData := runF b__law_content 2
theorem sc__law_content : FnScope N__law_content ps__law_content (defScope st__law_content) := ⟨rfl, rfl, rfl, by decide +kernel, rfl, by decide +kernel, by decide +kernel⟩
abbrev st__law_put : Stmt := top 37
abbrev N__law_put : List Str := ["state", "content", "block", "version"]
abbrev ps__law_put : List Str := ["state", "content"]
def b__law_put : FnS := fRet (f1 kTuple (fLc (fEnum (fVar 0)) (.tp [(.nm 2), (.nm 3)]) (fYes) (fIte (fBin (kInX false) (fPk 2) (fPk 1)) (fBin kAt (fPk 1) (fPk 2)) (fVar 3)) [2, 3]))
def F__law_put : L2.PL.Env → Gs → Res PyData := runF b__law_put 2
theorem sc__law_put : FnScope N__law_put ps__law_put (defScope st__law_put) := ⟨rfl, rfl, rfl, by decide +kernel, rfl, by decide +kernel, by decide +kernel⟩
abbrev st_is_from : Stmt := top 5
abbrev N_is_from : List Str := ["thing", "least", "most"]
abbrev ps_is_from : List Str := ["thing", "least", "most"]
def b_is_from : FnS := fRet (fAnd (fCall F_is_whole 1 (gCons (fVar 0) (gNil))) (fChn kLe kLe (fPk 1) (fPk 0) (fPk 2)))
def F_is_from : L2.PL.Env → Gs → Res PyData := runF b_is_from 0
theorem sc_is_from : FnScope N_is_from ps_is_from (defScope st_is_from) := ⟨rfl, rfl, rfl, by decide +kernel, rfl, by decide +kernel, by decide +kernel⟩
abbrev st__law_number : Stmt := top 32
abbrev N__law_number : List Str := ["cell", "k", "bound", "scale", "lap", "remains", "small"]
abbrev ps__law_number : List Str := ["cell", "k", "bound"]
def b__law_number : FnS := fSeq (fSet 3 (fCst (.int 1)))
  (fSeq (fFor (fRng1 (fBin kMod (f1 kInt (fPk 1)) (fCst (.int 24)))) (.nm 4) (fSet 3 (fBin kMulX (fPk 3) (fCst (.int 1009)))))
  (fSeq (fSet 5 (fBin kDiv (fBin kSub (fPk 0) (fBin kPow (fCst (.int 10)) (fCst (.int 18)))) (fPk 3)))
  (fSeq (fIf (fBin kGt (fPk 5) (fCst (.int 0))) (fRet (fBin kMod (fBin kMod (f1 kInt (fPk 5)) (fCst (.int 1009))) (fPk 2))) (fSkip))
  (fSeq (fSet 6 (fBin kMod (f1 kInt (fPk 0)) (fCst (.int 1000003))))
  (fRet (fBin kMod (fCall F__law_draw 3 (gCons (fBin kMulX (fBin kAdd (fPk 6) (fBin kMulX (fCst (.int 977)) (fPk 1))) (fBin kAdd (fBin kAdd (fPk 6) (fBin kMulX (fCst (.int 31)) (fPk 1))) (fCst (.int 5)))) (gCons (fBin kAdd (fBin kMod (f1 kInt (fPk 1)) (fCst (.int 9))) (fCst (.int 1))) (gCons (fCst (.int 999983)) (gNil))))) (fPk 2)))))))
def F__law_number : L2.PL.Env → Gs → Res PyData := runF b__law_number 4
theorem sc__law_number : FnScope N__law_number ps__law_number (defScope st__law_number) := ⟨rfl, rfl, rfl, by decide +kernel, rfl, by decide +kernel, by decide +kernel⟩
abbrev st_is_day : Stmt := top 11
abbrev N_is_day : List Str := ["thing"]
abbrev ps_is_day : List Str := ["thing"]
def b_is_day : FnS := fRet (fCall F_is_from 3 (gCons (fVar 0) (gCons (fCst (.int 0)) (gCons (fCst (.int 30)) (gNil)))))
def F_is_day : L2.PL.Env → Gs → Res PyData := runF b_is_day 0
theorem sc_is_day : FnScope N_is_day ps_is_day (defScope st_is_day) := ⟨rfl, rfl, rfl, by decide +kernel, rfl, by decide +kernel, by decide +kernel⟩
abbrev st_is_versions : Stmt := top 16
abbrev N_is_versions : List Str := ["thing", "one"]
abbrev ps_is_versions : List Str := ["thing"]
def b_is_versions : FnS := fRet (fAnd (fIsi isTup (fPk 0)) (fAnd (fChn kLe kLe (fCst (.int 1)) (f1 kLen (fPk 0)) (fCst (.int 8))) (f1 kAll (fLc (fWalk (fVar 0)) (.nm 1) (fYes) (fCall F_is_from 3 (gCons (fVar 1) (gCons (fCst (.int 0)) (gCons (fCst (.int 9)) (gNil))))) [1]))))
def F_is_versions : L2.PL.Env → Gs → Res PyData := runF b_is_versions 1
theorem sc_is_versions : FnScope N_is_versions ps_is_versions (defScope st_is_versions) := ⟨rfl, rfl, rfl, by decide +kernel, rfl, by decide +kernel, by decide +kernel⟩
abbrev st_is_content : Stmt := top 19
abbrev N_is_content : List Str := ["thing", "block", "version"]
abbrev ps_is_content : List Str := ["thing"]
def b_is_content : FnS := fSeq (fIf (fNot (fIsi isDct (fPk 0))) (fRet (fCst (.bool false))) (fSkip))
  (fRet (f1 kAll (fLc (fOn dctI (fVar 0)) (.tp [(.nm 1), (.nm 2)]) (fYes) (fAnd (fCall F_is_from 3 (gCons (fVar 1) (gCons (fCst (.int 0)) (gCons (fBin kSub (fCst (.int 8)) (fCst (.int 1))) (gNil))))) (fCall F_is_from 3 (gCons (fVar 2) (gCons (fCst (.int 0)) (gCons (fCst (.int 9)) (gNil)))))) [1, 2])))
def F_is_content : L2.PL.Env → Gs → Res PyData := runF b_is_content 2
theorem sc_is_content : FnScope N_is_content ps_is_content (defScope st_is_content) := ⟨rfl, rfl, rfl, by decide +kernel, rfl, by decide +kernel, by decide +kernel⟩
abbrev st__law_next : Stmt := top 33
abbrev N__law_next : List Str := ["draw", "bound", "at", "cell"]
abbrev ps__law_next : List Str := ["draw", "bound"]
def b__law_next : FnS := fSeq (fDrPut 0 (fBin kAdd (fDrAt 0 2) (fCst (.int 1))))
  (fSeq (fSet 2 (fBin kDiv (fDrAt 0 2) (fCst (.int 12))))
  (fSeq (fSet 3 (fBin kAdd (fCall F__law_cell_at 2 (gCons (fDrAt 0 0) (gCons (fBin kAdd (fDrAt 0 1) (fPk 2)) (gNil)))) (fBin kMulX (fCst (.int 31)) (fPk 2))))
  (fRet (fCall F__law_number 3 (gCons (fVar 3) (gCons (fBin kAdd (fBin kMod (f1 kInt (fDrAt 0 2)) (fCst (.int 12))) (fCst (.int 1))) (gCons (fVar 1) (gNil))))))))
def F__law_next : L2.PL.Env → Gs → Res PyData := runF b__law_next 2
theorem sc__law_next : FnScope N__law_next ps__law_next (defScope st__law_next) := ⟨rfl, rfl, rfl, by decide +kernel, rfl, by decide +kernel, by decide +kernel⟩
abbrev st_is_item : Stmt := top 12
abbrev N_is_item : List Str := ["thing"]
abbrev ps_is_item : List Str := ["thing"]
def b_is_item : FnS := fSeq (fIf (fOr (fNot (fCall F_is_many 2 (gCons (fVar 0) (gCons (fCst (.int 3)) (gNil))))) (fOr (fNot (fCall F_is_day 1 (gCons (fBin kAt (fPk 0) (fCst (.int 1))) (gNil)))) (fNot (fCall F_is_from 3 (gCons (fBin kAt (fPk 0) (fCst (.int 2))) (gCons (fCst (.int 0)) (gCons (fCst (.int 1000)) (gNil)))))))) (fRet (fCst (.bool false))) (fSkip))
  (fRet (fOr (fIsN true (fBin kAt (fPk 0) (fCst (.int 0)))) (fAnd (fCall F_is_day 1 (gCons (fBin kAt (fPk 0) (fCst (.int 0))) (gNil))) (fBin (kEqX true) (fBin kAt (fPk 0) (fCst (.int 0))) (fBin kAt (fPk 0) (fCst (.int 1)))))))
def F_is_item : L2.PL.Env → Gs → Res PyData := runF b_is_item 0
theorem sc_is_item : FnScope N_is_item ps_is_item (defScope st_is_item) := ⟨rfl, rfl, rfl, by decide +kernel, rfl, by decide +kernel, by decide +kernel⟩
abbrev st_is_states : Stmt := top 17
abbrev N_is_states : List Str := ["thing", "day", "state"]
abbrev ps_is_states : List Str := ["thing"]
def b_is_states : FnS := fSeq (fIf (fOr (fNot (fIsi isDct (fPk 0))) (fOr (fNot (fChn kLe kLe (fCst (.int 1)) (f1 kLen (fPk 0)) (fCst (.int 12)))) (fNot (f1 kAll (fLc (fWalk (fVar 0)) (.nm 1) (fYes) (fCall F_is_day 1 (gCons (fVar 1) (gNil))) [1]))))) (fRet (fCst (.bool false))) (fSkip))
  (fSeq (fIf (fNot (f1 kAll (fLc (fOn dctV (fVar 0)) (.nm 2) (fYes) (fCall F_is_versions 1 (gCons (fVar 2) (gNil))) [2]))) (fRet (fCst (.bool false))) (fSkip))
  (fRet (fBin (kEqX false) (f1 kLen (fDc (fOn dctV (fVar 0)) (.nm 2) (fYes) (f1 kLen (fPk 2)) (fCst (.bool true)) [2])) (fCst (.int 1)))))
def F_is_states : L2.PL.Env → Gs → Res PyData := runF b_is_states 2
theorem sc_is_states : FnScope N_is_states ps_is_states (defScope st_is_states) := ⟨rfl, rfl, rfl, by decide +kernel, rfl, by decide +kernel, by decide +kernel⟩
abbrev st_folded : Stmt := top 21
abbrev N_folded : List Str := ["first", "second", "content", "both", "block"]
abbrev ps_folded : List Str := ["first", "second"]
def b_folded : FnS := fSeq (fFor (fWalk (fTup (fCons (fVar 0) (fCons (fVar 1) (fNil))))) (.nm 2) (fIf (fNot (fCall F_is_content 1 (gCons (fVar 2) (gNil)))) (fRaise (fVar 2)) (fSkip)))
  (fSeq (fSet 3 (fTell (fMrg (fVar 0) (fVar 1))))
  (fRet (fTell (fDc (fWalk (fLstO (f1 kSorted (fPk 3)))) (.nm 4) (fYes) (fVar 4) (fBin kAt (fPk 3) (fPk 4)) [4]))))
def F_folded : L2.PL.Env → Gs → Res PyData := runF b_folded 3
theorem sc_folded : FnScope N_folded ps_folded (defScope st_folded) := ⟨rfl, rfl, rfl, by decide +kernel, rfl, by decide +kernel, by decide +kernel⟩
abbrev st_behind : Stmt := top 22
abbrev N_behind : List Str := ["state", "content", "block", "version"]
abbrev ps_behind : List Str := ["state", "content"]
def b_behind : FnS := fSeq (fIf (fNot (fCall F_is_versions 1 (gCons (fVar 0) (gNil)))) (fRaise (fVar 0)) (fSkip))
  (fSeq (fIf (fOr (fNot (fCall F_is_content 1 (gCons (fVar 1) (gNil)))) (fNot (f1 kAll (fLc (fWalk (fVar 1)) (.nm 2) (fYes) (fBin kLt (fPk 2) (f1 kLen (fPk 0))) [2])))) (fRaise (fVar 1)) (fSkip))
  (fRet (f1 kTuple (fLc (fEnum (fVar 0)) (.tp [(.nm 2), (.nm 3)]) (fYes) (fGet2 (fPk 1) (fVar 2) (fVar 3)) [2, 3]))))
def F_behind : L2.PL.Env → Gs → Res PyData := runF b_behind 2
theorem sc_behind : FnScope N_behind ps_behind (defScope st_behind) := ⟨rfl, rfl, rfl, by decide +kernel, rfl, by decide +kernel, by decide +kernel⟩
abbrev st__law_pick : Stmt := top 34
abbrev N__law_pick : List Str := ["draw", "things"]
abbrev ps__law_pick : List Str := ["draw", "things"]
def b__law_pick : FnS := fRet (fBin kAt (fPk 1) (fCall F__law_next 2 (gDr 0 (gCons (f1 kLen (fPk 1)) (gNil)))))
def F__law_pick : L2.PL.Env → Gs → Res PyData := runF b__law_pick 0
theorem sc__law_pick : FnScope N__law_pick ps__law_pick (defScope st__law_pick) := ⟨rfl, rfl, rfl, by decide +kernel, rfl, by decide +kernel, by decide +kernel⟩
abbrev st_is_store : Stmt := top 13
abbrev N_is_store : List Str := ["thing", "item"]
abbrev ps_is_store : List Str := ["thing"]
def b_is_store : FnS := fRet (fAnd (fIsi isTup (fPk 0)) (fAnd (fBin kLe (f1 kLen (fPk 0)) (fCst (.int 20))) (f1 kAll (fLc (fWalk (fVar 0)) (.nm 1) (fYes) (fCall F_is_item 1 (gCons (fVar 1) (gNil))) [1]))))
def F_is_store : L2.PL.Env → Gs → Res PyData := runF b_is_store 1
theorem sc_is_store : FnScope N_is_store ps_is_store (defScope st_is_store) := ⟨rfl, rfl, rfl, by decide +kernel, rfl, by decide +kernel, by decide +kernel⟩
abbrev st_check_states : Stmt := top 18
abbrev N_check_states : List Str := ["states"]
abbrev ps_check_states : List Str := ["states"]
def b_check_states : FnS := fIf (fNot (fCall F_is_states 1 (gCons (fVar 0) (gNil)))) (fRaise (fVar 0)) (fSkip)
def F_check_states : L2.PL.Env → Gs → Res PyData := runF b_check_states 0
theorem sc_check_states : FnScope N_check_states ps_check_states (defScope st_check_states) := ⟨rfl, rfl, rfl, by decide +kernel, rfl, by decide +kernel, by decide +kernel⟩
abbrev st_content_of : Stmt := top 20
abbrev N_content_of : List Str := ["states", "one", "to", "late", "block"]
abbrev ps_content_of : List Str := ["states", "one", "to"]
def b_content_of : FnS := fSeq (fExp (fCall F_check_states 1 (gCons (fVar 0) (gNil))))
  (fSeq (fIf (fAnd (fIsN false (fPk 1)) (fOr (fNot (fCall F_is_day 1 (gCons (fVar 1) (gNil)))) (fBin (kInX true) (fPk 1) (fPk 0)))) (fRaise (fVar 1)) (fSkip))
  (fSeq (fIf (fOr (fNot (fCall F_is_day 1 (gCons (fVar 2) (gNil)))) (fBin (kInX true) (fPk 2) (fPk 0))) (fRaise (fVar 2)) (fSkip))
  (fSeq (fSet 3 (fBin kAt (fPk 0) (fPk 2)))
  (fRet (fTell (fDc (fRng1 (f1 kLen (fPk 3))) (.nm 4) (fOr (fIsN true (fPk 1)) (fBin (kEqX true) (fBin kAt (fBin kAt (fPk 0) (fPk 1)) (fPk 4)) (fBin kAt (fPk 3) (fPk 4)))) (fVar 4) (fBin kAt (fPk 3) (fPk 4)) [4]))))))
def F_content_of : L2.PL.Env → Gs → Res PyData := runF b_content_of 2
theorem sc_content_of : FnScope N_content_of ps_content_of (defScope st_content_of) := ⟨rfl, rfl, rfl, by decide +kernel, rfl, by decide +kernel, by decide +kernel⟩
abbrev st_ever_changed : Stmt := top 28
abbrev N_ever_changed : List Str := ["states", "rows", "block", "row"]
abbrev ps_ever_changed : List Str := ["states"]
def b_ever_changed : FnS := fSeq (fExp (fCall F_check_states 1 (gCons (fVar 0) (gNil))))
  (fSeq (fSet 1 (fLstO (fVals (fPk 0))))
  (fRet (f1 kTuple (fLc (fRng1 (f1 kLen (fBin kAt (fPk 1) (fCst (.int 0))))) (.nm 2) (fBin kGt (f1 kLen (fDc (fWalk (fVar 1)) (.nm 3) (fYes) (fBin kAt (fPk 3) (fPk 2)) (fCst (.bool true)) [3])) (fCst (.int 1))) (fVar 2) [2]))))
def F_ever_changed : L2.PL.Env → Gs → Res PyData := runF b_ever_changed 3
theorem sc_ever_changed : FnScope N_ever_changed ps_ever_changed (defScope st_ever_changed) := ⟨rfl, rfl, rfl, by decide +kernel, rfl, by decide +kernel, by decide +kernel⟩
abbrev st_store_of : Stmt := top 23
abbrev N_store_of : List Str := ["states", "pairs", "pair", "one", "to"]
abbrev ps_store_of : List Str := ["states", "pairs"]
def b_store_of : FnS := fSeq (fExp (fCall F_check_states 1 (gCons (fVar 0) (gNil))))
  (fSeq (fIf (fOr (fNot (fIsi isTup (fPk 1))) (fBin kGt (f1 kLen (fPk 1)) (fCst (.int 20)))) (fRaise (fVar 1)) (fSkip))
  (fSeq (fFor (fWalk (fVar 1)) (.nm 2) (fSeq (fIf (fOr (fNot (fCall F_is_many 2 (gCons (fVar 2) (gCons (fCst (.int 2)) (gNil))))) (fOr (fNot (fCall F_is_item 1 (gCons (fTup (fStar (fPk 2) (fCons (fCst (.int 0)) (fNil)))) (gNil)))) (fBin (kInX true) (fBin kAt (fPk 2) (fCst (.int 1))) (fPk 0)))) (fRaise (fVar 1)) (fSkip))
  (fIf (fAnd (fIsN false (fBin kAt (fPk 2) (fCst (.int 0)))) (fBin (kInX true) (fBin kAt (fPk 2) (fCst (.int 0))) (fPk 0))) (fRaise (fVar 1)) (fSkip))))
  (fRet (f1 kTuple (fLc (fWalk (fVar 1)) (.tp [(.nm 3), (.nm 4)]) (fYes) (fTup (fCons (fVar 3) (fCons (fVar 4) (fCons (f1 kLen (fCall F_content_of 3 (gCons (fVar 0) (gCons (fVar 3) (gCons (fVar 4) (gNil)))))) (fNil))))) [3, 4])))))
def F_store_of : L2.PL.Env → Gs → Res PyData := runF b_store_of 3
theorem sc_store_of : FnScope N_store_of ps_store_of (defScope st_store_of) := ⟨rfl, rfl, rfl, by decide +kernel, rfl, by decide +kernel, by decide +kernel⟩
abbrev st_restored : Stmt := top 24
abbrev N_restored : List Str := ["states", "days", "one", "to", "found", "day"]
abbrev ps_restored : List Str := ["states", "days"]
def b_restored : FnS := fSeq (fExp (fCall F_check_states 1 (gCons (fVar 0) (gNil))))
  (fSeq (fIf (fOr (fNot (fIsi isTup (fPk 1))) (fOr (fBin (kEqX false) (fPk 1) (fTup (fNil))) (fNot (f1 kAll (fLc (fWalk (fVar 1)) (.nm 5) (fYes) (fAnd (fCall F_is_day 1 (gCons (fVar 5) (gNil))) (fBin (kInX false) (fPk 5) (fPk 0))) [5]))))) (fRaise (fVar 1)) (fSkip))
  (fSeq (fIf (f1 kAny (fLc (fZip (fVar 1) (fSlc (fPk 1) (some (fCst (.int 1))) none)) (.tp [(.nm 2), (.nm 3)]) (fYes) (fBin (kEqX false) (fPk 2) (fPk 3)) [2, 3])) (fRaise (fVar 1)) (fSkip))
  (fSeq (fSet 4 (fBin kAt (fPk 0) (fBin kAt (fPk 1) (fCst (.int 0)))))
  (fSeq (fFor (fZip (fVar 1) (fSlc (fPk 1) (some (fCst (.int 1))) none)) (.tp [(.nm 2), (.nm 3)]) (fSet 4 (fCall F_behind 2 (gCons (fVar 4) (gCons (fCall F_content_of 3 (gCons (fVar 0) (gCons (fVar 2) (gCons (fVar 3) (gNil))))) (gNil))))))
  (fRet (fVar 4))))))
def F_restored : L2.PL.Env → Gs → Res PyData := runF b_restored 4
theorem sc_restored : FnScope N_restored ps_restored (defScope st_restored) := ⟨rfl, rfl, rfl, by decide +kernel, rfl, by decide +kernel, by decide +kernel⟩
abbrev st_closest_base : Stmt := top 27
abbrev N_closest_base : List Str := ["states", "day", "rows", "other"]
abbrev ps_closest_base : List Str := ["states", "day"]
def b_closest_base : FnS := fSeq (fExp (fCall F_check_states 1 (gCons (fVar 0) (gNil))))
  (fSeq (fIf (fOr (fNot (fCall F_is_day 1 (gCons (fVar 1) (gNil)))) (fBin (kInX true) (fPk 1) (fPk 0))) (fRaise (fVar 1)) (fSkip))
  (fSeq (fSet 2 (fLstO (fLc (fWalk (fVar 0)) (.nm 3) (fBin (kEqX true) (fPk 3) (fPk 1)) (fTup (fCons (f1 kLen (fCall F_content_of 3 (gCons (fVar 0) (gCons (fVar 3) (gCons (fVar 1) (gNil)))))) (fCons (fVar 3) (fNil)))) [3])))
  (fRet (fIte (fBin (kEqX true) (fPk 2) (fLst (fNil))) (fTup (fCons (fBin kAt (f1 (kMin false) (fPk 2)) (fCst (.int 1))) (fCons (fBin kAt (f1 (kMin false) (fPk 2)) (fCst (.int 0))) (fNil)))) (fCst .none)))))
def F_closest_base : L2.PL.Env → Gs → Res PyData := runF b_closest_base 2
theorem sc_closest_base : FnScope N_closest_base ps_closest_base (defScope st_closest_base) := ⟨rfl, rfl, rfl, by decide +kernel, rfl, by decide +kernel, by decide +kernel⟩
abbrev st_folded_along : Stmt := top 25
abbrev N_folded_along : List Str := ["states", "days", "found", "one", "to"]
abbrev ps_folded_along : List Str := ["states", "days"]
def b_folded_along : FnS := fSeq (fExp (fCall F_restored 2 (gCons (fVar 0) (gCons (fVar 1) (gNil)))))
  (fSeq (fSet 2 (fTell (fNewD)))
  (fSeq (fFor (fZip (fVar 1) (fSlc (fPk 1) (some (fCst (.int 1))) none)) (.tp [(.nm 3), (.nm 4)]) (fSet 2 (fCall F_folded 2 (gCons (fVar 2) (gCons (fCall F_content_of 3 (gCons (fVar 0) (gCons (fVar 3) (gCons (fVar 4) (gNil))))) (gNil))))))
  (fRet (fVar 2))))
def F_folded_along : L2.PL.Env → Gs → Res PyData := runF b_folded_along 3
theorem sc_folded_along : FnScope N_folded_along ps_folded_along (defScope st_folded_along) := ⟨rfl, rfl, rfl, by decide +kernel, rfl, by decide +kernel, by decide +kernel⟩
abbrev st_wrongly_made : Stmt := top 26
abbrev N_wrongly_made : List Str := ["states", "days", "day", "content"]
abbrev ps_wrongly_made : List Str := ["states", "days", "day"]
def b_wrongly_made : FnS := fSeq (fSet 3 (fCall F_folded_along 2 (gCons (fVar 0) (gCons (fVar 1) (gNil)))))
  (fSeq (fIf (fOr (fNot (fCall F_is_day 1 (gCons (fVar 2) (gNil)))) (fBin (kInX true) (fPk 2) (fPk 0))) (fRaise (fVar 2)) (fSkip))
  (fRet (fCall F_behind 2 (gCons (fBin kAt (fPk 0) (fPk 2)) (gCons (fVar 3) (gNil))))))
def F_wrongly_made : L2.PL.Env → Gs → Res PyData := runF b_wrongly_made 1
theorem sc_wrongly_made : FnScope N_wrongly_made ps_wrongly_made (defScope st_wrongly_made) := ⟨rfl, rfl, rfl, by decide +kernel, rfl, by decide +kernel, by decide +kernel⟩
abbrev st__law_refused_right : Stmt := top 38
abbrev N__law_refused_right : List Str := ["states", "day", "bad"]
abbrev ps__law_refused_right : List Str := ["states"]
def b__law_refused_right : FnS := fSeq (fFor (fWalk (fTup (fCons (fCst .none) (fCons (fTell (fNewD)) (fCons (fTell (fDisp [(fCst (.int 0), fTup (fNil))])) (fCons (fTell (fDisp [(fCst (.int 0), fTup (fCons (fCst (.int 10)) (fNil)))])) (fCons (fTell (fDisp [(fCst (.int 0), fTup (fCons (fCst (.int 1)) (fNil))), (fCst (.int 1), fTup (fCons (fCst (.int 1)) (fCons (fCst (.int 2)) (fNil))))])) (fCons (fTell (fDisp [(fCst (.int 31), fTup (fCons (fCst (.int 1)) (fNil)))])) (fCons (fTell (fDisp [(fCst (.int 0), fLstO (fLst (fCons (fCst (.int 1)) (fNil))))])) (fCons (fTell (fDisp [(fCst (.int 0), fBin kMulX (fTup (fCons (fCst (.int 1)) (fNil))) (fCst (.int 9)))])) (fCons (fTell (f1 kDictP (fLc (fRng1 (fCst (.int 13))) (.nm 1) (fYes) (fTup (fCons (fVar 1) (fCons (fTup (fCons (fCst (.int 1)) (fNil))) (fNil)))) [1]))) (fNil)))))))))))) (.nm 2) (fSeq (fIf (fCall F_is_states 1 (gCons (fVar 2) (gNil))) (fRet (fCst (.bool false))) (fSkip))
  (fSeq (fIf (fNot (fRefu (fCall F_content_of 3 (gCons (fVar 2) (gCons (fCst .none) (gCons (fCst .none) (gNil))))) (fVar 2))) (fRet (fCst (.bool false))) (fSkip))
  (fSeq (fIf (fNot (fRefu (fCall F_store_of 2 (gCons (fVar 2) (gCons (fCst .none) (gNil)))) (fVar 2))) (fRet (fCst (.bool false))) (fSkip))
  (fSeq (fIf (fNot (fRefu (fCall F_restored 2 (gCons (fVar 2) (gCons (fCst .none) (gNil)))) (fVar 2))) (fRet (fCst (.bool false))) (fSkip))
  (fSeq (fIf (fNot (fRefu (fCall F_ever_changed 1 (gCons (fVar 2) (gNil))) (fVar 2))) (fRet (fCst (.bool false))) (fSkip))
  (fIf (fNot (fRefu (fCall F_closest_base 2 (gCons (fVar 2) (gCons (fCst .none) (gNil)))) (fVar 2))) (fRet (fCst (.bool false))) (fSkip))))))))
  (fSeq (fFor (fWalk (fTup (fCons (fCst (.int 29)) (fCons (fNeg (fCst (.int 1))) (fCons (fCst (.bool true)) (fNil)))))) (.nm 2) (fIf (fNot (fRefu (fCall F_content_of 3 (gCons (fVar 0) (gCons (fVar 2) (gCons (fCst .none) (gNil))))) (fVar 2))) (fRet (fCst (.bool false))) (fSkip)))
  (fSeq (fFor (fWalk (fTup (fCons (fCst .none) (fCons (fCst (.int 29)) (fNil))))) (.nm 2) (fSeq (fIf (fNot (fRefu (fCall F_content_of 3 (gCons (fVar 0) (gCons (fCst .none) (gCons (fVar 2) (gNil))))) (fVar 2))) (fRet (fCst (.bool false))) (fSkip))
  (fSeq (fIf (fNot (fRefu (fCall F_closest_base 2 (gCons (fVar 0) (gCons (fVar 2) (gNil)))) (fVar 2))) (fRet (fCst (.bool false))) (fSkip))
  (fIf (fNot (fRefu (fCall F_wrongly_made 3 (gCons (fVar 0) (gCons (fTup (fCons (fBin kAt (f1 kSorted (fPk 0)) (fCst (.int 0))) (fNil))) (gCons (fVar 2) (gNil))))) (fVar 2))) (fRet (fCst (.bool false))) (fSkip)))))
  (fSeq (fSet 1 (fBin kAt (f1 kSorted (fPk 0)) (fCst (.int 0))))
  (fSeq (fFor (fWalk (fTup (fCons (fCst .none) (fCons (fLstO (fLst (fNil))) (fCons (fTell (fDisp [(fCst (.int 8), fCst (.int 1))])) (fCons (fTell (fDisp [(fCst (.int 0), fCst (.int 10))])) (fNil))))))) (.nm 2) (fSeq (fIf (fNot (fRefu (fCall F_folded 2 (gCons (fVar 2) (gCons (fCst .none) (gNil)))) (fVar 2))) (fRet (fCst (.bool false))) (fSkip))
  (fSeq (fIf (fNot (fRefu (fCall F_folded 2 (gCons (fTell (fNewD)) (gCons (fVar 2) (gNil)))) (fVar 2))) (fRet (fCst (.bool false))) (fSkip))
  (fIf (fNot (fRefu (fCall F_behind 2 (gCons (fTup (fCons (fCst (.int 1)) (fNil))) (gCons (fVar 2) (gNil)))) (fVar 2))) (fRet (fCst (.bool false))) (fSkip)))))
  (fSeq (fFor (fWalk (fTup (fCons (fCst .none) (fCons (fLstO (fLst (fNil))) (fCons (fTup (fCons (fTup (fCons (fVar 1) (fCons (fVar 1) (fNil)))) (fNil))) (fCons (fTup (fCons (fTup (fCons (fCst .none) (fCons (fCst (.int 29)) (fNil)))) (fNil))) (fCons (fTup (fCons (fTup (fCons (fCst (.int 29)) (fCons (fVar 1) (fNil)))) (fNil))) (fCons (fBin kMulX (fTup (fCons (fTup (fCons (fCst .none) (fCons (fVar 1) (fNil)))) (fNil))) (fCst (.int 21))) (fCons (fTup (fCons (fTup (fCons (fVar 1) (fNil))) (fNil))) (fNil)))))))))) (.nm 2) (fIf (fNot (fRefu (fCall F_store_of 2 (gCons (fVar 0) (gCons (fVar 2) (gNil)))) (fVar 2))) (fRet (fCst (.bool false))) (fSkip)))
  (fSeq (fFor (fWalk (fTup (fCons (fCst .none) (fCons (fTup (fNil)) (fCons (fTup (fCons (fVar 1) (fCons (fVar 1) (fNil)))) (fCons (fTup (fCons (fCst (.int 29)) (fNil))) (fCons (fLstO (fLst (fCons (fVar 1) (fNil)))) (fNil)))))))) (.nm 2) (fSeq (fIf (fNot (fRefu (fCall F_restored 2 (gCons (fVar 0) (gCons (fVar 2) (gNil)))) (fVar 2))) (fRet (fCst (.bool false))) (fSkip))
  (fIf (fNot (fRefu (fCall F_folded_along 2 (gCons (fVar 0) (gCons (fVar 2) (gNil)))) (fVar 2))) (fRet (fCst (.bool false))) (fSkip))))
  (fSeq (fIf (fNot (fRefu (fCall F_behind 2 (gCons (fTup (fNil)) (gCons (fCst .none) (gNil)))) (fTup (fNil)))) (fRet (fCst (.bool false))) (fSkip))
  (fRet (fRefu (fCall F_behind 2 (gCons (fTup (fCons (fCst (.int 1)) (fNil))) (gCons (fTell (fDisp [(fCst (.int 1), fCst (.int 1))])) (gNil)))) (fTell (fDisp [(fCst (.int 1), fCst (.int 1))])))))))))))
def F__law_refused_right : L2.PL.Env → Gs → Res PyData := runF b__law_refused_right 2
theorem sc__law_refused_right : FnScope N__law_refused_right ps__law_refused_right (defScope st__law_refused_right) := ⟨rfl, rfl, rfl, by decide +kernel, rfl, by decide +kernel, by decide +kernel⟩
abbrev st_law : Stmt := top 39
abbrev N_law : List Str := ["script", "draw", "blocks", "states", "turn", "days", "day", "pairs", "one", "to", "due", "other", "rows", "along", "step", "late", "content", "here", "alike", "first", "second", "both", "block", "pair", "side"]
abbrev ps_law : List Str := ["script"]
def b_law : FnS := fSeq (fPar [2, 3] [.sh (fBin kAdd (fCst (.int 1)) (fCall F__law_next 2 (gDr 1 (gCons (fCst (.int 5)) (gNil))))), .ow (fNewD)])
  (fSeq (fFor (fRng1 (fBin kAdd (fCst (.int 1)) (fCall F__law_next 2 (gDr 1 (gCons (fCst (.int 5)) (gNil)))))) (.nm 4) (fPut 3 (fCall F__law_next 2 (gDr 1 (gCons (fCst (.int 9)) (gNil)))) (f1 kTuple (fLc (fRng1 (fPk 2)) (.nm 22) (fYes) (fCall F__law_next 2 (gDr 1 (gCons (fCst (.int 3)) (gNil)))) [22]))))
  (fSeq (fSet 5 (fLstO (f1 kSorted (fPk 3))))
  (fSeq (fFz 3 (fIf (fOr (fNot (fCall F_is_states 1 (gCons (fVar 3) (gNil)))) (fBin (kEqX true) (fCall F_ever_changed 1 (gCons (fVar 3) (gNil))) (f1 kTuple (fLc (fRng1 (fPk 2)) (.nm 22) (fBin kGt (f1 kLenSet (fLc (fWalk (fVar 5)) (.nm 6) (fYes) (fBin kAt (fBin kAt (fPk 3) (fPk 6)) (fPk 22)) [6])) (fCst (.int 1))) (fVar 22) [22])))) (fRet (fCst (.bool false))) (fSkip)))
  (fSeq (fSet 7 (fLstO (fLst (fNil))))
  (fSeq (fFor (fWalk (fBin kAdd (fLst (fCons (fCst .none) (fNil))) (fPk 5))) (.nm 8) (fFor (fWalk (fVar 5)) (.nm 9) (fSeq (fFz 3 (fSet 10 (fCall F__law_content 3 (gCons (fVar 3) (gCons (fVar 8) (gCons (fVar 9) (gNil)))))))
  (fSeq (fFz 3 (fIf (fOr (fBin (kEqX true) (fCall F_content_of 3 (gCons (fVar 3) (gCons (fVar 8) (gCons (fVar 9) (gNil))))) (fPk 10)) (fOr (fBin (kEqX true) (f1 kList (fCall F_content_of 3 (gCons (fVar 3) (gCons (fVar 8) (gCons (fVar 9) (gNil)))))) (f1 kSorted (fPk 10))) (fAnd (fIsN false (fPk 8)) (fBin (kEqX true) (fCall F_behind 2 (gCons (fBin kAt (fPk 3) (fPk 8)) (gCons (fVar 10) (gNil)))) (fBin kAt (fPk 3) (fPk 9)))))) (fRet (fCst (.bool false))) (fSkip)))
  (fSet 7 (fBin kAdd (fPk 7) (fIte (fBin (kEqX true) (fPk 8) (fPk 9)) (fLstO (fLst (fCons (fTup (fCons (fVar 8) (fCons (fVar 9) (fNil)))) (fNil)))) (fLstO (fLst (fNil))))))))))
  (fSeq (fSet 7 (f1 kTuple (fSlc (fLc (fWalk (fVar 7)) (.nm 23) (fBin (kEqX false) (fCall F__law_next 2 (gDr 1 (gCons (fCst (.int 2)) (gNil)))) (fCst (.int 0))) (fVar 23) [23]) none (some (fCst (.int 20))))))
  (fSeq (fFz 3 (fIf (fOr (fBin (kEqX true) (fCall F_store_of 2 (gCons (fVar 3) (gCons (fVar 7) (gNil)))) (f1 kTuple (fLc (fWalk (fVar 7)) (.tp [(.nm 8), (.nm 9)]) (fYes) (fTup (fCons (fVar 8) (fCons (fVar 9) (fCons (f1 kLen (fCall F__law_content 3 (gCons (fVar 3) (gCons (fVar 8) (gCons (fVar 9) (gNil)))))) (fNil))))) [8, 9]))) (fNot (fCall F_is_store 1 (gCons (fCall F_store_of 2 (gCons (fVar 3) (gCons (fVar 7) (gNil)))) (gNil))))) (fRet (fCst (.bool false))) (fSkip)))
  (fSeq (fFor (fWalk (fVar 5)) (.nm 6) (fSeq (fFz 3 (fSet 12 (fLstO (fLc (fWalk (fVar 5)) (.nm 11) (fBin (kEqX true) (fPk 11) (fPk 6)) (fTup (fCons (f1 kLen (fCall F__law_content 3 (gCons (fVar 3) (gCons (fVar 11) (gCons (fVar 6) (gNil)))))) (fCons (fVar 11) (fNil)))) [11]))))
  (fFz 3 (fIf (fBin (kEqX true) (fCall F_closest_base 2 (gCons (fVar 3) (gCons (fVar 6) (gNil)))) (fIte (fBin (kEqX true) (fPk 12) (fLst (fNil))) (fTup (fCons (fBin kAt (f1 (kMin false) (fPk 12)) (fCst (.int 1))) (fCons (fBin kAt (f1 (kMin false) (fPk 12)) (fCst (.int 0))) (fNil)))) (fCst .none))) (fRet (fCst (.bool false))) (fSkip)))))
  (fSeq (fFor (fRng1 (fCst (.int 5))) (.nm 4) (fSeq (fSet 13 (fTup (fCons (fCall F__law_pick 2 (gDr 1 (gCons (fVar 5) (gNil)))) (fNil))))
  (fSeq (fFor (fRng1 (fCall F__law_next 2 (gDr 1 (gCons (fCst (.int 5)) (gNil))))) (.nm 14) (fSeq (fSet 15 (fCall F__law_pick 2 (gDr 1 (gCons (fVar 5) (gNil)))))
  (fSet 13 (fBin kAdd (fPk 13) (fIte (fBin (kEqX true) (fPk 15) (fBin kAt (fPk 13) (fNeg (fCst (.int 1))))) (fTup (fCons (fVar 15) (fNil))) (fTup (fNil)))))))
  (fSeq (fAsg (.tp [(.nm 16), (.nm 17)]) (fTup (fCons (fTell (fNewD)) (fCons (fBin kAt (fPk 3) (fBin kAt (fPk 13) (fCst (.int 0)))) (fNil)))))
  (fSeq (fFor (fZip (fVar 13) (fSlc (fPk 13) (some (fCst (.int 1))) none)) (.tp [(.nm 8), (.nm 9)]) (fSeq (fFz 3 (fSet 16 (fTell (f1 kDictP (fBin kAdd (fItems (fPk 16)) (fItems (fCall F__law_content 3 (gCons (fVar 3) (gCons (fVar 8) (gCons (fVar 9) (gNil)))))))))))
  (fFz 3 (fSet 17 (fCall F__law_put 2 (gCons (fVar 17) (gCons (fCall F__law_content 3 (gCons (fVar 3) (gCons (fVar 8) (gCons (fVar 9) (gNil))))) (gNil))))))))
  (fSeq (fSet 11 (fCall F__law_pick 2 (gDr 1 (gCons (fVar 5) (gNil)))))
  (fSeq (fSet 18 (f1 kAll (fLc (fRng1 (fPk 2)) (.nm 22) (fBin (kInX true) (fPk 22) (fPk 16)) (fBin (kEqX false) (fBin kAt (fBin kAt (fPk 3) (fPk 11)) (fPk 22)) (fBin kAt (fBin kAt (fPk 3) (fBin kAt (fPk 13) (fNeg (fCst (.int 1))))) (fPk 22))) [22])))
  (fSeq (fFz 3 (fIf (fOr (fBin (kEqX true) (fCall F_restored 2 (gCons (fVar 3) (gCons (fVar 13) (gNil)))) (fPk 17)) (fOr (fBin (kEqX true) (fPk 17) (fBin kAt (fPk 3) (fBin kAt (fPk 13) (fNeg (fCst (.int 1)))))) (fOr (fBin (kEqX true) (fCall F_folded_along 2 (gCons (fVar 3) (gCons (fVar 13) (gNil)))) (fPk 16)) (fBin (kEqX true) (f1 kList (fCall F_folded_along 2 (gCons (fVar 3) (gCons (fVar 13) (gNil))))) (f1 kSorted (fPk 16)))))) (fRet (fCst (.bool false))) (fSkip)))
  (fSeq (fFz 3 (fIf (fOr (fBin (kEqX true) (fCall F_wrongly_made 3 (gCons (fVar 3) (gCons (fVar 13) (gCons (fVar 11) (gNil))))) (fCall F__law_put 2 (gCons (fBin kAt (fPk 3) (fPk 11)) (gCons (fVar 16) (gNil))))) (fBin (kEqX true) (fBin (kEqX false) (fCall F_wrongly_made 3 (gCons (fVar 3) (gCons (fVar 13) (gCons (fVar 11) (gNil))))) (fBin kAt (fPk 3) (fBin kAt (fPk 13) (fNeg (fCst (.int 1)))))) (fPk 18))) (fRet (fCst (.bool false))) (fSkip)))
  (fSeq (fUnl [(.nm 19), (.nm 20)] (fLstO (fLc (fRng1 (fCst (.int 2))) (.nm 24) (fYes) (fTell (f1 kDictP (fLc (fRng1 (fCall F__law_next 2 (gDr 1 (gCons (fCst (.int 4)) (gNil))))) (.nm 14) (fYes) (fTup (fCons (fCall F__law_next 2 (gDr 1 (gCons (fVar 2) (gNil)))) (fCons (fCall F__law_next 2 (gDr 1 (gCons (fCst (.int 4)) (gNil)))) (fNil)))) [14]))) [24])))
  (fSeq (fSet 21 (fTell (f1 kDictP (fBin kAdd (fItems (fPk 19)) (fItems (fPk 20))))))
  (fIf (fOr (fBin (kEqX true) (fCall F_folded 2 (gCons (fVar 19) (gCons (fVar 20) (gNil)))) (fPk 21)) (fOr (fBin (kEqX true) (f1 kList (fCall F_folded 2 (gCons (fVar 19) (gCons (fVar 20) (gNil))))) (f1 kSorted (fPk 21))) (fOr (fBin (kEqX true) (fCall F_behind 2 (gCons (fCall F_behind 2 (gCons (fBin kAt (fPk 3) (fPk 11)) (gCons (fVar 19) (gNil)))) (gCons (fVar 20) (gNil)))) (fCall F_behind 2 (gCons (fBin kAt (fPk 3) (fPk 11)) (gCons (fCall F_folded 2 (gCons (fVar 19) (gCons (fVar 20) (gNil)))) (gNil))))) (fBin (kEqX true) (fCall F_behind 2 (gCons (fBin kAt (fPk 3) (fPk 11)) (gCons (fVar 19) (gNil)))) (fCall F__law_put 2 (gCons (fBin kAt (fPk 3) (fPk 11)) (gCons (fVar 19) (gNil)))))))) (fRet (fCst (.bool false))) (fSkip)))))))))))))
  (fFz 3 (fRet (fCall F__law_refused_right 1 (gCons (fVar 3) (gNil))))))))))))))
theorem sc_law : FnScope N_law ps_law (defScope st_law) := ⟨rfl, rfl, rfl, by decide +kernel, rfl, by decide +kernel, by decide +kernel⟩
structure Ev (K : PySem.W.Frag) (mg : Str → Option Value) (base : Heap) (T : List (Addr × Str)) (C fI gR c__law_refused_right p__law_refused_right : Addr) : Prop where
  B : Bl mg
  BT : BadX.BadTxt prog K mg C fI
  RT : RefTxt K mg gR (defBody st__law_refuses) (defScope st__law_refuses)
  c_MOST_BLOCKS : ∃ u, mg "MOST_BLOCKS" = some u ∧ RelV (.int 8) u
  c_MOST_DAY : ∃ u, mg "MOST_DAY" = some u ∧ RelV (.int 30) u
  c_MOST_ITEMS : ∃ u, mg "MOST_ITEMS" = some u ∧ RelV (.int 20) u
  c_MOST_SIZE : ∃ u, mg "MOST_SIZE" = some u ∧ RelV (.int 1000) u
  r_is_whole : Raw K mg "is_whole" st_is_whole ps_is_whole
  r_is_many : Raw K mg "is_many" st_is_many ps_is_many
  r__law_cell_at : Raw K mg "_law_cell_at" st__law_cell_at ps__law_cell_at
  r__law_draw : Raw K mg "_law_draw" st__law_draw ps__law_draw
  r__law_content : Raw K mg "_law_content" st__law_content ps__law_content
  r__law_put : Raw K mg "_law_put" st__law_put ps__law_put
  r_is_from : Raw K mg "is_from" st_is_from ps_is_from
  r__law_number : Raw K mg "_law_number" st__law_number ps__law_number
  r_is_day : Raw K mg "is_day" st_is_day ps_is_day
  r_is_versions : Raw K mg "is_versions" st_is_versions ps_is_versions
  r_is_content : Raw K mg "is_content" st_is_content ps_is_content
  r__law_next : Raw K mg "_law_next" st__law_next ps__law_next
  r_is_item : Raw K mg "is_item" st_is_item ps_is_item
  r_is_states : Raw K mg "is_states" st_is_states ps_is_states
  r_folded : Raw K mg "folded" st_folded ps_folded
  r_behind : Raw K mg "behind" st_behind ps_behind
  r__law_pick : Raw K mg "_law_pick" st__law_pick ps__law_pick
  r_is_store : Raw K mg "is_store" st_is_store ps_is_store
  r_check_states : Raw K mg "check_states" st_check_states ps_check_states
  r_content_of : Raw K mg "content_of" st_content_of ps_content_of
  r_ever_changed : Raw K mg "ever_changed" st_ever_changed ps_ever_changed
  r_store_of : Raw K mg "store_of" st_store_of ps_store_of
  r_restored : Raw K mg "restored" st_restored ps_restored
  r_closest_base : Raw K mg "closest_base" st_closest_base ps_closest_base
  r_folded_along : Raw K mg "folded_along" st_folded_along ps_folded_along
  r_wrongly_made : Raw K mg "wrongly_made" st_wrongly_made ps_wrongly_made
  rC__law_refused_right : RawC K mg "_law_refused_right" st__law_refused_right ps__law_refused_right c__law_refused_right
  l__law_refused_right : LamF mg base T c__law_refused_right p__law_refused_right "_law_refused_right.<locals>.<lambda>"
  r_law : Raw K mg "law" st_law ps_law
section
variable {w : World} {K : PySem.W.Frag} {mg : Str → Option Value} {base : Heap} {T : List (Addr × Str)} {C fI gR c__law_refused_right p__law_refused_right : Addr}
theorem ok_is_whole (V : Ev K mg base T C fI gR c__law_refused_right p__law_refused_right) : HasF prog w K mg base 1 "is_whole" ps_is_whole (spF K T C 1 F_is_whole) := hasF V.r_is_whole sc_is_whole rfl rfl rfl fun cdv A outer s H f E hg hr hu hcd hx => by
  have S := sc_is_whole
  exact cs_one (cs_ret (ce_and (w_isi V.B V.B.int isi_int rfl (cp_var (pv 0))) (ce_one (ce_not (w_isi V.B V.B.bool isi_bool rfl (cp_var (pv 0)))))))
theorem ok_is_many (V : Ev K mg base T C fI gR c__law_refused_right p__law_refused_right) : HasF prog w K mg base 1 "is_many" ps_is_many (spF K T C 2 F_is_many) := hasF V.r_is_many sc_is_many rfl rfl rfl fun cdv A outer s H f E hg hr hu hcd hx => by
  have S := sc_is_many
  exact cs_one (cs_ret (ce_and (w_isi V.B V.B.tuple isi_tuple rfl (cp_var (pv 0))) (ce_one (w_eq hu (cp_of (w_len V.B (cp_var (pv 0)))) (cp_var (pv 1))))))
theorem ok__law_cell_at (V : Ev K mg base T C fI gR c__law_refused_right p__law_refused_right) : HasF prog w K mg base 1 "_law_cell_at" ps__law_cell_at (spF K T C 2 F__law_cell_at) := hasF V.r__law_cell_at sc__law_cell_at rfl rfl rfl fun cdv A outer s H f E hg hr hu hcd hx => by
  have S := sc__law_cell_at
  exact cs_cons (cs_if (wt_lt (cp_var (pv 1)) (cp_of (w_len V.B (cp_var (pv 0))))) (cs_one (cs_ret (w_at hu (cp_var (pv 0)) (cp_var (pv 1))))) (cs_nil))
      (cs_one (cs_ret (ce_cst pe_int (fun _ => .int _))))
theorem ok__law_draw (V : Ev K mg base T C fI gR c__law_refused_right p__law_refused_right) : HasF prog w K mg base 1 "_law_draw" ps__law_draw (spF K T C 3 F__law_draw) := hasF V.r__law_draw sc__law_draw rfl rfl rfl fun cdv A outer s H f E hg hr hu hcd hx => by
  have S := sc__law_draw
  exact cs_cons (w_set S.nd (ce_tup (ca_cons (ce_cst pe_int (fun _ => .int _)) (ca_cons (ce_cst pe_int (fun _ => .int _)) (ca_cons (ce_cst pe_int (fun _ => .int _)) (ca_cons (ce_cst pe_int (fun _ => .int _)) (ca_cons (ce_cst pe_int (fun _ => .int _)) (ca_cons (ce_cst pe_int (fun _ => .int _)) (ca_cons (ce_cst pe_int (fun _ => .int _)) (ca_cons (ce_cst pe_int (fun _ => .int _)) (ca_cons (ce_cst pe_int (fun _ => .int _)) (ca_cons (ce_cst pe_int (fun _ => .int _)) (ca_cons (ce_cst pe_int (fun _ => .int _)) (ca_cons (ce_cst pe_int (fun _ => .int _)) (ca_cons (ce_cst pe_int (fun _ => .int _)) (ca_cons (ce_cst pe_int (fun _ => .int _)) (ca_cons (ce_cst pe_int (fun _ => .int _)) (ca_cons (ce_cst pe_int (fun _ => .int _)) (ca_nil) rfl) rfl) rfl) rfl) rfl) rfl) rfl) rfl) rfl) rfl) rfl) rfl) rfl) rfl) rfl) rfl)))
      (cs_one (cs_ret (w_mod (cp_of (w_mod (cp_of (w_int V.B (cp_of (w_add (cp_of (w_mulx (cp_var (pv 0)) (cp_of (ce_cst pe_int (fun _ => .int _))))) (cp_of (w_mulx (cp_var (pv 1)) (cp_of (ce_cst pe_int (fun _ => .int _))))))))) (cp_of (w_at hu (cp_var (pv 3)) (cp_of (w_mod (cp_of (w_int V.B (cp_var (pv 1)))) (cp_of (ce_cst pe_int (fun _ => .int _))))))))) (cp_var (pv 2)))))
theorem ok__law_content (V : Ev K mg base T C fI gR c__law_refused_right p__law_refused_right) : HasF prog w K mg base 1 "_law_content" ps__law_content (spF K T C 3 F__law_content) := hasF V.r__law_content sc__law_content rfl rfl rfl fun cdv A outer s H f E hg hr hu hcd hx => by
  have S := sc__law_content
  exact cs_one (cs_ret (ce_tell (w_dict V.B rfl (cp_ofF (w_lc [("block", 3), ("version", 4)] S.nd (tg_tp rfl (tgs_cons (tg_nm 3) (tgs_cons (tg_nm 4) tgs_nil))) (fun s1 H1 C1 cl1 fp1 => (pg_tup rfl (pgs_cons (w_pgn 3 S.nd) (pgs_cons (w_pgn 4 S.nd) pgs_nil)))) (w_enum V.B (w_at hu (cp_var (pv 0)) (cp_var (pv 2)))) (fun s1 H1 C1 cl1 fp1 => ct_if (PW.pt (ctw_or (ctp_isN (cp_var (pv 1))) (ctw_or1 (wt_ne hu (cp_of (w_at hu (cp_of (w_at hu (cp_var (pv 0)) (cp_var (pv 1)))) (cp_var (pv 3)))) (cp_var (pv 4))))))) (fun s1 H1 C1 cl1 fp1 => ce_tup (ca_cons (ce_var (pv 3)) (ca_cons (ce_var (pv 4)) (ca_nil) rfl) rfl)))))))
theorem ok__law_put (V : Ev K mg base T C fI gR c__law_refused_right p__law_refused_right) : HasF prog w K mg base 1 "_law_put" ps__law_put (spF K T C 2 F__law_put) := hasF V.r__law_put sc__law_put rfl rfl rfl fun cdv A outer s H f E hg hr hu hcd hx => by
  have S := sc__law_put
  exact cs_one (cs_ret (w_tuple V.B (cp_ofF (w_lc [("block", 2), ("version", 3)] S.nd (tg_tp rfl (tgs_cons (tg_nm 2) (tgs_cons (tg_nm 3) tgs_nil))) (fun s1 H1 C1 cl1 fp1 => (pg_tup rfl (pgs_cons (w_pgn 2 S.nd) (pgs_cons (w_pgn 3 S.nd) pgs_nil)))) (w_enum V.B (ce_var (pv 0))) (fun s1 H1 C1 cl1 fp1 => ct_yes) (fun s1 H1 C1 cl1 fp1 => ce_ite (wt_in hu (cp_var (pv 2)) (cp_var (pv 1))) (w_at hu (cp_var (pv 1)) (cp_var (pv 2))) (ce_var (pv 3)))))))
theorem ok_is_from (V : Ev K mg base T C fI gR c__law_refused_right p__law_refused_right) : HasF prog w K mg base 2 "is_from" ps_is_from (spF K T C 3 F_is_from) := hasF V.r_is_from sc_is_from rfl rfl rfl fun cdv A outer s H f E hg hr hu hcd hx => by
  have S := sc_is_from
  exact cs_one (cs_ret (ce_and (ce_callH (ok_is_whole V) hg hr hx (cg_cons (ce_var (pv 0)) (cg_nil))) (ce_one (cp_chn op_le op_le op_cmpI op_cmpI (cp_var (pv 1)) (cp_var (pv 0)) (cp_var (pv 2)) (nomark _)))))
theorem ok__law_number (V : Ev K mg base T C fI gR c__law_refused_right p__law_refused_right) : HasF prog w K mg base 2 "_law_number" ps__law_number (spF K T C 3 F__law_number) := hasF V.r__law_number sc__law_number rfl rfl rfl fun cdv A outer s H f E hg hr hu hcd hx => by
  have S := sc__law_number
  exact cs_cons (w_set S.nd (ce_cst pe_int (fun _ => .int _)))
      (cs_cons (w_for (tg_nm 4) (w_pgn 4 S.nd) (w_rng1 V.B (cp_of (w_mod (cp_of (w_int V.B (cp_var (pv 1)))) (cp_of (ce_cst pe_int (fun _ => .int _)))))) (cs_one (w_set S.nd (w_mulx (cp_var (pv 3)) (cp_of (ce_cst pe_int (fun _ => .int _)))))))
      (cs_cons (w_set S.nd (w_div (cp_of (w_sub (cp_var (pv 0)) (cp_of (w_pow (cp_of (ce_cst pe_int (fun _ => .int _))) (cp_of (ce_cst pe_int (fun _ => .int _))))))) (cp_var (pv 3))))
      (cs_cons (cs_if (wt_gt (cp_var (pv 5)) (cp_of (ce_cst pe_int (fun _ => .int _)))) (cs_one (cs_ret (w_mod (cp_of (w_mod (cp_of (w_int V.B (cp_var (pv 5)))) (cp_of (ce_cst pe_int (fun _ => .int _))))) (cp_var (pv 2))))) (cs_nil))
      (cs_cons (w_set S.nd (w_mod (cp_of (w_int V.B (cp_var (pv 0)))) (cp_of (ce_cst pe_int (fun _ => .int _)))))
      (cs_one (cs_ret (w_mod (cp_of (ce_callH (ok__law_draw V) hg hr hx (cg_cons (w_mulx (cp_of (w_add (cp_var (pv 6)) (cp_of (w_mulx (cp_of (ce_cst pe_int (fun _ => .int _))) (cp_var (pv 1)))))) (cp_of (w_add (cp_of (w_add (cp_var (pv 6)) (cp_of (w_mulx (cp_of (ce_cst pe_int (fun _ => .int _))) (cp_var (pv 1)))))) (cp_of (ce_cst pe_int (fun _ => .int _)))))) (cg_cons (w_add (cp_of (w_mod (cp_of (w_int V.B (cp_var (pv 1)))) (cp_of (ce_cst pe_int (fun _ => .int _))))) (cp_of (ce_cst pe_int (fun _ => .int _)))) (cg_cons (ce_cst pe_int (fun _ => .int _)) (cg_nil)))))) (cp_var (pv 2)))))))))
theorem ok_is_day (V : Ev K mg base T C fI gR c__law_refused_right p__law_refused_right) : HasF prog w K mg base 3 "is_day" ps_is_day (spF K T C 1 F_is_day) := hasF V.r_is_day sc_is_day rfl rfl rfl fun cdv A outer s H f E hg hr hu hcd hx => by
  have S := sc_is_day
  exact cs_one (cs_ret (ce_callH (ok_is_from V) hg hr hx (cg_cons (ce_var (pv 0)) (cg_cons (ce_cst pe_int (fun _ => .int _)) (cg_cons (ce_cst (w_gc V.c_MOST_DAY) (fun _ => .int _)) (cg_nil))))))
theorem ok_is_versions (V : Ev K mg base T C fI gR c__law_refused_right p__law_refused_right) : HasF prog w K mg base 3 "is_versions" ps_is_versions (spF K T C 1 F_is_versions) := hasF V.r_is_versions sc_is_versions rfl rfl rfl fun cdv A outer s H f E hg hr hu hcd hx => by
  have S := sc_is_versions
  exact cs_one (cs_ret (ce_and (w_isi V.B V.B.tuple isi_tuple rfl (cp_var (pv 0))) (ce_and (cp_chn op_le op_le op_cmpI op_cmpI (cp_of (ce_cst pe_int (fun _ => .int _))) (cp_of (w_len V.B (cp_var (pv 0)))) (cp_of (ce_cst (w_gc V.c_MOST_BLOCKS) (fun _ => .int _))) (nomark _)) (ce_one (w_all V.B rfl (cp_ofF (w_lc [("one", 1)] S.nd (tg_nm 1) (fun s1 H1 C1 cl1 fp1 => (w_pgn 1 S.nd)) (w_walk (ce_var (pv 0))) (fun s1 H1 C1 cl1 fp1 => ct_yes) (fun s1 H1 C1 cl1 fp1 => ce_callH (ok_is_from V) hg hr passes_no (cg_cons (ce_var (pv 1)) (cg_cons (ce_cst pe_int (fun _ => .int _)) (cg_cons (ce_cst pe_int (fun _ => .int _)) (cg_nil))))))))))))
theorem ok_is_content (V : Ev K mg base T C fI gR c__law_refused_right p__law_refused_right) : HasF prog w K mg base 3 "is_content" ps_is_content (spF K T C 1 F_is_content) := hasF V.r_is_content sc_is_content rfl rfl rfl fun cdv A outer s H f E hg hr hu hcd hx => by
  have S := sc_is_content
  exact cs_cons (cs_if (ct_not (ct_call (w_isi V.B V.B.dict isi_dict rfl (cp_var (pv 0))))) (cs_one (cs_ret (ce_cst pe_bl (fun _ => .bl _)))) (cs_nil))
      (cs_one (cs_ret (w_all V.B rfl (cp_ofF (w_lc [("block", 1), ("version", 2)] S.nd (tg_tp rfl (tgs_cons (tg_nm 1) (tgs_cons (tg_nm 2) tgs_nil))) (fun s1 H1 C1 cl1 fp1 => (pg_tup rfl (pgs_cons (w_pgn 1 S.nd) (pgs_cons (w_pgn 2 S.nd) pgs_nil)))) (ci_items (ce_var (pv 0))) (fun s1 H1 C1 cl1 fp1 => ct_yes) (fun s1 H1 C1 cl1 fp1 => ce_and (ce_callH (ok_is_from V) hg hr passes_no (cg_cons (ce_var (pv 1)) (cg_cons (ce_cst pe_int (fun _ => .int _)) (cg_cons (w_sub (cp_of (ce_cst (w_gc V.c_MOST_BLOCKS) (fun _ => .int _))) (cp_of (ce_cst pe_int (fun _ => .int _)))) (cg_nil))))) (ce_one (ce_callH (ok_is_from V) hg hr passes_no (cg_cons (ce_var (pv 2)) (cg_cons (ce_cst pe_int (fun _ => .int _)) (cg_cons (ce_cst pe_int (fun _ => .int _)) (cg_nil))))))))))))
theorem ok__law_next (V : Ev K mg base T C fI gR c__law_refused_right p__law_refused_right) : HasF prog w K mg base 3 "_law_next" ps__law_next (spF K T C 2 F__law_next) := hasF V.r__law_next sc__law_next rfl rfl rfl fun cdv A outer s H f E hg hr hu hcd hx => by
  have S := sc__law_next
  exact cs_cons (cs_drPut (pv 0) pe_int (w_add (cp_of (w_drAt 0 2 hu (pv 0) pe_int)) (cp_of (ce_cst pe_int (fun _ => .int _)))))
      (cs_cons (w_set S.nd (w_div (cp_of (w_drAt 0 2 hu (pv 0) pe_int)) (cp_of (ce_cst pe_int (fun _ => .int _)))))
      (cs_cons (w_set S.nd (w_add (cp_of (ce_callH (ok__law_cell_at V) hg hr hx (cg_cons (w_drAt 0 0 hu (pv 0) pe_int) (cg_cons (w_add (cp_of (w_drAt 0 1 hu (pv 0) pe_int)) (cp_var (pv 2))) (cg_nil))))) (cp_of (w_mulx (cp_of (ce_cst pe_int (fun _ => .int _))) (cp_var (pv 2))))))
      (cs_one (cs_ret (ce_callH (ok__law_number V) hg hr hx (cg_cons (ce_var (pv 3)) (cg_cons (w_add (cp_of (w_mod (cp_of (w_int V.B (cp_of (w_drAt 0 2 hu (pv 0) pe_int)))) (cp_of (ce_cst pe_int (fun _ => .int _))))) (cp_of (ce_cst pe_int (fun _ => .int _)))) (cg_cons (ce_var (pv 1)) (cg_nil)))))))))
theorem ok_is_item (V : Ev K mg base T C fI gR c__law_refused_right p__law_refused_right) : HasF prog w K mg base 4 "is_item" ps_is_item (spF K T C 1 F_is_item) := hasF V.r_is_item sc_is_item rfl rfl rfl fun cdv A outer s H f E hg hr hu hcd hx => by
  have S := sc_is_item
  exact cs_cons (cs_if (PW.pt (ctw_or (ct_not (ct_call (ce_callH (ok_is_many V) hg hr hx (cg_cons (ce_var (pv 0)) (cg_cons (ce_cst pe_int (fun _ => .int _)) (cg_nil)))))) (ctw_or (ct_not (ct_call (ce_callH (ok_is_day V) hg hr hx (cg_cons (w_at hu (cp_var (pv 0)) (cp_of (ce_cst pe_int (fun _ => .int _)))) (cg_nil))))) (ctw_or1 (ct_not (ct_call (ce_callH (ok_is_from V) hg hr hx (cg_cons (w_at hu (cp_var (pv 0)) (cp_of (ce_cst pe_int (fun _ => .int _)))) (cg_cons (ce_cst pe_int (fun _ => .int _)) (cg_cons (ce_cst (w_gc V.c_MOST_SIZE) (fun _ => .int _)) (cg_nil))))))))))) (cs_one (cs_ret (ce_cst pe_bl (fun _ => .bl _)))) (cs_nil))
      (cs_one (cs_ret (ce_or (cp_isN (cp_of (w_at hu (cp_var (pv 0)) (cp_of (ce_cst pe_int (fun _ => .int _)))))) (ce_one (ce_and (ce_callH (ok_is_day V) hg hr hx (cg_cons (w_at hu (cp_var (pv 0)) (cp_of (ce_cst pe_int (fun _ => .int _)))) (cg_nil))) (ce_one (w_ne hu (cp_of (w_at hu (cp_var (pv 0)) (cp_of (ce_cst pe_int (fun _ => .int _))))) (cp_of (w_at hu (cp_var (pv 0)) (cp_of (ce_cst pe_int (fun _ => .int _))))))))))))
theorem ok_is_states (V : Ev K mg base T C fI gR c__law_refused_right p__law_refused_right) : HasF prog w K mg base 4 "is_states" ps_is_states (spF K T C 1 F_is_states) := hasF V.r_is_states sc_is_states rfl rfl rfl fun cdv A outer s H f E hg hr hu hcd hx => by
  have S := sc_is_states
  exact cs_cons (cs_if (PW.pt (ctw_or (ct_not (ct_call (w_isi V.B V.B.dict isi_dict rfl (cp_var (pv 0))))) (ctw_or (ct_not (ctp_chn op_le op_le op_cmpI op_cmpI (cp_of (ce_cst pe_int (fun _ => .int _))) (cp_of (w_len V.B (cp_var (pv 0)))) (cp_of (ce_cst pe_int (fun _ => .int _))) (nomark _))) (ctw_or1 (ct_not (ct_call (w_all V.B rfl (cp_ofF (w_lc [("day", 1)] S.nd (tg_nm 1) (fun s1 H1 C1 cl1 fp1 => (w_pgn 1 S.nd)) (w_walk (ce_var (pv 0))) (fun s1 H1 C1 cl1 fp1 => ct_yes) (fun s1 H1 C1 cl1 fp1 => ce_callH (ok_is_day V) hg hr passes_no (cg_cons (ce_var (pv 1)) (cg_nil)))))))))))) (cs_one (cs_ret (ce_cst pe_bl (fun _ => .bl _)))) (cs_nil))
      (cs_cons (cs_if (ct_not (ct_call (w_all V.B rfl (cp_ofF (w_lc [("state", 2)] S.nd (tg_nm 2) (fun s2 H2 C2 cl2 fp2 => (w_pgn 2 S.nd)) (ci_values (ce_var (pv 0))) (fun s2 H2 C2 cl2 fp2 => ct_yes) (fun s2 H2 C2 cl2 fp2 => ce_callH (ok_is_versions V) hg hr passes_no (cg_cons (ce_var (pv 2)) (cg_nil)))))))) (cs_one (cs_ret (ce_cst pe_bl (fun _ => .bl _)))) (cs_nil))
      (cs_one (cs_ret (w_eq hu (cp_of (w_len V.B (cp_ofF (w_dc [("state", 2)] hu S.nd (tg_nm 2) (fun s3 H3 C3 cl3 fp3 => (w_pgn 2 S.nd)) (ci_values (ce_var (pv 0))) (fun s3 H3 C3 cl3 fp3 => ct_yes) (fun s3 H3 C3 cl3 fp3 => w_len V.B (cp_var (pv 2))) (fun s3 H3 C3 cl3 fp3 => ce_cst pe_bl (fun _ => .bl _)))))) (cp_of (ce_cst pe_int (fun _ => .int _)))))))
theorem ok_folded (V : Ev K mg base T C fI gR c__law_refused_right p__law_refused_right) : HasF prog w K mg base 4 "folded" ps_folded (spF K T C 2 F_folded) := hasF V.r_folded sc_folded rfl rfl rfl fun cdv A outer s H f E hg hr hu hcd hx => by
  have S := sc_folded
  exact cs_cons (w_for (tg_nm 2) (w_pgn 2 S.nd) (w_walk (ce_tup (ca_cons (ce_var (pv 0)) (ca_cons (ce_var (pv 1)) (ca_nil) rfl) rfl))) (cs_one (cs_if (ct_not (ct_call (ce_callH (ok_is_content V) hg hr hx (cg_cons (ce_var (pv 2)) (cg_nil))))) (cs_one (cs_raise rfl V.BT hr (takes_of rfl rfl rfl rfl) (ce_var (pv 2)))) (cs_nil))))
      (cs_cons (w_set S.nd (ce_tell (cf_mrg (ce_var (pv 0)) (ce_var (pv 1)))))
      (cs_one (cs_ret (ce_tell (w_dc [("block", 4)] hu S.nd (tg_nm 4) (fun s1 H1 C1 cl1 fp1 => (w_pgn 4 S.nd)) (w_walk (ce_ofF (w_sorted V.B rfl hu (cp_var (pv 3))))) (fun s1 H1 C1 cl1 fp1 => ct_yes) (fun s1 H1 C1 cl1 fp1 => ce_var (pv 4)) (fun s1 H1 C1 cl1 fp1 => w_at hu (cp_var (pv 3)) (cp_var (pv 4))))))))
theorem ok_behind (V : Ev K mg base T C fI gR c__law_refused_right p__law_refused_right) : HasF prog w K mg base 4 "behind" ps_behind (spF K T C 2 F_behind) := hasF V.r_behind sc_behind rfl rfl rfl fun cdv A outer s H f E hg hr hu hcd hx => by
  have S := sc_behind
  exact cs_cons (cs_if (ct_not (ct_call (ce_callH (ok_is_versions V) hg hr hx (cg_cons (ce_var (pv 0)) (cg_nil))))) (cs_one (cs_raise rfl V.BT hr (takes_of rfl rfl rfl rfl) (ce_var (pv 0)))) (cs_nil))
      (cs_cons (cs_if (PW.pt (ctw_or (ct_not (ct_call (ce_callH (ok_is_content V) hg hr hx (cg_cons (ce_var (pv 1)) (cg_nil))))) (ctw_or1 (ct_not (ct_call (w_all V.B rfl (cp_ofF (w_lc [("block", 2)] S.nd (tg_nm 2) (fun s1 H1 C1 cl1 fp1 => (w_pgn 2 S.nd)) (w_walk (ce_var (pv 1))) (fun s1 H1 C1 cl1 fp1 => ct_yes) (fun s1 H1 C1 cl1 fp1 => w_lt (cp_var (pv 2)) (cp_of (w_len V.B (cp_var (pv 0))))))))))))) (cs_one (cs_raise rfl V.BT hr (takes_of rfl rfl rfl rfl) (ce_var (pv 1)))) (cs_nil))
      (cs_one (cs_ret (w_tuple V.B (cp_ofF (w_lc [("block", 2), ("version", 3)] S.nd (tg_tp rfl (tgs_cons (tg_nm 2) (tgs_cons (tg_nm 3) tgs_nil))) (fun s2 H2 C2 cl2 fp2 => (pg_tup rfl (pgs_cons (w_pgn 2 S.nd) (pgs_cons (w_pgn 3 S.nd) pgs_nil)))) (w_enum V.B (ce_var (pv 0))) (fun s2 H2 C2 cl2 fp2 => ct_yes) (fun s2 H2 C2 cl2 fp2 => w_get2 hu (cp_var (pv 1)) (ce_var (pv 2)) (ce_var (pv 3)))))))))
theorem ok__law_pick (V : Ev K mg base T C fI gR c__law_refused_right p__law_refused_right) : HasF prog w K mg base 4 "_law_pick" ps__law_pick (spF K T C 2 F__law_pick) := hasF V.r__law_pick sc__law_pick rfl rfl rfl fun cdv A outer s H f E hg hr hu hcd hx => by
  have S := sc__law_pick
  exact cs_one (cs_ret (w_at hu (cp_var (pv 1)) (cp_of (ce_callH (ok__law_next V) hg hr hx (cg_dr (pv 0) (cg_cons (w_len V.B (cp_var (pv 1))) (cg_nil)))))))
theorem ok_is_store (V : Ev K mg base T C fI gR c__law_refused_right p__law_refused_right) : HasF prog w K mg base 5 "is_store" ps_is_store (spF K T C 1 F_is_store) := hasF V.r_is_store sc_is_store rfl rfl rfl fun cdv A outer s H f E hg hr hu hcd hx => by
  have S := sc_is_store
  exact cs_one (cs_ret (ce_and (w_isi V.B V.B.tuple isi_tuple rfl (cp_var (pv 0))) (ce_and (w_le (cp_of (w_len V.B (cp_var (pv 0)))) (cp_of (ce_cst (w_gc V.c_MOST_ITEMS) (fun _ => .int _)))) (ce_one (w_all V.B rfl (cp_ofF (w_lc [("item", 1)] S.nd (tg_nm 1) (fun s1 H1 C1 cl1 fp1 => (w_pgn 1 S.nd)) (w_walk (ce_var (pv 0))) (fun s1 H1 C1 cl1 fp1 => ct_yes) (fun s1 H1 C1 cl1 fp1 => ce_callH (ok_is_item V) hg hr passes_no (cg_cons (ce_var (pv 1)) (cg_nil))))))))))
theorem ok_check_states (V : Ev K mg base T C fI gR c__law_refused_right p__law_refused_right) : HasF prog w K mg base 5 "check_states" ps_check_states (spF K T C 1 F_check_states) := hasF V.r_check_states sc_check_states rfl rfl rfl fun cdv A outer s H f E hg hr hu hcd hx => by
  have S := sc_check_states
  exact cs_one (cs_if (ct_not (ct_call (ce_callH (ok_is_states V) hg hr hx (cg_cons (ce_var (pv 0)) (cg_nil))))) (cs_one (cs_raise rfl V.BT hr (takes_of rfl rfl rfl rfl) (ce_var (pv 0)))) (cs_nil))
theorem ok_content_of (V : Ev K mg base T C fI gR c__law_refused_right p__law_refused_right) : HasF prog w K mg base 6 "content_of" ps_content_of (spF K T C 3 F_content_of) := hasF V.r_content_of sc_content_of rfl rfl rfl fun cdv A outer s H f E hg hr hu hcd hx => by
  have S := sc_content_of
  exact cs_cons (cs_exp (ce_callH (ok_check_states V) hg hr hx (cg_cons (ce_var (pv 0)) (cg_nil))))
      (cs_cons (cs_if (PW.pt (ctw_and (ctp_notN (cp_var (pv 1))) (ctw_and1 (PW.pt (ctw_or (ct_not (ct_call (ce_callH (ok_is_day V) hg hr hx (cg_cons (ce_var (pv 1)) (cg_nil))))) (ctw_or1 (wt_notin hu (cp_var (pv 1)) (cp_var (pv 0))))))))) (cs_one (cs_raise rfl V.BT hr (takes_of rfl rfl rfl rfl) (ce_var (pv 1)))) (cs_nil))
      (cs_cons (cs_if (PW.pt (ctw_or (ct_not (ct_call (ce_callH (ok_is_day V) hg hr hx (cg_cons (ce_var (pv 2)) (cg_nil))))) (ctw_or1 (wt_notin hu (cp_var (pv 2)) (cp_var (pv 0)))))) (cs_one (cs_raise rfl V.BT hr (takes_of rfl rfl rfl rfl) (ce_var (pv 2)))) (cs_nil))
      (cs_cons (w_set S.nd (w_at hu (cp_var (pv 0)) (cp_var (pv 2))))
      (cs_one (cs_ret (ce_tell (w_dc [("block", 4)] hu S.nd (tg_nm 4) (fun s1 H1 C1 cl1 fp1 => (w_pgn 4 S.nd)) (w_rng1 V.B (cp_of (w_len V.B (cp_var (pv 3))))) (fun s1 H1 C1 cl1 fp1 => ct_if (PW.pt (ctw_or (ctp_isN (cp_var (pv 1))) (ctw_or1 (wt_ne hu (cp_of (w_at hu (cp_of (w_at hu (cp_var (pv 0)) (cp_var (pv 1)))) (cp_var (pv 4)))) (cp_of (w_at hu (cp_var (pv 3)) (cp_var (pv 4))))))))) (fun s1 H1 C1 cl1 fp1 => ce_var (pv 4)) (fun s1 H1 C1 cl1 fp1 => w_at hu (cp_var (pv 3)) (cp_var (pv 4))))))))))
theorem ok_ever_changed (V : Ev K mg base T C fI gR c__law_refused_right p__law_refused_right) : HasF prog w K mg base 6 "ever_changed" ps_ever_changed (spF K T C 1 F_ever_changed) := hasF V.r_ever_changed sc_ever_changed rfl rfl rfl fun cdv A outer s H f E hg hr hu hcd hx => by
  have S := sc_ever_changed
  exact cs_cons (cs_exp (ce_callH (ok_check_states V) hg hr hx (cg_cons (ce_var (pv 0)) (cg_nil))))
      (cs_cons (w_set S.nd (ce_ofF (w_lvals V.B rfl (cp_var (pv 0)))))
      (cs_one (cs_ret (w_tuple V.B (cp_ofF (w_lc [("block", 2)] S.nd (tg_nm 2) (fun s1 H1 C1 cl1 fp1 => (w_pgn 2 S.nd)) (w_rng1 V.B (cp_of (w_len V.B (cp_of (w_at hu (cp_var (pv 1)) (cp_of (ce_cst pe_int (fun _ => .int _)))))))) (fun s1 H1 C1 cl1 fp1 => ct_if (wt_gt (cp_of (w_len V.B (cp_ofF (w_dc [("row", 3)] hu S.nd (tg_nm 3) (fun s2 H2 C2 cl2 fp2 => (w_pgn 3 S.nd)) (w_walk (ce_var (pv 1))) (fun s2 H2 C2 cl2 fp2 => ct_yes) (fun s2 H2 C2 cl2 fp2 => w_at hu (cp_var (pv 3)) (cp_var (pv 2))) (fun s2 H2 C2 cl2 fp2 => ce_cst pe_bl (fun _ => .bl _)))))) (cp_of (ce_cst pe_int (fun _ => .int _))))) (fun s1 H1 C1 cl1 fp1 => ce_var (pv 2))))))))
theorem ok_store_of (V : Ev K mg base T C fI gR c__law_refused_right p__law_refused_right) : HasF prog w K mg base 7 "store_of" ps_store_of (spF K T C 2 F_store_of) := hasF V.r_store_of sc_store_of rfl rfl rfl fun cdv A outer s H f E hg hr hu hcd hx => by
  have S := sc_store_of
  exact cs_cons (cs_exp (ce_callH (ok_check_states V) hg hr hx (cg_cons (ce_var (pv 0)) (cg_nil))))
      (cs_cons (cs_if (PW.pt (ctw_or (ct_not (ct_call (w_isi V.B V.B.tuple isi_tuple rfl (cp_var (pv 1))))) (ctw_or1 (wt_gt (cp_of (w_len V.B (cp_var (pv 1)))) (cp_of (ce_cst pe_int (fun _ => .int _))))))) (cs_one (cs_raise rfl V.BT hr (takes_of rfl rfl rfl rfl) (ce_var (pv 1)))) (cs_nil))
      (cs_cons (w_for (tg_nm 2) (w_pgn 2 S.nd) (w_walk (ce_var (pv 1))) (cs_cons (cs_if (PW.pt (ctw_or (ct_not (ct_call (ce_callH (ok_is_many V) hg hr hx (cg_cons (ce_var (pv 2)) (cg_cons (ce_cst pe_int (fun _ => .int _)) (cg_nil)))))) (ctw_or (ct_not (ct_call (ce_callH (ok_is_item V) hg hr hx (cg_cons (ce_tup (ca_star (cp_var (pv 2)) (ca_cons (ce_cst pe_int (fun _ => .int _)) (ca_nil) rfl))) (cg_nil))))) (ctw_or1 (wt_notin hu (cp_of (w_at hu (cp_var (pv 2)) (cp_of (ce_cst pe_int (fun _ => .int _))))) (cp_var (pv 0))))))) (cs_one (cs_raise rfl V.BT hr (takes_of rfl rfl rfl rfl) (ce_var (pv 1)))) (cs_nil))
      (cs_one (cs_if (PW.pt (ctw_and (ctp_notN (cp_of (w_at hu (cp_var (pv 2)) (cp_of (ce_cst pe_int (fun _ => .int _)))))) (ctw_and1 (wt_notin hu (cp_of (w_at hu (cp_var (pv 2)) (cp_of (ce_cst pe_int (fun _ => .int _))))) (cp_var (pv 0)))))) (cs_one (cs_raise rfl V.BT hr (takes_of rfl rfl rfl rfl) (ce_var (pv 1)))) (cs_nil)))))
      (cs_one (cs_ret (w_tuple V.B (cp_ofF (w_lc [("one", 3), ("to", 4)] S.nd (tg_tp rfl (tgs_cons (tg_nm 3) (tgs_cons (tg_nm 4) tgs_nil))) (fun s1 H1 C1 cl1 fp1 => (pg_tup rfl (pgs_cons (w_pgn 3 S.nd) (pgs_cons (w_pgn 4 S.nd) pgs_nil)))) (w_walk (ce_var (pv 1))) (fun s1 H1 C1 cl1 fp1 => ct_yes) (fun s1 H1 C1 cl1 fp1 => ce_tup (ca_cons (ce_var (pv 3)) (ca_cons (ce_var (pv 4)) (ca_cons (w_len V.B (cp_of (ce_callH (ok_content_of V) hg hr passes_no (cg_cons (ce_var (pv 0)) (cg_cons (ce_var (pv 3)) (cg_cons (ce_var (pv 4)) (cg_nil))))))) (ca_nil) rfl) rfl) rfl)))))))))
theorem ok_restored (V : Ev K mg base T C fI gR c__law_refused_right p__law_refused_right) : HasF prog w K mg base 7 "restored" ps_restored (spF K T C 2 F_restored) := hasF V.r_restored sc_restored rfl rfl rfl fun cdv A outer s H f E hg hr hu hcd hx => by
  have S := sc_restored
  exact cs_cons (cs_exp (ce_callH (ok_check_states V) hg hr hx (cg_cons (ce_var (pv 0)) (cg_nil))))
      (cs_cons (cs_if (PW.pt (ctw_or (ct_not (ct_call (w_isi V.B V.B.tuple isi_tuple rfl (cp_var (pv 1))))) (ctw_or (wt_eq hu (cp_var (pv 1)) (cp_of (ce_tup (ca_nil)))) (ctw_or1 (ct_not (ct_call (w_all V.B rfl (cp_ofF (w_lc [("day", 5)] S.nd (tg_nm 5) (fun s1 H1 C1 cl1 fp1 => (w_pgn 5 S.nd)) (w_walk (ce_var (pv 1))) (fun s1 H1 C1 cl1 fp1 => ct_yes) (fun s1 H1 C1 cl1 fp1 => ce_and (ce_callH (ok_is_day V) hg hr passes_no (cg_cons (ce_var (pv 5)) (cg_nil))) (ce_one (w_in hu (cp_var (pv 5)) (cp_var (pv 0)))))))))))))) (cs_one (cs_raise rfl V.BT hr (takes_of rfl rfl rfl rfl) (ce_var (pv 1)))) (cs_nil))
      (cs_cons (cs_if (ct_call (w_any V.B rfl (cp_ofF (w_lc [("one", 2), ("to", 3)] S.nd (tg_tp rfl (tgs_cons (tg_nm 2) (tgs_cons (tg_nm 3) tgs_nil))) (fun s2 H2 C2 cl2 fp2 => (pg_tup rfl (pgs_cons (w_pgn 2 S.nd) (pgs_cons (w_pgn 3 S.nd) pgs_nil)))) (w_zip V.B (ce_var (pv 1)) (w_slc (cp_var (pv 1)) (po_so (cp_of (ce_cst pe_int (fun _ => .int _)))) po_no)) (fun s2 H2 C2 cl2 fp2 => ct_yes) (fun s2 H2 C2 cl2 fp2 => w_eq hu (cp_var (pv 2)) (cp_var (pv 3))))))) (cs_one (cs_raise rfl V.BT hr (takes_of rfl rfl rfl rfl) (ce_var (pv 1)))) (cs_nil))
      (cs_cons (w_set S.nd (w_at hu (cp_var (pv 0)) (cp_of (w_at hu (cp_var (pv 1)) (cp_of (ce_cst pe_int (fun _ => .int _)))))))
      (cs_cons (w_for (tg_tp rfl (tgs_cons (tg_nm 2) (tgs_cons (tg_nm 3) tgs_nil))) (pg_tup rfl (pgs_cons (w_pgn 2 S.nd) (pgs_cons (w_pgn 3 S.nd) pgs_nil))) (w_zip V.B (ce_var (pv 1)) (w_slc (cp_var (pv 1)) (po_so (cp_of (ce_cst pe_int (fun _ => .int _)))) po_no)) (cs_one (w_set S.nd (ce_callH (ok_behind V) hg hr hx (cg_cons (ce_var (pv 4)) (cg_cons (ce_callH (ok_content_of V) hg hr hx (cg_cons (ce_var (pv 0)) (cg_cons (ce_var (pv 2)) (cg_cons (ce_var (pv 3)) (cg_nil))))) (cg_nil)))))))
      (cs_one (cs_ret (ce_var (pv 4))))))))
theorem ok_closest_base (V : Ev K mg base T C fI gR c__law_refused_right p__law_refused_right) : HasF prog w K mg base 7 "closest_base" ps_closest_base (spF K T C 2 F_closest_base) := hasF V.r_closest_base sc_closest_base rfl rfl rfl fun cdv A outer s H f E hg hr hu hcd hx => by
  have S := sc_closest_base
  exact cs_cons (cs_exp (ce_callH (ok_check_states V) hg hr hx (cg_cons (ce_var (pv 0)) (cg_nil))))
      (cs_cons (cs_if (PW.pt (ctw_or (ct_not (ct_call (ce_callH (ok_is_day V) hg hr hx (cg_cons (ce_var (pv 1)) (cg_nil))))) (ctw_or1 (wt_notin hu (cp_var (pv 1)) (cp_var (pv 0)))))) (cs_one (cs_raise rfl V.BT hr (takes_of rfl rfl rfl rfl) (ce_var (pv 1)))) (cs_nil))
      (cs_cons (w_setLc 2 [("other", 3)] S.nd (tg_nm 3) (fun s1 H1 C1 cl1 fp1 => (w_pgn 3 S.nd)) (w_walk (ce_var (pv 0))) (fun s1 H1 C1 cl1 fp1 => ct_if (wt_ne hu (cp_var (pv 3)) (cp_var (pv 1)))) (fun s1 H1 C1 cl1 fp1 => ce_tup (ca_cons (w_len V.B (cp_of (ce_callH (ok_content_of V) hg hr passes_no (cg_cons (ce_var (pv 0)) (cg_cons (ce_var (pv 3)) (cg_cons (ce_var (pv 1)) (cg_nil))))))) (ca_cons (ce_var (pv 3)) (ca_nil) rfl) rfl)))
      (cs_one (cs_ret (ce_ite (wt_ne hu (cp_var (pv 2)) (cp_ofF (cf_lst (ca_nil)))) (ce_tup (ca_cons (w_at hu (cp_of (w_min V.B rfl hu (cp_var (pv 2)))) (cp_of (ce_cst pe_int (fun _ => .int _)))) (ca_cons (w_at hu (cp_of (w_min V.B rfl hu (cp_var (pv 2)))) (cp_of (ce_cst pe_int (fun _ => .int _)))) (ca_nil) rfl) rfl)) (ce_cst pe_non (fun _ => .non)))))))
theorem ok_folded_along (V : Ev K mg base T C fI gR c__law_refused_right p__law_refused_right) : HasF prog w K mg base 8 "folded_along" ps_folded_along (spF K T C 2 F_folded_along) := hasF V.r_folded_along sc_folded_along rfl rfl rfl fun cdv A outer s H f E hg hr hu hcd hx => by
  have S := sc_folded_along
  exact cs_cons (cs_exp (ce_callH (ok_restored V) hg hr hx (cg_cons (ce_var (pv 0)) (cg_cons (ce_var (pv 1)) (cg_nil)))))
      (cs_cons (w_set S.nd (ce_tell (cf_newD)))
      (cs_cons (w_for (tg_tp rfl (tgs_cons (tg_nm 3) (tgs_cons (tg_nm 4) tgs_nil))) (pg_tup rfl (pgs_cons (w_pgn 3 S.nd) (pgs_cons (w_pgn 4 S.nd) pgs_nil))) (w_zip V.B (ce_var (pv 1)) (w_slc (cp_var (pv 1)) (po_so (cp_of (ce_cst pe_int (fun _ => .int _)))) po_no)) (cs_one (w_set S.nd (ce_callH (ok_folded V) hg hr hx (cg_cons (ce_var (pv 2)) (cg_cons (ce_callH (ok_content_of V) hg hr hx (cg_cons (ce_var (pv 0)) (cg_cons (ce_var (pv 3)) (cg_cons (ce_var (pv 4)) (cg_nil))))) (cg_nil)))))))
      (cs_one (cs_ret (ce_var (pv 2))))))
theorem ok_wrongly_made (V : Ev K mg base T C fI gR c__law_refused_right p__law_refused_right) : HasF prog w K mg base 9 "wrongly_made" ps_wrongly_made (spF K T C 3 F_wrongly_made) := hasF V.r_wrongly_made sc_wrongly_made rfl rfl rfl fun cdv A outer s H f E hg hr hu hcd hx => by
  have S := sc_wrongly_made
  exact cs_cons (w_set S.nd (ce_callH (ok_folded_along V) hg hr hx (cg_cons (ce_var (pv 0)) (cg_cons (ce_var (pv 1)) (cg_nil)))))
      (cs_cons (cs_if (PW.pt (ctw_or (ct_not (ct_call (ce_callH (ok_is_day V) hg hr hx (cg_cons (ce_var (pv 2)) (cg_nil))))) (ctw_or1 (wt_notin hu (cp_var (pv 2)) (cp_var (pv 0)))))) (cs_one (cs_raise rfl V.BT hr (takes_of rfl rfl rfl rfl) (ce_var (pv 2)))) (cs_nil))
      (cs_one (cs_ret (ce_callH (ok_behind V) hg hr hx (cg_cons (w_at hu (cp_var (pv 0)) (cp_var (pv 2))) (cg_cons (ce_var (pv 3)) (cg_nil)))))))
theorem ok__law_refused_right (V : Ev K mg base T C fI gR c__law_refused_right p__law_refused_right) : HasF prog w K mg base 12 "_law_refused_right" ps__law_refused_right (spF K T C 1 F__law_refused_right) := hasFC V.rC__law_refused_right sc__law_refused_right rfl rfl rfl fun A outer s H f E hg hr hu hx => by
  have S := sc__law_refused_right
  exact cs_cons (w_for (tg_nm 2) (w_pgn 2 S.nd) (w_walk (ce_tup (ca_cons (ce_cst pe_non (fun _ => .non)) (ca_cons (ce_tell (cf_newD)) (ca_cons (ce_tell (w_dis (ppf_cons (cp_of (ce_cst pe_int (fun _ => .int _))) (ce_tup (ca_nil)) (ppf_nil)))) (ca_cons (ce_tell (w_dis (ppf_cons (cp_of (ce_cst pe_int (fun _ => .int _))) (ce_tup (ca_cons (ce_cst pe_int (fun _ => .int _)) (ca_nil) rfl)) (ppf_nil)))) (ca_cons (ce_tell (w_dis (ppf_cons (cp_of (ce_cst pe_int (fun _ => .int _))) (ce_tup (ca_cons (ce_cst pe_int (fun _ => .int _)) (ca_nil) rfl)) (ppf_cons (cp_of (ce_cst pe_int (fun _ => .int _))) (ce_tup (ca_cons (ce_cst pe_int (fun _ => .int _)) (ca_cons (ce_cst pe_int (fun _ => .int _)) (ca_nil) rfl) rfl)) (ppf_nil))))) (ca_cons (ce_tell (w_dis (ppf_cons (cp_of (ce_cst pe_int (fun _ => .int _))) (ce_tup (ca_cons (ce_cst pe_int (fun _ => .int _)) (ca_nil) rfl)) (ppf_nil)))) (ca_cons (ce_tell (w_dis (ppf_cons (cp_of (ce_cst pe_int (fun _ => .int _))) (ce_ofF (cf_lst (ca_cons (ce_cst pe_int (fun _ => .int _)) (ca_nil) rfl))) (ppf_nil)))) (ca_cons (ce_tell (w_dis (ppf_cons (cp_of (ce_cst pe_int (fun _ => .int _))) (w_mulx (cp_of (ce_tup (ca_cons (ce_cst pe_int (fun _ => .int _)) (ca_nil) rfl))) (cp_of (ce_cst pe_int (fun _ => .int _)))) (ppf_nil)))) (ca_cons (ce_tell (w_dict V.B rfl (cp_ofF (w_lc [("day", 1)] S.nd (tg_nm 1) (fun s1 H1 C1 cl1 fp1 => (w_pgn 1 S.nd)) (w_rng1 V.B (cp_of (ce_cst pe_int (fun _ => .int _)))) (fun s1 H1 C1 cl1 fp1 => ct_yes) (fun s1 H1 C1 cl1 fp1 => ce_tup (ca_cons (ce_var (pv 1)) (ca_cons (ce_tup (ca_cons (ce_cst pe_int (fun _ => .int _)) (ca_nil) rfl)) (ca_nil) rfl) rfl)))))) (ca_nil) rfl) rfl) rfl) rfl) rfl) rfl) rfl) rfl) rfl))) (cs_cons (cs_if (ct_call (ce_callH (ok_is_states V) hg hr hx (cg_cons (ce_var (pv 2)) (cg_nil)))) (cs_one (cs_ret (ce_cst pe_bl (fun _ => .bl _)))) (cs_nil))
      (cs_cons (cs_if (ct_not (ct_call (w_refu 9 V.RT V.BT V.l__law_refused_right hg hr (fun A1 o1 s1 H1 E1 f1 c1 hg hr hu hx => ce_callH (ok_content_of V) hg hr hx (cg_cons (ce_var (pv 2)) (cg_cons (ce_cst pe_non (fun _ => .non)) (cg_cons (ce_cst pe_non (fun _ => .non)) (cg_nil))))) (ce_var (pv 2))))) (cs_one (cs_ret (ce_cst pe_bl (fun _ => .bl _)))) (cs_nil))
      (cs_cons (cs_if (ct_not (ct_call (w_refu 9 V.RT V.BT V.l__law_refused_right hg hr (fun A1 o1 s1 H1 E1 f1 c1 hg hr hu hx => ce_callH (ok_store_of V) hg hr hx (cg_cons (ce_var (pv 2)) (cg_cons (ce_cst pe_non (fun _ => .non)) (cg_nil)))) (ce_var (pv 2))))) (cs_one (cs_ret (ce_cst pe_bl (fun _ => .bl _)))) (cs_nil))
      (cs_cons (cs_if (ct_not (ct_call (w_refu 9 V.RT V.BT V.l__law_refused_right hg hr (fun A1 o1 s1 H1 E1 f1 c1 hg hr hu hx => ce_callH (ok_restored V) hg hr hx (cg_cons (ce_var (pv 2)) (cg_cons (ce_cst pe_non (fun _ => .non)) (cg_nil)))) (ce_var (pv 2))))) (cs_one (cs_ret (ce_cst pe_bl (fun _ => .bl _)))) (cs_nil))
      (cs_cons (cs_if (ct_not (ct_call (w_refu 9 V.RT V.BT V.l__law_refused_right hg hr (fun A1 o1 s1 H1 E1 f1 c1 hg hr hu hx => ce_callH (ok_ever_changed V) hg hr hx (cg_cons (ce_var (pv 2)) (cg_nil))) (ce_var (pv 2))))) (cs_one (cs_ret (ce_cst pe_bl (fun _ => .bl _)))) (cs_nil))
      (cs_one (cs_if (ct_not (ct_call (w_refu 9 V.RT V.BT V.l__law_refused_right hg hr (fun A1 o1 s1 H1 E1 f1 c1 hg hr hu hx => ce_callH (ok_closest_base V) hg hr hx (cg_cons (ce_var (pv 2)) (cg_cons (ce_cst pe_non (fun _ => .non)) (cg_nil)))) (ce_var (pv 2))))) (cs_one (cs_ret (ce_cst pe_bl (fun _ => .bl _)))) (cs_nil)))))))))
      (cs_cons (w_for (tg_nm 2) (w_pgn 2 S.nd) (w_walk (ce_tup (ca_cons (ce_cst pe_int (fun _ => .int _)) (ca_cons (w_neg (ce_cst pe_int (fun _ => .int _))) (ca_cons (ce_cst pe_bl (fun _ => .bl _)) (ca_nil) rfl) rfl) rfl))) (cs_one (cs_if (ct_not (ct_call (w_refu 9 V.RT V.BT V.l__law_refused_right hg hr (fun A1 o1 s1 H1 E1 f1 c1 hg hr hu hx => ce_callH (ok_content_of V) hg hr hx (cg_cons (ce_var (pv 0)) (cg_cons (ce_var (pv 2)) (cg_cons (ce_cst pe_non (fun _ => .non)) (cg_nil))))) (ce_var (pv 2))))) (cs_one (cs_ret (ce_cst pe_bl (fun _ => .bl _)))) (cs_nil))))
      (cs_cons (w_for (tg_nm 2) (w_pgn 2 S.nd) (w_walk (ce_tup (ca_cons (ce_cst pe_non (fun _ => .non)) (ca_cons (ce_cst pe_int (fun _ => .int _)) (ca_nil) rfl) rfl))) (cs_cons (cs_if (ct_not (ct_call (w_refu 9 V.RT V.BT V.l__law_refused_right hg hr (fun A1 o1 s1 H1 E1 f1 c1 hg hr hu hx => ce_callH (ok_content_of V) hg hr hx (cg_cons (ce_var (pv 0)) (cg_cons (ce_cst pe_non (fun _ => .non)) (cg_cons (ce_var (pv 2)) (cg_nil))))) (ce_var (pv 2))))) (cs_one (cs_ret (ce_cst pe_bl (fun _ => .bl _)))) (cs_nil))
      (cs_cons (cs_if (ct_not (ct_call (w_refu 9 V.RT V.BT V.l__law_refused_right hg hr (fun A1 o1 s1 H1 E1 f1 c1 hg hr hu hx => ce_callH (ok_closest_base V) hg hr hx (cg_cons (ce_var (pv 0)) (cg_cons (ce_var (pv 2)) (cg_nil)))) (ce_var (pv 2))))) (cs_one (cs_ret (ce_cst pe_bl (fun _ => .bl _)))) (cs_nil))
      (cs_one (cs_if (ct_not (ct_call (w_refu 9 V.RT V.BT V.l__law_refused_right hg hr (fun A1 o1 s1 H1 E1 f1 c1 hg hr hu hx => ce_callH (ok_wrongly_made V) hg hr hx (cg_cons (ce_var (pv 0)) (cg_cons (ce_tup (ca_cons (w_at hu (cp_ofF (w_sorted V.B rfl hu (cp_var (pv 0)))) (cp_of (ce_cst pe_int (fun _ => .int _)))) (ca_nil) rfl)) (cg_cons (ce_var (pv 2)) (cg_nil))))) (ce_var (pv 2))))) (cs_one (cs_ret (ce_cst pe_bl (fun _ => .bl _)))) (cs_nil))))))
      (cs_cons (w_set S.nd (w_at hu (cp_ofF (w_sorted V.B rfl hu (cp_var (pv 0)))) (cp_of (ce_cst pe_int (fun _ => .int _)))))
      (cs_cons (w_for (tg_nm 2) (w_pgn 2 S.nd) (w_walk (ce_tup (ca_cons (ce_cst pe_non (fun _ => .non)) (ca_cons (ce_ofF (cf_lst (ca_nil))) (ca_cons (ce_tell (w_dis (ppf_cons (cp_of (ce_cst pe_int (fun _ => .int _))) (ce_cst pe_int (fun _ => .int _)) (ppf_nil)))) (ca_cons (ce_tell (w_dis (ppf_cons (cp_of (ce_cst pe_int (fun _ => .int _))) (ce_cst pe_int (fun _ => .int _)) (ppf_nil)))) (ca_nil) rfl) rfl) rfl) rfl))) (cs_cons (cs_if (ct_not (ct_call (w_refu 9 V.RT V.BT V.l__law_refused_right hg hr (fun A1 o1 s1 H1 E1 f1 c1 hg hr hu hx => ce_callH (ok_folded V) hg hr hx (cg_cons (ce_var (pv 2)) (cg_cons (ce_cst pe_non (fun _ => .non)) (cg_nil)))) (ce_var (pv 2))))) (cs_one (cs_ret (ce_cst pe_bl (fun _ => .bl _)))) (cs_nil))
      (cs_cons (cs_if (ct_not (ct_call (w_refu 9 V.RT V.BT V.l__law_refused_right hg hr (fun A1 o1 s1 H1 E1 f1 c1 hg hr hu hx => ce_callH (ok_folded V) hg hr hx (cg_cons (ce_tell (cf_newD)) (cg_cons (ce_var (pv 2)) (cg_nil)))) (ce_var (pv 2))))) (cs_one (cs_ret (ce_cst pe_bl (fun _ => .bl _)))) (cs_nil))
      (cs_one (cs_if (ct_not (ct_call (w_refu 9 V.RT V.BT V.l__law_refused_right hg hr (fun A1 o1 s1 H1 E1 f1 c1 hg hr hu hx => ce_callH (ok_behind V) hg hr hx (cg_cons (ce_tup (ca_cons (ce_cst pe_int (fun _ => .int _)) (ca_nil) rfl)) (cg_cons (ce_var (pv 2)) (cg_nil)))) (ce_var (pv 2))))) (cs_one (cs_ret (ce_cst pe_bl (fun _ => .bl _)))) (cs_nil))))))
      (cs_cons (w_for (tg_nm 2) (w_pgn 2 S.nd) (w_walk (ce_tup (ca_cons (ce_cst pe_non (fun _ => .non)) (ca_cons (ce_ofF (cf_lst (ca_nil))) (ca_cons (ce_tup (ca_cons (ce_tup (ca_cons (ce_var (pv 1)) (ca_cons (ce_var (pv 1)) (ca_nil) rfl) rfl)) (ca_nil) rfl)) (ca_cons (ce_tup (ca_cons (ce_tup (ca_cons (ce_cst pe_non (fun _ => .non)) (ca_cons (ce_cst pe_int (fun _ => .int _)) (ca_nil) rfl) rfl)) (ca_nil) rfl)) (ca_cons (ce_tup (ca_cons (ce_tup (ca_cons (ce_cst pe_int (fun _ => .int _)) (ca_cons (ce_var (pv 1)) (ca_nil) rfl) rfl)) (ca_nil) rfl)) (ca_cons (w_mulx (cp_of (ce_tup (ca_cons (ce_tup (ca_cons (ce_cst pe_non (fun _ => .non)) (ca_cons (ce_var (pv 1)) (ca_nil) rfl) rfl)) (ca_nil) rfl))) (cp_of (ce_cst pe_int (fun _ => .int _)))) (ca_cons (ce_tup (ca_cons (ce_tup (ca_cons (ce_var (pv 1)) (ca_nil) rfl)) (ca_nil) rfl)) (ca_nil) rfl) rfl) rfl) rfl) rfl) rfl) rfl))) (cs_one (cs_if (ct_not (ct_call (w_refu 9 V.RT V.BT V.l__law_refused_right hg hr (fun A1 o1 s1 H1 E1 f1 c1 hg hr hu hx => ce_callH (ok_store_of V) hg hr hx (cg_cons (ce_var (pv 0)) (cg_cons (ce_var (pv 2)) (cg_nil)))) (ce_var (pv 2))))) (cs_one (cs_ret (ce_cst pe_bl (fun _ => .bl _)))) (cs_nil))))
      (cs_cons (w_for (tg_nm 2) (w_pgn 2 S.nd) (w_walk (ce_tup (ca_cons (ce_cst pe_non (fun _ => .non)) (ca_cons (ce_tup (ca_nil)) (ca_cons (ce_tup (ca_cons (ce_var (pv 1)) (ca_cons (ce_var (pv 1)) (ca_nil) rfl) rfl)) (ca_cons (ce_tup (ca_cons (ce_cst pe_int (fun _ => .int _)) (ca_nil) rfl)) (ca_cons (ce_ofF (cf_lst (ca_cons (ce_var (pv 1)) (ca_nil) rfl))) (ca_nil) rfl) rfl) rfl) rfl) rfl))) (cs_cons (cs_if (ct_not (ct_call (w_refu 9 V.RT V.BT V.l__law_refused_right hg hr (fun A1 o1 s1 H1 E1 f1 c1 hg hr hu hx => ce_callH (ok_restored V) hg hr hx (cg_cons (ce_var (pv 0)) (cg_cons (ce_var (pv 2)) (cg_nil)))) (ce_var (pv 2))))) (cs_one (cs_ret (ce_cst pe_bl (fun _ => .bl _)))) (cs_nil))
      (cs_one (cs_if (ct_not (ct_call (w_refu 9 V.RT V.BT V.l__law_refused_right hg hr (fun A1 o1 s1 H1 E1 f1 c1 hg hr hu hx => ce_callH (ok_folded_along V) hg hr hx (cg_cons (ce_var (pv 0)) (cg_cons (ce_var (pv 2)) (cg_nil)))) (ce_var (pv 2))))) (cs_one (cs_ret (ce_cst pe_bl (fun _ => .bl _)))) (cs_nil)))))
      (cs_cons (cs_if (ct_not (ct_call (w_refu 9 V.RT V.BT V.l__law_refused_right hg hr (fun A1 o1 s1 H1 E1 f1 c1 hg hr hu hx => ce_callH (ok_behind V) hg hr hx (cg_cons (ce_tup (ca_nil)) (cg_cons (ce_cst pe_non (fun _ => .non)) (cg_nil)))) (ce_tup (ca_nil))))) (cs_one (cs_ret (ce_cst pe_bl (fun _ => .bl _)))) (cs_nil))
      (cs_one (cs_ret (w_refu 9 V.RT V.BT V.l__law_refused_right hg hr (fun A1 o1 s1 H1 E1 f1 c1 hg hr hu hx => ce_callH (ok_behind V) hg hr hx (cg_cons (ce_tup (ca_cons (ce_cst pe_int (fun _ => .int _)) (ca_nil) rfl)) (cg_cons (ce_tell (w_dis (ppf_cons (cp_of (ce_cst pe_int (fun _ => .int _))) (ce_cst pe_int (fun _ => .int _)) (ppf_nil)))) (cg_nil)))) (ce_tell (w_dis (ppf_cons (cp_of (ce_cst pe_int (fun _ => .int _))) (ce_cst pe_int (fun _ => .int _)) (ppf_nil))))))))))))))
theorem ok_law (V : Ev K mg base T C fI gR c__law_refused_right p__law_refused_right) : ∃ f fd, FnG prog w K mg base 13 f fd ps_law (spLaw K T C 24 1 b_law) ∧ mg "law" = some (.ref f) ∧ Binds K fd ps_law [] ∧ (∃ oc od osl, K.lookup f = some ⟨oc, od, .func fd, osl⟩) := by
  obtain ⟨f, fd, Fu, h1, h2, h3⟩ := V.r_law
  refine ⟨f, fd, lawF_of (N := N_law) (m := 24) (j := 1) Fu sc_law rfl (by decide) rfl fun cdv A outer s H E hg hr hcd => ?_, h1, h3, (let ⟨oc, od, _, _, _, _, _, _, osl, _, lk, _⟩ := Fu.ex; ⟨oc, od, osl, lk⟩)⟩
  have S := sc_law
  have hu : (A.deeper (envOfC "law" (defScope st_law) s.heap.objs.size f cdv)).units + 200 < cLine := by have := hr.un; omega
  have hx : Passes (L2.CX prog w) (cxOf (L2.CX prog w) prog w K mg base N_law "law" (defScope st_law) f cdv A outer s H E) E := passes_call (takes_of rfl rfl rfl rfl) fun _ _ _ _ h => h
  exact ⟨w_top S.nd (pv 0) pe_int pe_int pe_int, cs_cons (w_parT (cm_sh (w_add (cp_of (ce_cst pe_int (fun _ => .int _))) (cp_of (ce_callH (ok__law_next V) hg hr hx (cg_dr (pv 1) (cg_cons (ce_cst pe_int (fun _ => .int _)) (cg_nil)))))) (cm_ow (cf_newD) (cm_nil))) (pgs_cons (w_pgn 2 S.nd) (pgs_cons (w_pgn 3 S.nd) pgs_nil)) gs2 rfl (by decide))
      (cs_cons (w_for (tg_nm 4) (w_pgn 4 S.nd) (w_rng1 V.B (cp_of (w_add (cp_of (ce_cst pe_int (fun _ => .int _))) (cp_of (ce_callH (ok__law_next V) hg hr hx (cg_dr (pv 1) (cg_cons (ce_cst pe_int (fun _ => .int _)) (cg_nil)))))))) (cs_one (w_put hu (pv 3) (cp_of (ce_callH (ok__law_next V) hg hr hx (cg_dr (pv 1) (cg_cons (ce_cst pe_int (fun _ => .int _)) (cg_nil))))) (w_tuple V.B (cp_ofF (w_lc [("block", 22)] S.nd (tg_nm 22) (fun s1 H1 C1 cl1 fp1 => (w_pgn 22 S.nd)) (w_rng1 V.B (cp_var (pv 2))) (fun s1 H1 C1 cl1 fp1 => ct_yes) (fun s1 H1 C1 cl1 fp1 => ce_callH (ok__law_next V) hg hr passes_no (cg_dr (pv 1) (cg_cons (ce_cst pe_int (fun _ => .int _)) (cg_nil))))))))))
      (cs_cons (w_set S.nd (ce_ofF (w_sorted V.B rfl hu (cp_var (pv 3)))))
      (cs_cons (w_frz 3 (cs_if (PW.pt (ctw_or (ct_not (ct_call (ce_callH (ok_is_states V) hg hr hx (cg_cons (ce_var (pv 3)) (cg_nil))))) (ctw_or1 (wt_ne hu (cp_of (ce_callH (ok_ever_changed V) hg hr hx (cg_cons (ce_var (pv 3)) (cg_nil)))) (cp_of (w_tuple V.B (cp_ofF (w_lc [("block", 22)] S.nd (tg_nm 22) (fun s2 H2 C2 cl2 fp2 => (w_pgn 22 S.nd)) (w_rng1 V.B (cp_var (pv 2))) (fun s2 H2 C2 cl2 fp2 => ct_if (wt_gt (cp_of (w_lenset V.B rfl (cp_ofF (w_lc [("day", 6)] S.nd (tg_nm 6) (fun s3 H3 C3 cl3 fp3 => (w_pgn 6 S.nd)) (w_walk (ce_var (pv 5))) (fun s3 H3 C3 cl3 fp3 => ct_yes) (fun s3 H3 C3 cl3 fp3 => w_at hu (cp_of (w_at hu (cp_var (pv 3)) (cp_var (pv 6)))) (cp_var (pv 22))))))) (cp_of (ce_cst pe_int (fun _ => .int _))))) (fun s2 H2 C2 cl2 fp2 => ce_var (pv 22)))))))))) (cs_one (cs_ret (ce_cst pe_bl (fun _ => .bl _)))) (cs_nil)))
      (cs_cons (w_set S.nd (ce_ofF (cf_lst (ca_nil))))
      (cs_cons (w_for (tg_nm 8) (w_pgn 8 S.nd) (w_walk (w_add (cp_ofF (cf_lst (ca_cons (ce_cst pe_non (fun _ => .non)) (ca_nil) rfl))) (cp_var (pv 5)))) (cs_one (w_for (tg_nm 9) (w_pgn 9 S.nd) (w_walk (ce_var (pv 5))) (cs_cons (w_frz 3 (w_set S.nd (ce_callH (ok__law_content V) hg hr hx (cg_cons (ce_var (pv 3)) (cg_cons (ce_var (pv 8)) (cg_cons (ce_var (pv 9)) (cg_nil)))))))
      (cs_cons (w_frz 3 (cs_if (PW.pt (ctw_or (wt_ne hu (cp_of (ce_callH (ok_content_of V) hg hr hx (cg_cons (ce_var (pv 3)) (cg_cons (ce_var (pv 8)) (cg_cons (ce_var (pv 9)) (cg_nil)))))) (cp_var (pv 10))) (ctw_or (wt_ne hu (cp_ofF (w_list V.B rfl (cp_of (ce_callH (ok_content_of V) hg hr hx (cg_cons (ce_var (pv 3)) (cg_cons (ce_var (pv 8)) (cg_cons (ce_var (pv 9)) (cg_nil)))))))) (cp_ofF (w_sorted V.B rfl hu (cp_var (pv 10))))) (ctw_or1 (PW.pt (ctw_and (ctp_notN (cp_var (pv 8))) (ctw_and1 (wt_ne hu (cp_of (ce_callH (ok_behind V) hg hr hx (cg_cons (w_at hu (cp_var (pv 3)) (cp_var (pv 8))) (cg_cons (ce_var (pv 10)) (cg_nil))))) (cp_of (w_at hu (cp_var (pv 3)) (cp_var (pv 9)))))))))))) (cs_one (cs_ret (ce_cst pe_bl (fun _ => .bl _)))) (cs_nil)))
      (cs_one (w_set S.nd (w_add (cp_var (pv 7)) (cp_of (ce_ite (wt_ne hu (cp_var (pv 8)) (cp_var (pv 9))) (ce_ofF (cf_lst (ca_cons (ce_tup (ca_cons (ce_var (pv 8)) (ca_cons (ce_var (pv 9)) (ca_nil) rfl) rfl)) (ca_nil) rfl))) (ce_ofF (cf_lst (ca_nil)))))))))))))
      (cs_cons (w_set S.nd (w_tuple V.B (cp_of (w_slc (cp_ofF (w_lc [("pair", 23)] S.nd (tg_nm 23) (fun s4 H4 C4 cl4 fp4 => (w_pgn 23 S.nd)) (w_walk (ce_var (pv 7))) (fun s4 H4 C4 cl4 fp4 => ct_if (wt_eq hu (cp_of (ce_callH (ok__law_next V) hg hr passes_no (cg_dr (pv 1) (cg_cons (ce_cst pe_int (fun _ => .int _)) (cg_nil))))) (cp_of (ce_cst pe_int (fun _ => .int _))))) (fun s4 H4 C4 cl4 fp4 => ce_var (pv 23)))) po_no (po_so (cp_of (ce_cst pe_int (fun _ => .int _))))))))
      (cs_cons (w_frz 3 (cs_if (PW.pt (ctw_or (wt_ne hu (cp_of (ce_callH (ok_store_of V) hg hr hx (cg_cons (ce_var (pv 3)) (cg_cons (ce_var (pv 7)) (cg_nil))))) (cp_of (w_tuple V.B (cp_ofF (w_lc [("one", 8), ("to", 9)] S.nd (tg_tp rfl (tgs_cons (tg_nm 8) (tgs_cons (tg_nm 9) tgs_nil))) (fun s5 H5 C5 cl5 fp5 => (pg_tup rfl (pgs_cons (w_pgn 8 S.nd) (pgs_cons (w_pgn 9 S.nd) pgs_nil)))) (w_walk (ce_var (pv 7))) (fun s5 H5 C5 cl5 fp5 => ct_yes) (fun s5 H5 C5 cl5 fp5 => ce_tup (ca_cons (ce_var (pv 8)) (ca_cons (ce_var (pv 9)) (ca_cons (w_len V.B (cp_of (ce_callH (ok__law_content V) hg hr passes_no (cg_cons (ce_var (pv 3)) (cg_cons (ce_var (pv 8)) (cg_cons (ce_var (pv 9)) (cg_nil))))))) (ca_nil) rfl) rfl) rfl))))))) (ctw_or1 (ct_not (ct_call (ce_callH (ok_is_store V) hg hr hx (cg_cons (ce_callH (ok_store_of V) hg hr hx (cg_cons (ce_var (pv 3)) (cg_cons (ce_var (pv 7)) (cg_nil)))) (cg_nil)))))))) (cs_one (cs_ret (ce_cst pe_bl (fun _ => .bl _)))) (cs_nil)))
      (cs_cons (w_for (tg_nm 6) (w_pgn 6 S.nd) (w_walk (ce_var (pv 5))) (cs_cons (w_frz 3 (w_setLc 12 [("other", 11)] S.nd (tg_nm 11) (fun s6 H6 C6 cl6 fp6 => (w_pgn 11 S.nd)) (w_walk (ce_var (pv 5))) (fun s6 H6 C6 cl6 fp6 => ct_if (wt_ne hu (cp_var (pv 11)) (cp_var (pv 6)))) (fun s6 H6 C6 cl6 fp6 => ce_tup (ca_cons (w_len V.B (cp_of (ce_callH (ok__law_content V) hg hr passes_no (cg_cons (ce_var (pv 3)) (cg_cons (ce_var (pv 11)) (cg_cons (ce_var (pv 6)) (cg_nil))))))) (ca_cons (ce_var (pv 11)) (ca_nil) rfl) rfl))))
      (cs_one (w_frz 3 (cs_if (wt_ne hu (cp_of (ce_callH (ok_closest_base V) hg hr hx (cg_cons (ce_var (pv 3)) (cg_cons (ce_var (pv 6)) (cg_nil))))) (cp_of (ce_ite (wt_ne hu (cp_var (pv 12)) (cp_ofF (cf_lst (ca_nil)))) (ce_tup (ca_cons (w_at hu (cp_of (w_min V.B rfl hu (cp_var (pv 12)))) (cp_of (ce_cst pe_int (fun _ => .int _)))) (ca_cons (w_at hu (cp_of (w_min V.B rfl hu (cp_var (pv 12)))) (cp_of (ce_cst pe_int (fun _ => .int _)))) (ca_nil) rfl) rfl)) (ce_cst pe_non (fun _ => .non))))) (cs_one (cs_ret (ce_cst pe_bl (fun _ => .bl _)))) (cs_nil))))))
      (cs_cons (w_for (tg_nm 4) (w_pgn 4 S.nd) (w_rng1 V.B (cp_of (ce_cst pe_int (fun _ => .int _)))) (cs_cons (w_set S.nd (ce_tup (ca_cons (ce_callH (ok__law_pick V) hg hr hx (cg_dr (pv 1) (cg_cons (ce_var (pv 5)) (cg_nil)))) (ca_nil) rfl)))
      (cs_cons (w_for (tg_nm 14) (w_pgn 14 S.nd) (w_rng1 V.B (cp_of (ce_callH (ok__law_next V) hg hr hx (cg_dr (pv 1) (cg_cons (ce_cst pe_int (fun _ => .int _)) (cg_nil)))))) (cs_cons (w_set S.nd (ce_callH (ok__law_pick V) hg hr hx (cg_dr (pv 1) (cg_cons (ce_var (pv 5)) (cg_nil)))))
      (cs_one (w_set S.nd (w_add (cp_var (pv 13)) (cp_of (ce_ite (wt_ne hu (cp_var (pv 15)) (cp_of (w_at hu (cp_var (pv 13)) (cp_of (w_neg (ce_cst pe_int (fun _ => .int _))))))) (ce_tup (ca_cons (ce_var (pv 15)) (ca_nil) rfl)) (ce_tup (ca_nil)))))))))
      (cs_cons (w_asg (tg_tp rfl (tgs_cons (tg_nm 16) (tgs_cons (tg_nm 17) tgs_nil))) (pg_tup rfl (pgs_cons (w_pgn 16 S.nd) (pgs_cons (w_pgn 17 S.nd) pgs_nil))) (ce_tup (ca_cons (ce_tell (cf_newD)) (ca_cons (w_at hu (cp_var (pv 3)) (cp_of (w_at hu (cp_var (pv 13)) (cp_of (ce_cst pe_int (fun _ => .int _)))))) (ca_nil) rfl) rfl)))
      (cs_cons (w_for (tg_tp rfl (tgs_cons (tg_nm 8) (tgs_cons (tg_nm 9) tgs_nil))) (pg_tup rfl (pgs_cons (w_pgn 8 S.nd) (pgs_cons (w_pgn 9 S.nd) pgs_nil))) (w_zip V.B (ce_var (pv 13)) (w_slc (cp_var (pv 13)) (po_so (cp_of (ce_cst pe_int (fun _ => .int _)))) po_no)) (cs_cons (w_frz 3 (w_set S.nd (ce_tell (w_dict V.B rfl (cp_of (w_add (cp_ofF (w_litems V.B rfl (cp_var (pv 16)))) (cp_ofF (w_litems V.B rfl (cp_of (ce_callH (ok__law_content V) hg hr hx (cg_cons (ce_var (pv 3)) (cg_cons (ce_var (pv 8)) (cg_cons (ce_var (pv 9)) (cg_nil))))))))))))))
      (cs_one (w_frz 3 (w_set S.nd (ce_callH (ok__law_put V) hg hr hx (cg_cons (ce_var (pv 17)) (cg_cons (ce_callH (ok__law_content V) hg hr hx (cg_cons (ce_var (pv 3)) (cg_cons (ce_var (pv 8)) (cg_cons (ce_var (pv 9)) (cg_nil))))) (cg_nil)))))))))
      (cs_cons (w_set S.nd (ce_callH (ok__law_pick V) hg hr hx (cg_dr (pv 1) (cg_cons (ce_var (pv 5)) (cg_nil)))))
      (cs_cons (w_set S.nd (w_all V.B rfl (cp_ofF (w_lc [("block", 22)] S.nd (tg_nm 22) (fun s7 H7 C7 cl7 fp7 => (w_pgn 22 S.nd)) (w_rng1 V.B (cp_var (pv 2))) (fun s7 H7 C7 cl7 fp7 => ct_if (wt_notin hu (cp_var (pv 22)) (cp_var (pv 16)))) (fun s7 H7 C7 cl7 fp7 => w_eq hu (cp_of (w_at hu (cp_of (w_at hu (cp_var (pv 3)) (cp_var (pv 11)))) (cp_var (pv 22)))) (cp_of (w_at hu (cp_of (w_at hu (cp_var (pv 3)) (cp_of (w_at hu (cp_var (pv 13)) (cp_of (w_neg (ce_cst pe_int (fun _ => .int _)))))))) (cp_var (pv 22)))))))))
      (cs_cons (w_frz 3 (cs_if (PW.pt (ctw_or (wt_ne hu (cp_of (ce_callH (ok_restored V) hg hr hx (cg_cons (ce_var (pv 3)) (cg_cons (ce_var (pv 13)) (cg_nil))))) (cp_var (pv 17))) (ctw_or (wt_ne hu (cp_var (pv 17)) (cp_of (w_at hu (cp_var (pv 3)) (cp_of (w_at hu (cp_var (pv 13)) (cp_of (w_neg (ce_cst pe_int (fun _ => .int _))))))))) (ctw_or (wt_ne hu (cp_of (ce_callH (ok_folded_along V) hg hr hx (cg_cons (ce_var (pv 3)) (cg_cons (ce_var (pv 13)) (cg_nil))))) (cp_var (pv 16))) (ctw_or1 (wt_ne hu (cp_ofF (w_list V.B rfl (cp_of (ce_callH (ok_folded_along V) hg hr hx (cg_cons (ce_var (pv 3)) (cg_cons (ce_var (pv 13)) (cg_nil))))))) (cp_ofF (w_sorted V.B rfl hu (cp_var (pv 16)))))))))) (cs_one (cs_ret (ce_cst pe_bl (fun _ => .bl _)))) (cs_nil)))
      (cs_cons (w_frz 3 (cs_if (PW.pt (ctw_or (wt_ne hu (cp_of (ce_callH (ok_wrongly_made V) hg hr hx (cg_cons (ce_var (pv 3)) (cg_cons (ce_var (pv 13)) (cg_cons (ce_var (pv 11)) (cg_nil)))))) (cp_of (ce_callH (ok__law_put V) hg hr hx (cg_cons (w_at hu (cp_var (pv 3)) (cp_var (pv 11))) (cg_cons (ce_var (pv 16)) (cg_nil)))))) (ctw_or1 (wt_ne hu (cp_of (w_eq hu (cp_of (ce_callH (ok_wrongly_made V) hg hr hx (cg_cons (ce_var (pv 3)) (cg_cons (ce_var (pv 13)) (cg_cons (ce_var (pv 11)) (cg_nil)))))) (cp_of (w_at hu (cp_var (pv 3)) (cp_of (w_at hu (cp_var (pv 13)) (cp_of (w_neg (ce_cst pe_int (fun _ => .int _)))))))))) (cp_var (pv 18)))))) (cs_one (cs_ret (ce_cst pe_bl (fun _ => .bl _)))) (cs_nil)))
      (cs_cons (w_unl rfl (tgs_cons (tg_nm 19) (tgs_cons (tg_nm 20) tgs_nil)) (pg_unl rfl (pgs_cons (w_pgn 19 S.nd) (pgs_cons (w_pgn 20 S.nd) pgs_nil))) (ce_ofF (w_lc [("side", 24)] S.nd (tg_nm 24) (fun s8 H8 C8 cl8 fp8 => (w_pgn 24 S.nd)) (w_rng1 V.B (cp_of (ce_cst pe_int (fun _ => .int _)))) (fun s8 H8 C8 cl8 fp8 => ct_yes) (fun s8 H8 C8 cl8 fp8 => ce_tell (w_dict V.B rfl (cp_ofF (w_lc [("step", 14)] S.nd (tg_nm 14) (fun s9 H9 C9 cl9 fp9 => (w_pgn 14 S.nd)) (w_rng1 V.B (cp_of (ce_callH (ok__law_next V) hg hr passes_no (cg_dr (pv 1) (cg_cons (ce_cst pe_int (fun _ => .int _)) (cg_nil)))))) (fun s9 H9 C9 cl9 fp9 => ct_yes) (fun s9 H9 C9 cl9 fp9 => ce_tup (ca_cons (ce_callH (ok__law_next V) hg hr passes_no (cg_dr (pv 1) (cg_cons (ce_var (pv 2)) (cg_nil)))) (ca_cons (ce_callH (ok__law_next V) hg hr passes_no (cg_dr (pv 1) (cg_cons (ce_cst pe_int (fun _ => .int _)) (cg_nil)))) (ca_nil) rfl) rfl)))))))))
      (cs_cons (w_set S.nd (ce_tell (w_dict V.B rfl (cp_of (w_add (cp_ofF (w_litems V.B rfl (cp_var (pv 19)))) (cp_ofF (w_litems V.B rfl (cp_var (pv 20)))))))))
      (cs_one (cs_if (PW.pt (ctw_or (wt_ne hu (cp_of (ce_callH (ok_folded V) hg hr hx (cg_cons (ce_var (pv 19)) (cg_cons (ce_var (pv 20)) (cg_nil))))) (cp_var (pv 21))) (ctw_or (wt_ne hu (cp_ofF (w_list V.B rfl (cp_of (ce_callH (ok_folded V) hg hr hx (cg_cons (ce_var (pv 19)) (cg_cons (ce_var (pv 20)) (cg_nil))))))) (cp_ofF (w_sorted V.B rfl hu (cp_var (pv 21))))) (ctw_or (wt_ne hu (cp_of (ce_callH (ok_behind V) hg hr hx (cg_cons (ce_callH (ok_behind V) hg hr hx (cg_cons (w_at hu (cp_var (pv 3)) (cp_var (pv 11))) (cg_cons (ce_var (pv 19)) (cg_nil)))) (cg_cons (ce_var (pv 20)) (cg_nil))))) (cp_of (ce_callH (ok_behind V) hg hr hx (cg_cons (w_at hu (cp_var (pv 3)) (cp_var (pv 11))) (cg_cons (ce_callH (ok_folded V) hg hr hx (cg_cons (ce_var (pv 19)) (cg_cons (ce_var (pv 20)) (cg_nil)))) (cg_nil)))))) (ctw_or1 (wt_ne hu (cp_of (ce_callH (ok_behind V) hg hr hx (cg_cons (w_at hu (cp_var (pv 3)) (cp_var (pv 11))) (cg_cons (ce_var (pv 19)) (cg_nil))))) (cp_of (ce_callH (ok__law_put V) hg hr hx (cg_cons (w_at hu (cp_var (pv 3)) (cp_var (pv 11))) (cg_cons (ce_var (pv 19)) (cg_nil))))))))))) (cs_one (cs_ret (ce_cst pe_bl (fun _ => .bl _)))) (cs_nil))))))))))))))
      (cs_one (w_frz 3 (cs_ret (ce_callH (ok__law_refused_right V) hg hr hx (cg_cons (ce_var (pv 3)) (cg_nil)))))))))))))))⟩
end
end K03
set_option Elab.async false
set_option linter.all false
set_option maxRecDepth 100000
set_option maxHeartbeats 0
set_option pp.maxSteps 300
namespace K03
open PySem PySem.Spec PyProof.Rows L2 L2.PL He
def hfa0 : List Fa := [.glo "is_whole", .glo "is_many", .glo "_law_cell_at", .glo "_law_draw", .glo "_law_content", .glo "_law_put", .glo "is_from", .glo "_law_number", .glo "is_day", .glo "is_versions", .glo "is_content", .glo "_law_next", .glo "is_item", .glo "is_states", .glo "folded", .glo "behind", .glo "_law_pick", .glo "is_store", .glo "check_states", .glo "content_of", .glo "ever_changed", .glo "store_of", .glo "restored", .glo "closest_base", .glo "folded_along", .glo "wrongly_made", .glo "law", .glo "_law_refused_right", .glo "_law_refuses", .free "len"]
def hfa1 : List Fa := [.free "isinstance", .free "int", .free "bool", .free "str", .free "tuple", .free "list", .free "dict", .free "all", .free "any", .free "sum", .free "min", .free "max", .free "sorted", .free "range", .free "enumerate", .free "zip", .free "repr", .free "set", .free "super", .int "MOST_BLOCKS" (8), .int "MOST_DAY" (30), .int "MOST_ITEMS" (20), .int "MOST_SIZE" (1000)]
def hfa : List Fa := hfa0 ++ (hfa1)
def hfn0 : List DefD := [dd "is_whole" st_is_whole, dd "is_many" st_is_many, dd "_law_cell_at" st__law_cell_at, dd "_law_draw" st__law_draw, dd "_law_content" st__law_content, dd "_law_put" st__law_put, dd "is_from" st_is_from, dd "_law_number" st__law_number, dd "is_day" st_is_day, dd "is_versions" st_is_versions, dd "is_content" st_is_content, dd "_law_next" st__law_next, dd "is_item" st_is_item, dd "is_states" st_is_states, dd "folded" st_folded, dd "behind" st_behind, dd "_law_pick" st__law_pick, dd "is_store" st_is_store, dd "check_states" st_check_states, dd "content_of" st_content_of, dd "ever_changed" st_ever_changed, dd "store_of" st_store_of, dd "restored" st_restored, dd "closest_base" st_closest_base, dd "folded_along" st_folded_along, dd "wrongly_made" st_wrongly_made, dd "law" st_law, dd "_law_refused_right" st__law_refused_right, dd "_law_refuses" st__law_refuses]
def hfn : List DefD := hfn0
def htf : List Defn := [("_law_refused_right", none)]
def loose0 : List Str := ["BackError", "BadThing", "is_whole", "is_from", "is_many", "MOST_DAY", "MOST_ITEMS", "MOST_SIZE", "is_day", "is_item", "is_store", "MOST_BLOCKS", "is_versions", "is_states", "check_states", "is_content", "content_of", "folded", "behind", "store_of", "restored", "folded_along", "wrongly_made", "closest_base", "ever_changed", "_law_cell_at", "_law_draw", "_law_number", "_law_next", "_law_pick"]
def loose1 : List Str := ["_law_refuses", "_law_content", "_law_put", "_law_refused_right"]
def loose : List Str := loose0 ++ (loose1)
def hv : FnI := mkI "__init__" "BadThing.__init__" (BadX.iA ⟨6, 17, 6, 21⟩ ⟨6, 23, 6, 28⟩) (BadX.iB "no such thing" 0 ⟨7, 8, 7, 13⟩ ⟨7, 8, 7, 15⟩ ⟨7, 8, 7, 24⟩ ⟨7, 25, 7, 40⟩ ⟨7, 8, 7, 41⟩ ⟨7, 8, 7, 41⟩ ⟨8, 8, 8, 12⟩ ⟨8, 8, 8, 18⟩ ⟨8, 21, 8, 26⟩ ⟨8, 8, 8, 26⟩) BadX.iS
abbrev R : PySem.W.OpenRow := PySem.W.OpenLaw.row PySem.Challenge.rw_chainsback_k03_whole_blocks
abbrev hk : PySem.W.Hook := hookH 6 hfa hfn htf (exB prog.main.file htf) hv
def ob (s : PySem.W.SharedT) : AlH := obsH 6 hfa hfn htf (exB prog.main.file htf) (HandSHeadRun.getT s)
theorem ob_eq (s : PySem.W.SharedT) : ob s = hk.obs s.abs := obsH_eq (HandSHeadRun.getT_eq s)
theorem run (w : World) : HandSHeadRun.RunEq R (PySem.W.view R.prog [39]) hk ob 4000 loose w := by
  intro os
  kernel_rfl

abbrev lamT (K : PySem.W.Frag) : List (Addr × Str) := htf.map fun p => ((cT K p).2, p.1 ++ ".<locals>.<lambda>")
section
variable {K : PySem.W.Frag} {h base : Heap} {mg : Str → Option Value}
theorem evOf (X : K.In h) (G : h.Ns mainGlobals mg) (c : SaysH hfa hfn htf (exB prog.main.file htf) hv h K) (tb : ∀ p ∈ htf, LamX.TabB base mg (cT K p).1 (cT K p).2) :
    Ev K mg base (lamT K) (badC K) (badF K) (ga K "_law_refuses") (cT K ("_law_refused_right", none)).1 (cT K ("_law_refused_right", none)).2 := by
  have fr : ∀ {x : Str} (i : Nat), hfa[i]? = some (.free x) → mg x = none := fun i e => free_ok X G (c.d.fact i e)
  have it : ∀ {x : Str} {z : Int} (i : Nat), hfa[i]? = some (.int x z) → ∃ u, mg x = some u ∧ RelV (.int z) u := fun i e => by
    obtain ⟨t, q⟩ := int_ok X G (c.d.fact i e)
    exact ⟨_, q, by first | exact ⟨t, rfl⟩ | exact rfl | exact relB_ok rfl⟩
  constructor
  case B => exact ⟨fr 29 rfl, fr 30 rfl, fr 31 rfl, fr 32 rfl, fr 33 rfl, fr 34 rfl, fr 35 rfl, fr 36 rfl, fr 37 rfl, fr 38 rfl, fr 39 rfl, fr 40 rfl, fr 41 rfl, fr 42 rfl, fr 43 rfl, fr 44 rfl, fr 45 rfl, fr 46 rfl, fr 47 rfl⟩
  case BT => exact bad_mk X G (ba c.ex).1 c.i rfl (fr 48 rfl) (by decide +kernel)
  case RT =>
    obtain ⟨fd, F⟩ := c.d.def_ 28 (d := dd "_law_refuses" st__law_refuses) rfl
    exact funD_ref X G (c.d.fact 28 (f := .glo "_law_refuses") rfl) F ⟨rfl, rfl, rfl, by decide +kernel, rfl, by decide +kernel, by decide +kernel⟩ rfl rfl rfl (fr 46 rfl) (fun _ _ _ _ _ _ us hl => match us, hl with | [_, _], _ => rfl)
  case c_MOST_BLOCKS => exact it 49 rfl
  case c_MOST_DAY => exact it 50 rfl
  case c_MOST_ITEMS => exact it 51 rfl
  case c_MOST_SIZE => exact it 52 rfl
  case r_is_whole =>
    obtain ⟨fd, F⟩ := c.d.def_ 0 (d := dd "is_whole" st_is_whole) rfl
    exact funD_raw X G (c.d.fact 0 (f := .glo "is_whole") rfl) F (fun _ _ _ _ _ _ us hl => match us, hl with | [_], _ => rfl)
  case r_is_many =>
    obtain ⟨fd, F⟩ := c.d.def_ 1 (d := dd "is_many" st_is_many) rfl
    exact funD_raw X G (c.d.fact 1 (f := .glo "is_many") rfl) F (fun _ _ _ _ _ _ us hl => match us, hl with | [_, _], _ => rfl)
  case r__law_cell_at =>
    obtain ⟨fd, F⟩ := c.d.def_ 2 (d := dd "_law_cell_at" st__law_cell_at) rfl
    exact funD_raw X G (c.d.fact 2 (f := .glo "_law_cell_at") rfl) F (fun _ _ _ _ _ _ us hl => match us, hl with | [_, _], _ => rfl)
  case r__law_draw =>
    obtain ⟨fd, F⟩ := c.d.def_ 3 (d := dd "_law_draw" st__law_draw) rfl
    exact funD_raw X G (c.d.fact 3 (f := .glo "_law_draw") rfl) F (fun _ _ _ _ _ _ us hl => match us, hl with | [_, _, _], _ => rfl)
  case r__law_content =>
    obtain ⟨fd, F⟩ := c.d.def_ 4 (d := dd "_law_content" st__law_content) rfl
    exact funD_raw X G (c.d.fact 4 (f := .glo "_law_content") rfl) F (fun _ _ _ _ _ _ us hl => match us, hl with | [_, _, _], _ => rfl)
  case r__law_put =>
    obtain ⟨fd, F⟩ := c.d.def_ 5 (d := dd "_law_put" st__law_put) rfl
    exact funD_raw X G (c.d.fact 5 (f := .glo "_law_put") rfl) F (fun _ _ _ _ _ _ us hl => match us, hl with | [_, _], _ => rfl)
  case r_is_from =>
    obtain ⟨fd, F⟩ := c.d.def_ 6 (d := dd "is_from" st_is_from) rfl
    exact funD_raw X G (c.d.fact 6 (f := .glo "is_from") rfl) F (fun _ _ _ _ _ _ us hl => match us, hl with | [_, _, _], _ => rfl)
  case r__law_number =>
    obtain ⟨fd, F⟩ := c.d.def_ 7 (d := dd "_law_number" st__law_number) rfl
    exact funD_raw X G (c.d.fact 7 (f := .glo "_law_number") rfl) F (fun _ _ _ _ _ _ us hl => match us, hl with | [_, _, _], _ => rfl)
  case r_is_day =>
    obtain ⟨fd, F⟩ := c.d.def_ 8 (d := dd "is_day" st_is_day) rfl
    exact funD_raw X G (c.d.fact 8 (f := .glo "is_day") rfl) F (fun _ _ _ _ _ _ us hl => match us, hl with | [_], _ => rfl)
  case r_is_versions =>
    obtain ⟨fd, F⟩ := c.d.def_ 9 (d := dd "is_versions" st_is_versions) rfl
    exact funD_raw X G (c.d.fact 9 (f := .glo "is_versions") rfl) F (fun _ _ _ _ _ _ us hl => match us, hl with | [_], _ => rfl)
  case r_is_content =>
    obtain ⟨fd, F⟩ := c.d.def_ 10 (d := dd "is_content" st_is_content) rfl
    exact funD_raw X G (c.d.fact 10 (f := .glo "is_content") rfl) F (fun _ _ _ _ _ _ us hl => match us, hl with | [_], _ => rfl)
  case r__law_next =>
    obtain ⟨fd, F⟩ := c.d.def_ 11 (d := dd "_law_next" st__law_next) rfl
    exact funD_raw X G (c.d.fact 11 (f := .glo "_law_next") rfl) F (fun _ _ _ _ _ _ us hl => match us, hl with | [_, _], _ => rfl)
  case r_is_item =>
    obtain ⟨fd, F⟩ := c.d.def_ 12 (d := dd "is_item" st_is_item) rfl
    exact funD_raw X G (c.d.fact 12 (f := .glo "is_item") rfl) F (fun _ _ _ _ _ _ us hl => match us, hl with | [_], _ => rfl)
  case r_is_states =>
    obtain ⟨fd, F⟩ := c.d.def_ 13 (d := dd "is_states" st_is_states) rfl
    exact funD_raw X G (c.d.fact 13 (f := .glo "is_states") rfl) F (fun _ _ _ _ _ _ us hl => match us, hl with | [_], _ => rfl)
  case r_folded =>
    obtain ⟨fd, F⟩ := c.d.def_ 14 (d := dd "folded" st_folded) rfl
    exact funD_raw X G (c.d.fact 14 (f := .glo "folded") rfl) F (fun _ _ _ _ _ _ us hl => match us, hl with | [_, _], _ => rfl)
  case r_behind =>
    obtain ⟨fd, F⟩ := c.d.def_ 15 (d := dd "behind" st_behind) rfl
    exact funD_raw X G (c.d.fact 15 (f := .glo "behind") rfl) F (fun _ _ _ _ _ _ us hl => match us, hl with | [_, _], _ => rfl)
  case r__law_pick =>
    obtain ⟨fd, F⟩ := c.d.def_ 16 (d := dd "_law_pick" st__law_pick) rfl
    exact funD_raw X G (c.d.fact 16 (f := .glo "_law_pick") rfl) F (fun _ _ _ _ _ _ us hl => match us, hl with | [_, _], _ => rfl)
  case r_is_store =>
    obtain ⟨fd, F⟩ := c.d.def_ 17 (d := dd "is_store" st_is_store) rfl
    exact funD_raw X G (c.d.fact 17 (f := .glo "is_store") rfl) F (fun _ _ _ _ _ _ us hl => match us, hl with | [_], _ => rfl)
  case r_check_states =>
    obtain ⟨fd, F⟩ := c.d.def_ 18 (d := dd "check_states" st_check_states) rfl
    exact funD_raw X G (c.d.fact 18 (f := .glo "check_states") rfl) F (fun _ _ _ _ _ _ us hl => match us, hl with | [_], _ => rfl)
  case r_content_of =>
    obtain ⟨fd, F⟩ := c.d.def_ 19 (d := dd "content_of" st_content_of) rfl
    exact funD_raw X G (c.d.fact 19 (f := .glo "content_of") rfl) F (fun _ _ _ _ _ _ us hl => match us, hl with | [_, _, _], _ => rfl)
  case r_ever_changed =>
    obtain ⟨fd, F⟩ := c.d.def_ 20 (d := dd "ever_changed" st_ever_changed) rfl
    exact funD_raw X G (c.d.fact 20 (f := .glo "ever_changed") rfl) F (fun _ _ _ _ _ _ us hl => match us, hl with | [_], _ => rfl)
  case r_store_of =>
    obtain ⟨fd, F⟩ := c.d.def_ 21 (d := dd "store_of" st_store_of) rfl
    exact funD_raw X G (c.d.fact 21 (f := .glo "store_of") rfl) F (fun _ _ _ _ _ _ us hl => match us, hl with | [_, _], _ => rfl)
  case r_restored =>
    obtain ⟨fd, F⟩ := c.d.def_ 22 (d := dd "restored" st_restored) rfl
    exact funD_raw X G (c.d.fact 22 (f := .glo "restored") rfl) F (fun _ _ _ _ _ _ us hl => match us, hl with | [_, _], _ => rfl)
  case r_closest_base =>
    obtain ⟨fd, F⟩ := c.d.def_ 23 (d := dd "closest_base" st_closest_base) rfl
    exact funD_raw X G (c.d.fact 23 (f := .glo "closest_base") rfl) F (fun _ _ _ _ _ _ us hl => match us, hl with | [_, _], _ => rfl)
  case r_folded_along =>
    obtain ⟨fd, F⟩ := c.d.def_ 24 (d := dd "folded_along" st_folded_along) rfl
    exact funD_raw X G (c.d.fact 24 (f := .glo "folded_along") rfl) F (fun _ _ _ _ _ _ us hl => match us, hl with | [_, _], _ => rfl)
  case r_wrongly_made =>
    obtain ⟨fd, F⟩ := c.d.def_ 25 (d := dd "wrongly_made" st_wrongly_made) rfl
    exact funD_raw X G (c.d.fact 25 (f := .glo "wrongly_made") rfl) F (fun _ _ _ _ _ _ us hl => match us, hl with | [_, _, _], _ => rfl)
  case rC__law_refused_right =>
    obtain ⟨fd, F⟩ := c.d.def_ 27 (d := dd "_law_refused_right" st__law_refused_right) rfl
    exact funD_rawC X G (c.d.fact 27 (f := .glo "_law_refused_right") rfl) F (fun _ _ _ _ _ _ us hl => match us, hl with | [_], _ => rfl)
  case l__law_refused_right => exact lamF_of (ba c.ex).2 tb 0 (p := ("_law_refused_right", none)) rfl
  case r_law =>
    obtain ⟨fd, F⟩ := c.d.def_ 26 (d := dd "law" st_law) rfl
    exact funD_raw X G (c.d.fact 26 (f := .glo "law") rfl) F (fun _ _ _ _ _ _ us hl => match us, hl with | [_], _ => rfl)
end
end K03
set_option Elab.async false
set_option linter.all false
set_option maxRecDepth 100000
/-! M1: evaluating the combinators, for the mathematics of a law -/
namespace L2
namespace PL
open PySem PySem.Spec PyProof.Rows

/-! ### encodings -/
class Enc (α : Type) [DecidableEq α] where
  e : α → PyData
  d : Nat
  plain : ∀ a, (e a).plain = true
  depth : ∀ a, (e a).depth ≤ d
  eqv : ∀ a b, PyData.eqv (e a) (e b) = decide (a = b)

theorem plainAll_iff : ∀ {xs : List PyData}, PyData.plainAll xs = xs.all PyData.plain
  | [] => rfl
  | x :: xs => by rw [PyData.plainAll, List.all_cons, plainAll_iff]
theorem depthAll_leM {n : Nat} : ∀ {xs : List PyData}, (∀ x ∈ xs, x.depth ≤ n) → PyData.depthAll xs ≤ n
  | [], _ => Nat.zero_le _
  | x :: xs, h => by
    rw [PyData.depthAll]
    exact Nat.max_le.mpr ⟨h x List.mem_cons_self, depthAll_leM fun y hy => h y (List.mem_cons_of_mem _ hy)⟩
instance : Enc Int := ⟨.int, 0, fun _ => rfl, fun _ => by simp [PyData.depth], fun a b => by simp [PyData.eqv]; rfl⟩
def oD : Option Int → PyData
  | none => .none
  | some i => .int i
instance : Enc (Option Int) := ⟨oD, 0, fun a => by cases a <;> rfl, fun a => by cases a <;> simp [oD, PyData.depth], fun a b => by cases a <;> cases b <;> simp [oD, PyData.eqv] <;> rfl⟩
instance : Enc Bool := ⟨.bool, 0, fun _ => rfl, fun _ => by simp [PyData.depth], fun a b => by cases a <;> cases b <;> rfl⟩
instance : Enc Str := ⟨.str, 0, fun _ => rfl, fun _ => by simp [PyData.depth], fun a b => by simp [PyData.eqv]; rfl⟩
section
variable {α : Type} [DecidableEq α] [Enc α]
theorem eqvAll_map : ∀ a b : List α, PyData.eqvAll (a.map Enc.e) (b.map Enc.e) = decide (a = b)
  | [], [] => rfl
  | [], _ :: _ => rfl
  | _ :: _, [] => rfl
  | x :: a, y :: b => by
    rw [List.map_cons, List.map_cons, PyData.eqvAll, Enc.eqv, eqvAll_map a b]
    by_cases h : x = y <;> simp [h]
theorem plainAll_map (a : List α) : PyData.plainAll (a.map Enc.e) = true := by
  rw [plainAll_iff]; simp [Enc.plain]
theorem depthAll_map (a : List α) : PyData.depthAll (a.map Enc.e) ≤ Enc.d α := depthAll_leM fun x hx => by
  obtain ⟨y, _, rfl⟩ := List.mem_map.mp hx
  exact Enc.depth y
/-- tuples -/
instance : Enc (List α) := ⟨fun l => .tuple (l.map Enc.e), Enc.d α + 1, fun l => plainAll_map l, fun l => by rw [PyData.depth]; exact Nat.succ_le_succ (depthAll_map l), fun a b => by rw [PyData.eqv]; exact eqvAll_map a b⟩
theorem sm_e (h : Enc.d α ≤ 60 := by decide) (a : α) : smD (Enc.e a) = true := by
  rw [smD, Enc.plain, Bool.true_and]
  exact decide_eq_true (Nat.le_trans (Enc.depth a) h)
/-- lists -/
def lD (l : List α) : PyData := .list (l.map Enc.e)
theorem sm_l (h : Enc.d α ≤ 59 := by decide) (a : List α) : smD (lD a) = true := by
  rw [smD, lD, PyData.plain, plainAll_map, Bool.true_and]
  refine decide_eq_true ?_
  rw [PyData.depth]
  have := depthAll_map a
  omega
theorem eqX_e (h : Enc.d α ≤ 60 := by decide) (a b : α) : eqX (Enc.e a) (Enc.e b) = some (decide (a = b)) := by
  unfold eqX; rw [sm_e h, sm_e h, Enc.eqv]; rfl
theorem eqX_l (h : Enc.d α ≤ 59 := by decide) (a b : List α) : eqX (lD a) (lD b) = some (decide (a = b)) := by
  unfold eqX; rw [sm_l h, sm_l h]
  show some (PyData.eqv (lD a) (lD b)) = _
  rw [lD, lD, PyData.eqv, eqvAll_map]
theorem any_e (y : α) : ∀ l : List α, ((l.map Enc.e).any fun z => PyData.eqv z (Enc.e y)) = decide (y ∈ l)
  | [] => rfl
  | x :: l => by
    rw [List.map_cons, List.any_cons, any_e y l, Enc.eqv]
    by_cases h : x = y
    · simp [h]
    · have : ¬ y = x := fun q => h q.symm
      simp [h, this]
theorem inX_t (h : Enc.d α ≤ 59 := by decide) (y : α) (l : List α) : inX (Enc.e y) (.tuple (l.map Enc.e)) = some (decide (y ∈ l)) := by
  have h1 : smD (.tuple (l.map (Enc.e : α → PyData))) = true := sm_e (α := List α) (Nat.succ_le_succ h) l
  rw [show inX (Enc.e y) (.tuple (l.map Enc.e)) = if smD (Enc.e y) && smD (.tuple (l.map (Enc.e : α → PyData))) then some ((l.map Enc.e).any fun z => PyData.eqv z (Enc.e y)) else none from rfl, sm_e (by omega), h1, any_e]; rfl
theorem inX_l (h : Enc.d α ≤ 59 := by decide) (y : α) (l : List α) : inX (Enc.e y) (.list (l.map Enc.e)) = some (decide (y ∈ l)) := by
  have h1 : smD (.list (l.map (Enc.e : α → PyData))) = true := sm_l h l
  rw [show inX (Enc.e y) (.list (l.map Enc.e)) = if smD (Enc.e y) && smD (.list (l.map (Enc.e : α → PyData))) then some ((l.map Enc.e).any fun z => PyData.eqv z (Enc.e y)) else none from rfl, sm_e (by omega), h1, any_e]; rfl
end
/-! ### combinators -/
section
variable {α β : Type} {g : Gs}
@[simp] theorem bind_ok {a : α} {k : α → Gs → Res β} : (Res.ok a g).bind k = k a g := id rfl
@[simp] theorem bind_bad {d : PyData} {k : α → Gs → Res β} : (Res.bad d g).bind k = .bad d g := id rfl
@[simp] theorem bind_no {k : α → Gs → Res β} : (Res.no).bind k = .no := id rfl
@[simp] theorem calm_ok {a : α} : (Res.ok a g).calm = .ok a g := id rfl
end
section
variable {ρ : Env} {g g1 g2 : Gs} {fa fb fc : Fn} {x y z d : PyData}
theorem ev_pk {i : Nat} (h : ρ[i]? = some (.sh d)) : fPk i ρ g = .ok d g := by rw [fPk, h]
theorem ev_var {i : Nat} (h : ρ[i]? = some (.sh d)) : fVar i ρ g = .ok d g := by rw [fVar, h]
theorem ev_cst : fCst d ρ g = .ok d g := rfl
theorem ev_bin {k : PyData → PyData → Gs → Res PyData} (ha : fa ρ g = .ok x g1) (hb : fb ρ g1 = .ok y g2) : fBin k fa fb ρ g = k x y g2 := by rw [fBin, ha, bind_ok, hb, bind_ok]
theorem ev_or_t (ha : fa ρ g = .ok (.bool true) g1) : fOr fa fb ρ g = .ok (.bool true) g1 := by rw [fOr, ha, bind_ok]
theorem ev_or_f {r : Res PyData} (ha : fa ρ g = .ok (.bool false) g1) (hb : fb ρ g1 = r) : fOr fa fb ρ g = r := by rw [fOr, ha, bind_ok, ← hb]
theorem ev_and_f (ha : fa ρ g = .ok (.bool false) g1) : fAnd fa fb ρ g = .ok (.bool false) g1 := by rw [fAnd, ha, bind_ok]
theorem ev_and_t {r : Res PyData} (ha : fa ρ g = .ok (.bool true) g1) (hb : fb ρ g1 = r) : fAnd fa fb ρ g = r := by rw [fAnd, ha, bind_ok, ← hb]
/-- both parts are evaluated or the second does not matter -/
theorem ev_and {a b : Bool} (ha : fa ρ g = .ok (.bool a) g) (hb : a = true → fb ρ g = .ok (.bool b) g) : fAnd fa fb ρ g = .ok (.bool (a && b)) g := by
  cases a with
  | false => exact ev_and_f ha
  | true => rw [Bool.true_and]; exact ev_and_t ha (hb rfl)
theorem ev_or {a b : Bool} (ha : fa ρ g = .ok (.bool a) g) (hb : a = false → fb ρ g = .ok (.bool b) g) : fOr fa fb ρ g = .ok (.bool (a || b)) g := by
  cases a with
  | true => exact ev_or_t ha
  | false => rw [Bool.false_or]; exact ev_or_f ha (hb rfl)
theorem ev_not {b : Bool} (ha : fa ρ g = .ok (.bool b) g1) : fNot fa ρ g = .ok (.bool (!b)) g1 := by rw [fNot, ha, bind_ok]
theorem ev_f1 {k : PyData → Gs → Res PyData} (ha : fa ρ g = .ok x g1) : f1 k fa ρ g = k x g1 := by rw [f1, ha, bind_ok]
theorem ev_isi {t : PyData → Bool} (ha : fa ρ g = .ok x g1) : fIsi t fa ρ g = .ok (.bool (t x)) g1 := by rw [fIsi, ha, bind_ok]
theorem ev_isN {b : Bool} (ha : fa ρ g = .ok x g1) : fIsN b fa ρ g = .ok (.bool (isNonD x == b)) g1 := by rw [fIsN, ha, bind_ok]
end
/-! ### comprehensions -/
section
variable {α : Type} {t : Tg} {fc fe : Fn} {vs : List Nat} {ρ : Env} {g : Gs}
theorem lcF_ev (en : α → PyData) (bn : α → List (Nat × PyData)) (p : α → Bool) (q : α → PyData) : ∀ (l : List α) (acc : List PyData), (∀ a ∈ l, bindT t (en a) = some (bn a)) → (∀ a ∈ l, fc (setE (wipeE ρ vs) (bn a)) g = .ok (.bool (p a)) g) →
    (∀ a ∈ l, p a = true → fe (setE (wipeE ρ vs) (bn a)) g = .ok (q a) g) → acc.length + l.length ≤ sizeLine → lcF t fc fe vs ρ (l.map en) acc g = .ok (.list (acc ++ (l.filter p).map q)) g
  | [], acc, _, _, _, _ => by simp [lcF]
  | a :: l, acc, hb, hc, he, hs => by
    have hs' : acc.length + (l.length + 1) ≤ sizeLine := hs
    rw [List.map_cons, lcF, hb a List.mem_cons_self]
    show (Res.calm (fc (setE (wipeE ρ vs) (bn a)) g)).bind _ = _
    rw [hc a List.mem_cons_self, calm_ok, bind_ok]
    have ih := fun acc' => lcF_ev en bn p q l acc' (fun b hb' => hb b (List.mem_cons_of_mem _ hb')) (fun b hb' => hc b (List.mem_cons_of_mem _ hb')) (fun b hb' => he b (List.mem_cons_of_mem _ hb'))
    cases hp : p a with
    | false =>
      show lcF t fc fe vs ρ (l.map en) acc g = _
      rw [ih acc (by omega), List.filter_cons_of_neg (by simp [hp])]
    | true =>
      show (Res.calm (fe (setE (wipeE ρ vs) (bn a)) g)).bind _ = _
      rw [he a List.mem_cons_self hp, calm_ok, bind_ok, if_pos (by omega), ih _ (by rw [List.length_append]; simp; omega), List.filter_cons_of_pos hp]
      simp
theorem ev_lc (en : α → PyData) (bn : α → List (Nat × PyData)) (p : α → Bool) (q : α → PyData) {fi : FnL} {l : List α} {g0 : Gs} (hi : fi ρ g0 = .ok (l.map en) g) (hb : ∀ a ∈ l, bindT t (en a) = some (bn a)) (hc : ∀ a ∈ l, fc (setE (wipeE ρ vs) (bn a)) g = .ok (.bool (p a)) g)
    (he : ∀ a ∈ l, p a = true → fe (setE (wipeE ρ vs) (bn a)) g = .ok (q a) g) (hs : l.length ≤ sizeLine) : fLc fi t fc fe vs ρ g0 = .ok (.list ((l.filter p).map q)) g := by
  rw [fLc, hi, bind_ok, lcF_ev en bn p q l [] hb hc he (by simpa using hs), List.nil_append]
theorem filter_true {l : List α} : (l.filter fun _ => true) = l := List.filter_eq_self.mpr fun _ _ => rfl
/-- without a condition -/
theorem ev_lcy (en : α → PyData) (bn : α → List (Nat × PyData)) (q : α → PyData) {fi : FnL} {l : List α} {g0 : Gs} (hi : fi ρ g0 = .ok (l.map en) g) (hb : ∀ a ∈ l, bindT t (en a) = some (bn a))
    (he : ∀ a ∈ l, fe (setE (wipeE ρ vs) (bn a)) g = .ok (q a) g) (hs : l.length ≤ sizeLine) : fLc fi t fYes fe vs ρ g0 = .ok (.list (l.map q)) g := by
  rw [ev_lc en bn (fun _ => true) q hi hb (fun _ _ => rfl) (fun a ha _ => he a ha) hs, filter_true]
end
/-! ### all, any, sum, len -/
theorem asBools_map {α : Type} (p : α → Bool) : ∀ l : List α, asBools (l.map fun a => .bool (p a)) = some (l.map p)
  | [] => rfl
  | a :: l => by rw [List.map_cons, asBools, asBools_map p l]; rfl
theorem asInts_map {α : Type} (p : α → Int) : ∀ l : List α, asInts (l.map fun a => .int (p a)) = some (l.map p)
  | [] => rfl
  | a :: l => by rw [List.map_cons, asInts, asInts_map p l]; rfl
theorem asInts_ints (l : List Int) : asInts (l.map .int) = some l := by
  have := asInts_map (fun i => i) l; simpa using this
theorem kAll_map {α : Type} {g : Gs} (p : α → Bool) (l : List α) : kAll (.list (l.map fun a => .bool (p a))) g = .ok (.bool (l.all p)) g := by
  unfold kAll kOpt onBools; simp [asBools_map, List.all_map]
theorem kAny_map {α : Type} {g : Gs} (p : α → Bool) (l : List α) : kAny (.list (l.map fun a => .bool (p a))) g = .ok (.bool (l.any p)) g := by
  unfold kAny kOpt onBools; simp [asBools_map, List.any_map]
theorem kSum_map {α : Type} {g : Gs} (p : α → Int) (l : List α) : kSum (.list (l.map fun a => .int (p a))) g = .ok (.int (l.map p).sum) g := by
  unfold kSum kOpt onInts; simp [asInts_map]
/-! ### simp rules: what each combinator does -/
def tst {γ : Type} (x : PyData) (a b : Res γ) : Res γ := match x with
  | .bool true => a
  | .bool false => b
  | _ => .no
section
variable {γ δ : Type} {a b : Res γ} {c : Bool}
@[simp] theorem tst_t : tst (.bool true) a b = a := id rfl
@[simp] theorem tst_f : tst (.bool false) a b = b := id rfl
theorem tst_cond : tst (.bool c) a b = if c then a else b := by cases c <;> rfl
@[simp] theorem tst_bind {x : PyData} {k : γ → Gs → Res δ} : (tst x a b).bind k = tst x (a.bind k) (b.bind k) := by
  cases x with
  | bool c => cases c <;> rfl
  | _ => rfl
@[simp] theorem tst_and {c d : Bool} {g : Gs} : tst (.bool c) (.ok (PyData.bool d) g) (.ok (PyData.bool false) g) = .ok (PyData.bool (c && d)) g := by cases c <;> rfl
@[simp] theorem tst_or {c d : Bool} {g : Gs} : tst (.bool c) (.ok (PyData.bool true) g) (.ok (PyData.bool d) g) = .ok (PyData.bool (c || d)) g := by cases c <;> rfl
@[simp] theorem tst_same : tst (.bool c) a a = a := by cases c <;> rfl
end
section
variable {α β : Type} {ρ : Env} {g : Gs} {fa fb fc : Fn}
@[simp] theorem s_runF {b : FnS} {m : Nat} {as : Env} : runF b m as g = (b (as ++ List.replicate m .un) g).bind fun fl g' => match fl with
  | .nx _ => .ok .none g'
  | .rt d => .ok d g'
  | _ => .no := id rfl
@[simp] theorem s_skip : fSkip ρ g = .ok (.nx ρ) g := id rfl
@[simp] theorem s_seq {a b : FnS} : fSeq a b ρ g = (a ρ g).bind fun fl g1 => match fl with
  | .nx ρ' => b ρ' g1
  | fl => .ok fl g1 := id rfl
@[simp] theorem s_ret : fRet fa ρ g = (fa ρ g).bind fun d g1 => .ok (.rt d) g1 := id rfl
@[simp] theorem s_if {a b : FnS} : fIf fc a b ρ g = (fc ρ g).bind fun x g1 => tst x (a ρ g1) (b ρ g1) := id rfl
@[simp] theorem s_exp : fExp fa ρ g = (fa ρ g).bind fun _ g1 => .ok (.nx ρ) g1 := id rfl
@[simp] theorem s_set {i : Nat} : fSet i fa ρ g = (fa ρ g).bind fun d g1 => .ok (.nx (ρ.set i (.sh d))) g1 := id rfl
@[simp] theorem s_setO {i : Nat} : fSetO i fa ρ g = (fa ρ g).bind fun d g1 => .ok (.nx (ρ.set i (.ow d))) g1 := id rfl
@[simp] theorem s_raise : fRaise fa ρ g = (fa ρ g).bind fun d g1 => .bad d g1 := id rfl
@[simp] theorem s_refu : fRefu fa fb ρ g = (fb ρ g).bind fun d g1 => refuD d (fa ρ g1) := id rfl
@[simp] theorem s_tell : fTell fa ρ g = if wOk ρ g then fa ρ g else .no := id rfl
@[simp] theorem s_newD : fNewD ρ g = .ok (.dict []) g := id rfl
@[simp] theorem s_call {F : Env → Gs → Res PyData} {n : Nat} {fs : FnG1} : fCall F n fs ρ g = (fs ρ g).bind fun as g1 => if as.length = n then F as g1 else .no := id rfl
@[simp] theorem s_gnil : PL.gNil ρ g = .ok [] g := id rfl
@[simp] theorem s_gcons {fs : FnG1} : PL.gCons fa fs ρ g = (fa ρ g).bind fun x g1 => (fs ρ g1).bind fun xs g2 => .ok (.sh x :: xs) g2 := id rfl
@[simp] theorem s_gdr {i : Nat} {fs : FnG1} : PL.gDr i fs ρ g = match ρ[i]? with
  | some .dr => (fs ρ g).bind fun xs g2 => .ok (.dr :: xs) g2
  | _ => .no := id rfl
@[simp] theorem s_var {i : Nat} : fVar i ρ g = match ρ[i]? with
  | some (.sh d) => .ok d g
  | _ => .no := id rfl
@[simp] theorem s_pk {i : Nat} : fPk i ρ g = match ρ[i]? with
  | some (.sh d) => .ok d g
  | some (.ow d) => .ok d g
  | _ => .no := id rfl
@[simp] theorem s_cst {d : PyData} : fCst d ρ g = .ok d g := id rfl
@[simp] theorem s_bin {k : PyData → PyData → Gs → Res PyData} : fBin k fa fb ρ g = (fa ρ g).bind fun x g1 => (fb ρ g1).bind fun y g2 => k x y g2 := id rfl
@[simp] theorem s_f1 {k : PyData → Gs → Res PyData} : f1 k fa ρ g = (fa ρ g).bind k := id rfl
@[simp] theorem s_isi {t : PyData → Bool} : fIsi t fa ρ g = (fa ρ g).bind fun x g1 => .ok (.bool (t x)) g1 := id rfl
@[simp] theorem s_isN {b : Bool} : fIsN b fa ρ g = (fa ρ g).bind fun x g1 => .ok (.bool (isNonD x == b)) g1 := id rfl
@[simp] theorem s_and : fAnd fa fb ρ g = (fa ρ g).bind fun x g1 => tst x (fb ρ g1) (.ok (.bool false) g1) := id rfl
@[simp] theorem s_or : fOr fa fb ρ g = (fa ρ g).bind fun x g1 => tst x (.ok (.bool true) g1) (fb ρ g1) := id rfl
@[simp] theorem s_not : fNot fa ρ g = (fa ρ g).bind fun x g1 => match x with
  | .bool b => .ok (.bool (!b)) g1
  | _ => .no := id rfl
@[simp] theorem s_ite : fIte fc fa fb ρ g = (fc ρ g).bind fun x g1 => tst x (fa ρ g1) (fb ρ g1) := id rfl
@[simp] theorem s_neg : fNeg fa ρ g = (fa ρ g).bind fun x g1 => match x with
  | .int i => .ok (.int (-i)) g1
  | _ => .no := id rfl
@[simp] theorem s_chn {k1 k2 : PyData → PyData → Gs → Res PyData} : fChn k1 k2 fa fb fc ρ g = (fa ρ g).bind fun x g1 => (fb ρ g1).bind fun y g2 => (k1 x y g2).bind fun z g3 => tst z ((fc ρ g3).bind fun w g4 => k2 y w g4) (.ok (.bool false) g3) := id rfl
@[simp] theorem s_nil : fNil ρ g = .ok [] g := id rfl
@[simp] theorem s_cons {fs : FnL} : fCons fa fs ρ g = (fa ρ g).bind fun x g1 => (fs ρ g1).bind fun xs g2 => .ok (x :: xs) g2 := id rfl
@[simp] theorem s_tup {fs : FnL} : fTup fs ρ g = (fs ρ g).bind fun xs g1 => if xs.length ≤ sizeLine then .ok (.tuple xs) g1 else .no := id rfl
@[simp] theorem s_lst {fs : FnL} : fLst fs ρ g = (fs ρ g).bind fun xs g1 => if xs.length ≤ sizeLine then .ok (.list xs) g1 else .no := id rfl
@[simp] theorem s_lstO : fLstO fa ρ g = (fa ρ g).bind fun x g1 => if freezable x then .ok x g1 else .no := id rfl
@[simp] theorem s_freez {l : List PyData} : freezable (.list l) = true := id rfl
@[simp] theorem s_walk : fWalk fa ρ g = (fa ρ g).bind fun x g1 => match walkD x with
  | some ds => .ok ds g1
  | none => .no := id rfl
@[simp] theorem s_walkT {l : List PyData} : walkD (.tuple l) = some l := id rfl
@[simp] theorem s_walkL {l : List PyData} : walkD (.list l) = some l := id rfl
@[simp] theorem s_walkDct {l : List (PyData × PyData)} : walkD (.dict l) = some (l.map Prod.fst) := id rfl
def kRng1 (x : PyData) (g : Gs) : Res (List PyData) := match x with
  | .int n => if ok62 n then .ok (rngD 0 n) g else .no
  | _ => .no
@[simp] theorem s_rng1 : fRng1 fa ρ g = (fa ρ g).bind kRng1 := id rfl
theorem ok62_nat {n : Nat} (hs : n ≤ 100000) : ok62 (n : Int) = true := by unfold ok62; simp only [Bool.and_eq_true, decide_eq_true_eq]; omega
theorem k_rng {n : Nat} (h : n ≤ 100000) : kRng1 (.int n) g = .ok (rngD 0 n) g := by
  have e : kRng1 (.int n) g = if ok62 n then .ok (rngD 0 n) g else .no := rfl
  rw [e, if_pos (ok62_nat h)]
def kRgA (wrap : List PyData → PyData) (x : PyData) (g : Gs) : Res PyData := match x with
  | .int n => kRg wrap 0 n g
  | _ => .no
@[simp] theorem s_rgA {wrap : List PyData → PyData} : fRgA wrap fa ρ g = (fa ρ g).bind (kRgA wrap) := id rfl
theorem okRg_nat {n : Nat} (hs : n ≤ 100000) : okRg 0 (n : Int) = true := by
  unfold okRg
  simp only [Bool.and_eq_true, decide_eq_true_eq]
  refine ⟨⟨⟨⟨by omega, by omega⟩, by omega⟩, by omega⟩, by omega⟩
theorem k_rgA {wrap : List PyData → PyData} {n : Nat} (h : n ≤ 100000) : kRgA wrap (.int n) g = .ok (wrap (rngD 0 n)) g := by
  have e : kRgA wrap (.int n) g = if okRg 0 n then .ok (wrap (rngD 0 n)) g else .no := rfl
  rw [e, if_pos (okRg_nat h)]
@[simp] theorem s_enum : fEnum fa ρ g = (fa ρ g).bind fun x g1 => match x with
  | .list xs => .ok (enumD xs) g1
  | .tuple xs => .ok (enumD xs) g1
  | _ => .no := id rfl
@[simp] theorem s_zip : fZip fa fb ρ g = (fa ρ g).bind fun x g1 => (fb ρ g1).bind fun y g2 => match x, y with
  | .list xs, .list ys => .ok (zipD xs ys) g2
  | .tuple xs, .tuple ys => .ok (zipD xs ys) g2
  | _, _ => .no := id rfl
@[simp] theorem s_asg {t : Tg} : fAsg t fa ρ g = (fa ρ g).bind fun d g1 => match bindT t d with
  | some l => .ok (.nx (setE ρ l)) g1
  | none => .no := id rfl
@[simp] theorem s_for {t : Tg} {fi : FnL} {b : FnS} : fFor fi t b ρ g = (fi ρ g).bind fun ds g1 => loopF t b ds ρ g1 := id rfl
@[simp] theorem s_par {is : List Nat} {ms : List Mk} : fPar is ms ρ g = (fMs ms ρ g).bind fun l g1 => .ok (.nx (setL ρ is l)) g1 := id rfl
@[simp] theorem s_ms0 : fMs [] ρ g = .ok [] g := id rfl
@[simp] theorem s_ms1 {f : Fn} {r : List Mk} : fMs (.sh f :: r) ρ g = (f ρ g).bind fun d g1 => (fMs r ρ g1).bind fun l g2 => .ok (.sh d :: l) g2 := id rfl
@[simp] theorem s_ms2 {f : Fn} {r : List Mk} : fMs (.ow f :: r) ρ g = (f ρ g).bind fun d g1 => (fMs r ρ g1).bind fun l g2 => .ok (.ow d :: l) g2 := id rfl
@[simp] theorem s_setL1 {i : Nat} {is : List Nat} {s : Sl} {l : List Sl} : setL ρ (i :: is) (s :: l) = setL (ρ.set i s) is l := id rfl
@[simp] theorem s_setL0 {l : List Sl} : setL ρ [] l = ρ := by cases l <;> rfl
@[simp] theorem s_setE0 : setE ρ [] = ρ := id rfl
@[simp] theorem s_setE1 {i : Nat} {d : PyData} {r : List (Nat × PyData)} : setE ρ ((i, d) :: r) = setE (ρ.set i (.sh d)) r := id rfl
@[simp] theorem s_wipe0 : wipeE ρ [] = ρ := id rfl
@[simp] theorem s_wipe1 {v : Nat} {vs : List Nat} : wipeE ρ (v :: vs) = (wipeE ρ vs).set v .un := id rfl
@[simp] theorem s_bindNm {i : Nat} {d : PyData} : bindT (.nm i) d = some [(i, d)] := by unfold bindT; rfl
@[simp] theorem s_slc {fl fh : Option Fn} : fSlc fa fl fh ρ g = (fa ρ g).bind fun x g1 => Res.bindI fl ρ g1 fun l g2 => Res.bindI fh ρ g2 fun h g3 => kSlc x l h g3 := id rfl
@[simp] theorem s_bindI0 {k : Option Int → Gs → Res β} : Res.bindI none ρ g k = k none g := id rfl
@[simp] theorem s_bindI1 {f : Fn} {k : Option Int → Gs → Res β} : Res.bindI (some f) ρ g k = (f ρ g).bind fun x g1 => match x with
  | .int i => k (some i) g1
  | _ => .no := id rfl
@[simp] theorem s_fz {i : Nat} {f : FnS} : fFz i f ρ g = if wOk ρ g then f (frzE ρ i) g else .no := id rfl
end
section
variable {g : Gs}
@[simp] theorem k_addI {i j : Int} : kAdd (.int i) (.int j) g = .ok (.int (i + j)) g := id rfl
@[simp] theorem k_subI {i j : Int} : kSub (.int i) (.int j) g = .ok (.int (i - j)) g := id rfl
@[simp] theorem k_ltI {i j : Int} : kLt (.int i) (.int j) g = .ok (.bool (decide (i < j))) g := id rfl
@[simp] theorem k_leI {i j : Int} : kLe (.int i) (.int j) g = .ok (.bool (decide (i ≤ j))) g := id rfl
@[simp] theorem k_gtI {i j : Int} : kGt (.int i) (.int j) g = .ok (.bool (decide (j < i))) g := id rfl
@[simp] theorem k_geI {i j : Int} : kGe (.int i) (.int j) g = .ok (.bool (decide (j ≤ i))) g := id rfl
@[simp] theorem k_lenT {l : List PyData} : kLen (.tuple l) g = .ok (.int l.length) g := id rfl
@[simp] theorem k_lenL {l : List PyData} : kLen (.list l) g = .ok (.int l.length) g := id rfl
@[simp] theorem k_lenD {l : List (PyData × PyData)} : kLen (.dict l) g = .ok (.int l.length) g := id rfl
@[simp] theorem k_tupT {l : List PyData} : kTuple (.tuple l) g = .ok (.tuple l) g := id rfl
@[simp] theorem k_tupL {l : List PyData} : kTuple (.list l) g = .ok (.tuple l) g := id rfl
theorem k_addT {a b : List PyData} (h : a.length + b.length ≤ sizeLine) : kAdd (.tuple a) (.tuple b) g = .ok (.tuple (a ++ b)) g := by
  show (if _ then _ else _) = _
  rw [if_pos h]
theorem k_addL {a b : List PyData} (h : a.length + b.length ≤ sizeLine) : kAdd (.list a) (.list b) g = .ok (.list (a ++ b)) g := by
  show (if _ then _ else _) = _
  rw [if_pos h]
theorem k_eq {α : Type} [DecidableEq α] [Enc α] {neg : Bool} {a b : α} (h : Enc.d α ≤ 60 := by decide) : kEqX neg (Enc.e a) (Enc.e b) g = .ok (.bool (if neg then !decide (a = b) else decide (a = b))) g := by
  unfold kEqX; rw [eqX_e h]
theorem k_eqL {α : Type} [DecidableEq α] [Enc α] {neg : Bool} {a b : List α} (h : Enc.d α ≤ 59 := by decide) : kEqX neg (lD a) (lD b) g = .ok (.bool (if neg then !decide (a = b) else decide (a = b))) g := by
  unfold kEqX; rw [eqX_l h]
theorem k_inT {α : Type} [DecidableEq α] [Enc α] {neg : Bool} {a : α} {b : List α} (h : Enc.d α ≤ 59 := by decide) : kInX neg (Enc.e a) (.tuple (b.map Enc.e)) g = .ok (.bool (if neg then !decide (a ∈ b) else decide (a ∈ b))) g := by
  unfold kInX; rw [inX_t h]
theorem k_inL {α : Type} [DecidableEq α] [Enc α] {neg : Bool} {a : α} {b : List α} (h : Enc.d α ≤ 59 := by decide) : kInX neg (Enc.e a) (.list (b.map Enc.e)) g = .ok (.bool (if neg then !decide (a ∈ b) else decide (a ∈ b))) g := by
  unfold kInX; rw [inX_l h]
/-- indices -/
theorem atI_nat {α : Type} {xs : List α} {i : Nat} {x : α} (h : xs[i]? = some x) : atI xs (i : Int) = some x := by
  have hl : i < xs.length := by
    rcases Nat.lt_or_ge i xs.length with q | q
    · exact q
    · rw [List.getElem?_eq_none q] at h; cases h
  unfold atI ixN
  rw [if_pos (by omega), if_pos (by omega)]
  simpa using h
theorem atI_neg1 {α : Type} {xs : List α} {x : α} (h : xs.getLast? = some x) : atI xs (-1) = some x := by
  have hl : xs ≠ [] := by rintro rfl; cases h
  have hp : 0 < xs.length := List.length_pos_iff.mpr hl
  unfold atI ixN
  rw [if_neg (by decide), if_pos (by omega)]
  rw [List.getLast?_eq_getElem?] at h
  show xs[((-1 : Int) + xs.length).toNat]? = _
  rw [show ((-1 : Int) + xs.length).toNat = xs.length - 1 by omega]
  exact h
theorem k_atT {xs : List PyData} {i : Nat} {x : PyData} (h : xs[i]? = some x) : kAt (.tuple xs) (.int i) g = .ok x g := by
  unfold kAt
  rw [show atX (.tuple xs) (.int i) = atI xs i from rfl, atI_nat h]
theorem k_atL {xs : List PyData} {i : Nat} {x : PyData} (h : xs[i]? = some x) : kAt (.list xs) (.int i) g = .ok x g := by
  unfold kAt
  rw [show atX (.list xs) (.int i) = atI xs i from rfl, atI_nat h]
theorem k_atT1 {xs : List PyData} {x : PyData} (h : xs.getLast? = some x) : kAt (.tuple xs) (.int (-1)) g = .ok x g := by
  unfold kAt
  rw [show atX (.tuple xs) (.int (-1)) = atI xs (-1) from rfl, atI_neg1 h]
@[simp] theorem k_at0 {x : PyData} {xs : List PyData} : kAt (.tuple (x :: xs)) (.int 0) g = .ok x g := k_atT (i := 0) rfl
@[simp] theorem k_at1 {x y : PyData} {xs : List PyData} : kAt (.tuple (x :: y :: xs)) (.int 1) g = .ok y g := k_atT (i := 1) rfl
@[simp] theorem k_at2 {x y z : PyData} {xs : List PyData} : kAt (.tuple (x :: y :: z :: xs)) (.int 2) g = .ok z g := k_atT (i := 2) rfl
end
section
variable {g : Gs}
@[simp] theorem k_eqI {neg : Bool} {i j : Int} : kEqX neg (.int i) (.int j) g = .ok (.bool (if neg then !decide (i = j) else decide (i = j))) g := k_eq (a := i) (b := j)
@[simp] theorem k_eqOI {neg : Bool} {i : Option Int} {j : Int} : kEqX neg (oD i) (.int j) g = .ok (.bool (if neg then !decide (i = some j) else decide (i = some j))) g := k_eq (a := i) (b := some j)
@[simp] theorem k_eqOO {neg : Bool} {i j : Option Int} : kEqX neg (oD i) (oD j) g = .ok (.bool (if neg then !decide (i = j) else decide (i = j))) g := k_eq (a := i) (b := j)
@[simp] theorem k_eqIO {neg : Bool} {i : Int} {j : Option Int} : kEqX neg (.int i) (oD j) g = .ok (.bool (if neg then !decide (some i = j) else decide (some i = j))) g := k_eq (a := some i) (b := j)
@[simp] theorem k_eqTT {neg : Bool} {a b : List Int} : kEqX neg (.tuple (a.map .int)) (.tuple (b.map .int)) g = .ok (.bool (if neg then !decide (a = b) else decide (a = b))) g := k_eq (a := a) (b := b)
@[simp] theorem k_eqLL {neg : Bool} {a b : List Int} : kEqX neg (.list (a.map .int)) (.list (b.map .int)) g = .ok (.bool (if neg then !decide (a = b) else decide (a = b))) g := k_eqL (a := a) (b := b)
@[simp] theorem k_inTI {neg : Bool} {a : Int} {b : List Int} : kInX neg (.int a) (.tuple (b.map .int)) g = .ok (.bool (if neg then !decide (a ∈ b) else decide (a ∈ b))) g := k_inT (a := a) (b := b)
@[simp] theorem k_inLI {neg : Bool} {a : Int} {b : List Int} : kInX neg (.int a) (.list (b.map .int)) g = .ok (.bool (if neg then !decide (a ∈ b) else decide (a ∈ b))) g := k_inL (a := a) (b := b)
@[simp] theorem tst_ff {c d : Bool} : tst (.bool c) (.ok (PyData.bool false) g) (.ok (PyData.bool d) g) = .ok (PyData.bool (!c && d)) g := by cases c <;> rfl
@[simp] theorem tst_tt {c d : Bool} : tst (.bool c) (.ok (PyData.bool d) g) (.ok (PyData.bool true) g) = .ok (PyData.bool (!c || d)) g := by cases c <;> rfl
@[simp] theorem isN_oD {o : Option Int} : isNonD (oD o) = o.isNone := by cases o <;> rfl
@[simp] theorem isN_int {i : Int} : isNonD (.int i) = false := id rfl
@[simp] theorem isN_tup {l : List PyData} : isNonD (.tuple l) = false := id rfl
@[simp] theorem isN_lst {l : List PyData} : isNonD (.list l) = false := id rfl
@[simp] theorem isN_non : isNonD .none = true := id rfl
end
/-! ### sorted lists of ints -/
abbrev srt (l : List Int) : List Int := l.mergeSort fun a b => decide (a ≤ b)
theorem strict_ext : ∀ {a b : List Int}, a.Pairwise (· < ·) → b.Pairwise (· < ·) → (∀ x, x ∈ a ↔ x ∈ b) → a = b
  | [], [], _, _, _ => rfl
  | [], y :: b, _, _, h => absurd ((h y).mpr List.mem_cons_self) (by simp)
  | x :: a, [], _, _, h => absurd ((h x).mp List.mem_cons_self) (by simp)
  | x :: a, y :: b, ha, hb, h => by
    have ha' := List.pairwise_cons.mp ha
    have hb' := List.pairwise_cons.mp hb
    have e : x = y := by
      have h1 := (h x).mp List.mem_cons_self
      have h2 := (h y).mpr List.mem_cons_self
      rcases List.mem_cons.mp h1 with q | q
      · exact q
      rcases List.mem_cons.mp h2 with p | p
      · exact p.symm
      have := ha'.1 _ p
      have := hb'.1 _ q
      omega
    subst e
    rw [strict_ext ha'.2 hb'.2 fun z => ⟨fun hz => ?_, fun hz => ?_⟩]
    · rcases List.mem_cons.mp ((h z).mp (List.mem_cons_of_mem _ hz)) with q | q
      · have := ha'.1 _ hz; omega
      · exact q
    · rcases List.mem_cons.mp ((h z).mpr (List.mem_cons_of_mem _ hz)) with q | q
      · have := hb'.1 _ hz; omega
      · exact q
theorem insU_srt {x : Int} : ∀ {l : List Int}, l.Pairwise (· < ·) → (insU x l).Pairwise (· < ·)
  | [], _ => by simp [insU]
  | y :: l, h => by
    have h' := List.pairwise_cons.mp h
    unfold insU
    by_cases h1 : x < y
    · rw [if_pos h1]
      refine List.pairwise_cons.mpr ⟨fun z hz => ?_, h⟩
      rcases List.mem_cons.mp hz with q | q
      · omega
      · have := h'.1 _ q; omega
    · by_cases h2 : x = y
      · rw [if_neg h1, if_pos h2]; exact h
      · rw [if_neg h1, if_neg h2]
        refine List.pairwise_cons.mpr ⟨fun z hz => ?_, insU_srt h'.2⟩
        rcases insU_mem.mp hz with q | q
        · omega
        · exact h'.1 _ q
theorem sortU_srt : ∀ {l : List Int}, (sortU l).Pairwise (· < ·)
  | [] => List.Pairwise.nil
  | x :: l => insU_srt sortU_srt
theorem srt_pw (l : List Int) : (srt l).Pairwise (· ≤ ·) := by
  have h := List.pairwise_mergeSort (le := fun a b : Int => decide (a ≤ b)) (by simp; intros; omega) (by simp; intros; omega) l
  exact h.imp fun q => by simpa using q
theorem srt_mem {l : List Int} {x : Int} : x ∈ srt l ↔ x ∈ l := List.mem_mergeSort
theorem srt_nodup {l : List Int} (h : l.Nodup) : (srt l).Pairwise (· < ·) := by
  have h1 : (srt l).Nodup := (List.mergeSort_perm l _).nodup_iff.mpr h
  have h2 := srt_pw l
  have h3 := h2.and h1
  exact h3.imp fun q => by omega
/-- the same as sorted(set(..)) -/
theorem srt_eq {ks ns : List Int} (h : ks.Nodup) (m : ∀ x, x ∈ ks ↔ x ∈ ns) : srt ks = sortU ns :=
  strict_ext (srt_nodup h) sortU_srt fun x => by rw [srt_mem, sortU_mem, m]
theorem sortU_ext {a b : List Int} (m : ∀ x, x ∈ a ↔ x ∈ b) : sortU a = sortU b :=
  strict_ext sortU_srt sortU_srt fun x => by rw [sortU_mem, sortU_mem, m]
theorem sortU_len {l : List Int} : (sortU l).length ≤ l.length := by
  have ins : ∀ (x : Int) (l : List Int), (insU x l).length ≤ l.length + 1 := by
    intro x l
    induction l with
    | nil => simp [insU]
    | cons y l ih =>
      unfold insU
      by_cases h1 : x < y
      · simp [h1]
      · by_cases h2 : x = y
        · simp [h1, h2]
        · simp only [if_neg h1, if_neg h2, List.length_cons]; omega
  induction l with
  | nil => simp [sortU]
  | cons x l ih => have := ins x (sortU l); rw [sortU, List.length_cons]; omega
theorem sortD_ints (l : List Int) : sortD (l.map .int) = (srt l).map .int := by
  unfold sortD
  refine (PySem.W.sort_maps (r := fun a b : Int => decide (a ≤ b)) PyData.int fun a _ b _ => ?_).symm
  show decide (a ≤ b) = !(PyProof.Rows.lexLt itemOrd [.inl b] [.inl a])
  show decide (a ≤ b) = !(decide (b < a) || (!decide (a < b) && false))
  by_cases h : a ≤ b
  · have : ¬ b < a := by omega
    simp [h]
  · have : b < a := by omega
    simp [h, this]
theorem sortOk_ints (l : List Int) : sortOk (l.map .int) = true := by
  unfold sortOk
  rw [Bool.and_eq_true, List.all_eq_true, List.all_eq_true]
  refine ⟨fun x hx => ?_, fun x hx => ?_⟩
  · obtain ⟨i, _, rfl⟩ := List.mem_map.mp hx
    rw [List.all_eq_true]
    intro y hy
    obtain ⟨j, _, rfl⟩ := List.mem_map.mp hy
    rfl
  · obtain ⟨i, _, rfl⟩ := List.mem_map.mp hx
    have := sm_e (α := Int) (a := i)
    rw [show PyData.int i = Enc.e i from rfl, this]; rfl
@[simp] theorem k_sortedL {l : List Int} {g : Gs} : kSorted (.list (l.map .int)) g = .ok (.list ((srt l).map .int)) g := by
  show (if sortOk (l.map PyData.int) then _ else _) = _
  rw [sortOk_ints, sortD_ints]; rfl
theorem k_sortedD {kvs : List (PyData × PyData)} {l : List Int} {g : Gs} (h : kvs.map Prod.fst = l.map .int) : kSorted (.dict kvs) g = .ok (.list ((srt l).map .int)) g := by
  show (if sortOk (kvs.map Prod.fst) then _ else _) = _
  rw [h, sortOk_ints, sortD_ints]; rfl
theorem k_srtSet {l : List Int} {g : Gs} (h : l.length < 63) : kSrtSet (.list (l.map .int)) g = .ok (.list ((sortU l).map .int)) g := by
  have := sortU_len (l := l)
  unfold kSrtSet itemsD
  simp only [asInts_ints]
  rw [if_pos ⟨Nat.lt_trans (show l.length + 1 < 64 by omega) (by decide), by omega⟩]
theorem cut_1 {α : Type} (xs : List α) : cutD xs (some 1) none = xs.drop 1 := by
  cases xs with
  | nil => rfl
  | cons x xs => simp [cutD, HT.sIx]
@[simp] theorem k_slcT1 {xs : List PyData} {g : Gs} : kSlc (.tuple xs) (some 1) none g = .ok (.tuple (xs.drop 1)) g := by
  show Res.ok (PyData.tuple (cutD xs (some 1) none)) g = _
  rw [cut_1]
theorem zipD_map {α β : Type} (f : α → PyData) (h : β → PyData) (a : List α) (b : List β) : zipD (a.map f) (b.map h) = (a.zip b).map fun p => .tuple [f p.1, h p.2] := by
  unfold zipD
  rw [List.zip_map, List.map_map]
  rfl
theorem enumD_map {α : Type} (f : α → PyData) (a : List α) : enumD (a.map f) = a.zipIdx.map fun p => .tuple [.int (p.2 : Nat), f p.1] := by
  unfold enumD
  rw [List.zipIdx_map, List.map_map]
  rfl
theorem rngD_nat (n : Nat) : rngD 0 (n : Int) = (List.range n).map fun i => .int (i : Nat) := by
  unfold rngD
  simp
/-! ### dicts of int keys -/
def insK (ks : List Int) (k : Int) : List Int := if k ∈ ks then ks else ks ++ [k]
theorem insK_mem {ks : List Int} {k z : Int} : z ∈ insK ks k ↔ z ∈ ks ∨ z = k := by
  unfold insK
  by_cases h : k ∈ ks
  · rw [if_pos h]
    constructor
    · exact .inl
    · rintro (q | rfl)
      · exact q
      · exact h
  · simp [h]
theorem insK_nd {ks : List Int} {k : Int} (n : ks.Nodup) : (insK ks k).Nodup := by
  unfold insK
  by_cases h : k ∈ ks
  · rwa [if_pos h]
  · rw [if_neg h]
    refine List.nodup_append.mpr ⟨n, by simp, ?_⟩
    intro a ha b hb
    simp at hb
    subst hb
    rintro rfl
    exact h ha
theorem insK_len {ks : List Int} {k : Int} : (insK ks k).length ≤ ks.length + 1 := by
  unfold insK
  by_cases h : k ∈ ks <;> simp [h]
abbrev fromK (acc l : List Int) : List Int := l.foldl insK acc
theorem fromK_mem {z : Int} : ∀ {l acc : List Int}, z ∈ fromK acc l ↔ z ∈ acc ∨ z ∈ l
  | [], acc => by simp [fromK]
  | x :: l, acc => by
    show z ∈ fromK (insK acc x) l ↔ _
    rw [fromK_mem, insK_mem, List.mem_cons, or_assoc]
theorem fromK_nd : ∀ {l acc : List Int}, acc.Nodup → (fromK acc l).Nodup
  | [], _, h => h
  | x :: l, acc, h => fromK_nd (l := l) (insK_nd h)
theorem fromK_len : ∀ {l acc : List Int}, (fromK acc l).length ≤ acc.length + l.length
  | [], acc => by simp [fromK]
  | x :: l, acc => by
    show (fromK (insK acc x) l).length ≤ _
    have h1 := fromK_len (l := l) (acc := insK acc x)
    have h2 := insK_len (ks := acc) (k := x)
    simp only [List.length_cons]
    omega
/-- the dict of keys to True -/
abbrev tD (ks : List Int) : List (PyData × PyData) := ks.map fun k => (.int k, .bool true)
theorem tD_any {ks : List Int} {k : Int} : ((tD ks).any fun p => PyData.eqv p.1 (.int k)) = decide (k ∈ ks) := by
  have := any_e k ks
  rw [List.any_map] at this
  rw [List.any_map]
  exact this
theorem putD_t {ks : List Int} {k : Int} : putD (tD ks) (.int k) (.bool true) = tD (insK ks k) := by
  unfold putD insK
  rw [tD_any]
  by_cases h : k ∈ ks
  · rw [if_pos (by simpa using h), if_pos h]
    refine (List.map_map).trans (List.map_congr_left fun a _ => ?_)
    show (if PyData.eqv (.int a) (.int k) = true then (PyData.int a, PyData.bool true) else (PyData.int a, PyData.bool true)) = _
    split <;> rfl
  · rw [if_neg (by simpa using h), if_neg h]
    show tD ks ++ _ = tD (ks ++ [k])
    rw [tD, tD, List.map_append]; rfl
theorem putOk_t {ks : List Int} {k : Int} (h : ks.length < sizeLine) : putOk (tD ks) (.int k) = true := by
  unfold putOk
  show (decide ((tD ks).length < sizeLine) && _) = true
  rw [List.length_map, decide_eq_true h, Bool.true_and]
  cases ks <;> rfl
theorem mergeD_t : ∀ {ms ks : List Int}, mergeD (tD ks) (tD ms) = tD (fromK ks ms)
  | [], _ => rfl
  | m :: ms, ks => by
    show mergeD (putD (tD ks) (.int m) (.bool true)) (tD ms) = _
    rw [putD_t, mergeD_t]; rfl
theorem tD_keys {ks : List Int} : (tD ks).map Prod.fst = ks.map .int := by rw [tD, List.map_map]; rfl
theorem tD_flat {ks : List Int} : ((tD ks).all fun kv => keyFlat kv.1) = true := by
  rw [List.all_map, List.all_eq_true]; intro k _; rfl
theorem lookD_t {ks : List Int} {k : Int} : (lookD (.int k) (tD ks)).isSome = decide (k ∈ ks) := by
  unfold lookD
  rw [Option.isSome_map, List.isSome_find?, tD_any]
@[simp] theorem k_inTD {neg : Bool} {ks : List Int} {k : Int} {g : Gs} : kInX neg (.int k) (.dict (tD ks)) g = .ok (.bool (if neg then !decide (k ∈ ks) else decide (k ∈ ks))) g := by
  unfold kInX
  have : inX (.int k) (.dict (tD ks)) = some (decide (k ∈ ks)) := by
    show (getD? (tD ks) (.int k)).map Option.isSome = _
    cases ks with
    | nil => rfl
    | cons x ks =>
      show some (lookD (.int k) (tD (x :: ks))).isSome = _
      rw [lookD_t]
  rw [this]
section
variable {α : Type} {t : Tg} {fc fk fv : Fn} {vs : List Nat} {ρ : L2.PL.Env} {g : Gs}
theorem dcF_t (en : α → PyData) (bn : α → List (Nat × PyData)) (p : α → Bool) (q : α → Int) : ∀ (l : List α) (acc : List Int), (∀ a ∈ l, bindT t (en a) = some (bn a)) → (∀ a ∈ l, fc (setE (wipeE ρ vs) (bn a)) g = .ok (.bool (p a)) g) →
    (∀ a ∈ l, p a = true → fk (setE (wipeE ρ vs) (bn a)) g = .ok (.int (q a)) g) → (∀ a ∈ l, p a = true → fv (setE (wipeE ρ vs) (bn a)) g = .ok (.bool true) g) → acc.length + l.length ≤ sizeLine → dcF t fc fk fv vs ρ (l.map en) (tD acc) g = .ok (.dict (tD (fromK acc ((l.filter p).map q)))) g
  | [], acc, _, _, _, _, _ => by simp [dcF]
  | a :: l, acc, hb, hc, he, hv, hs => by
    have hs' : acc.length + (l.length + 1) ≤ sizeLine := hs
    rw [List.map_cons, dcF, hb a List.mem_cons_self]
    show (Res.calm (fc (setE (wipeE ρ vs) (bn a)) g)).bind _ = _
    rw [hc a List.mem_cons_self, calm_ok, bind_ok]
    have ih := fun acc' => dcF_t en bn p q l acc' (fun b hb' => hb b (List.mem_cons_of_mem _ hb')) (fun b hb' => hc b (List.mem_cons_of_mem _ hb')) (fun b hb' => he b (List.mem_cons_of_mem _ hb')) (fun b hb' => hv b (List.mem_cons_of_mem _ hb'))
    cases hp : p a with
    | false =>
      show dcF t fc fk fv vs ρ (l.map en) (tD acc) g = _
      rw [ih acc (by omega), List.filter_cons_of_neg (by simp [hp])]
    | true =>
      show (Res.calm (fk (setE (wipeE ρ vs) (bn a)) g)).bind _ = _
      rw [he a List.mem_cons_self hp, calm_ok, bind_ok, hv a List.mem_cons_self hp, calm_ok, bind_ok, if_pos (putOk_t (by omega)), putD_t, ih _ (by have := insK_len (ks := acc) (k := q a); omega), List.filter_cons_of_pos hp]
      rfl
theorem ev_dct (en : α → PyData) (bn : α → List (Nat × PyData)) (p : α → Bool) (q : α → Int) {fi : FnL} {l : List α} {g0 : Gs} (hi : fi ρ g0 = .ok (l.map en) g) (hb : ∀ a ∈ l, bindT t (en a) = some (bn a)) (hc : ∀ a ∈ l, fc (setE (wipeE ρ vs) (bn a)) g = .ok (.bool (p a)) g)
    (he : ∀ a ∈ l, p a = true → fk (setE (wipeE ρ vs) (bn a)) g = .ok (.int (q a)) g) (hv : ∀ a ∈ l, p a = true → fv (setE (wipeE ρ vs) (bn a)) g = .ok (.bool true) g) (hs : l.length ≤ sizeLine) : fDc fi t fc fk fv vs ρ g0 = .ok (.dict (tD (fromK [] ((l.filter p).map q)))) g := by
  rw [fDc, hi, bind_ok]
  exact dcF_t en bn p q l [] hb hc he hv (by simpa using hs)
end
@[simp] theorem wOk_some {ρ : L2.PL.Env} {p : List PyData × Int} : wOk ρ (some p) = true := id rfl
theorem ev_upd {ρ : L2.PL.Env} {p : List PyData × Int} {g : Gs} {i : Nat} {fa : Fn} {ks ms : List Int} (h : ρ[i]? = some (.ow (.dict (tD ks)))) (ha : fa ρ g = .ok (.dict (tD ms)) (some p)) (hs : ks.length + ms.length ≤ sizeLine) : fUpd i fa ρ g = .ok (.nx (ρ.set i (.ow (.dict (tD (fromK ks ms)))))) (some p) := by
  unfold fUpd
  simp only [h, ha, bind_ok]
  rw [tD_flat, tD_flat, mergeD_t, wOk_some, if_pos (by simpa using hs)]
theorem ev_enum {α : Type} {ρ : L2.PL.Env} {g : Gs} {fa : Fn} {f : α → PyData} {l : List α} (ha : fa ρ g = .ok (.list (l.map f)) g) : fEnum fa ρ g = .ok (l.zipIdx.map fun p => .tuple [.int (p.2 : Nat), f p.1]) g := by
  simp [ha, enumD_map]
theorem bind_tp2 {a b : Nat} {x y : PyData} : bindT (.tp [.nm a, .nm b]) (.tuple [x, y]) = some [(a, x), (b, y)] := by simp [bindT, bindTs]
theorem ev_enumT {α : Type} {ρ : L2.PL.Env} {g : Gs} {fa : Fn} {f : α → PyData} {l : List α} (ha : fa ρ g = .ok (.tuple (l.map f)) g) : fEnum fa ρ g = .ok (l.zipIdx.map fun p => .tuple [.int (p.2 : Nat), f p.1]) g := by
  simp [ha, enumD_map]
theorem zipIdx_mem {α : Type} {l : List α} {p : α × Nat} (h : p ∈ l.zipIdx) : l[p.2]? = some p.1 := by
  have := List.mem_zipIdx_iff_getElem?.mp h
  simpa using this
/-! ### loops -/
theorem loop_run {t : Tg} {body : FnS} (I : Nat → L2.PL.Env → Gs → Prop) : ∀ (ds : List PyData) (k : Nat) (ρ : L2.PL.Env) (g : Gs), I k ρ g →
    (∀ i ρ g d, ds[i]? = some d → I (k + i) ρ g → ∃ l ρ' g', bindT t d = some l ∧ (body (setE ρ l) g = .ok (.nx ρ') g' ∨ body (setE ρ l) g = .ok (.ct ρ') g') ∧ I (k + i + 1) ρ' g') →
    ∃ ρ' g', loopF t body ds ρ g = .ok (.nx ρ') g' ∧ I (k + ds.length) ρ' g'
  | [], k, ρ, g, h0, _ => ⟨ρ, g, rfl, h0⟩
  | d :: ds, k, ρ, g, h0, h => by
    obtain ⟨l, ρ', g', hb, hx, h1⟩ := h 0 ρ g d rfl h0
    obtain ⟨ρ2, g2, e2, h2⟩ := loop_run I ds (k + 1) ρ' g' h1 fun i ρ g d' hd hi => by
      have e : k + 1 + i = k + (i + 1) := by omega
      rw [e] at hi ⊢
      exact h (i + 1) ρ g d' (by simpa using hd) hi
    refine ⟨ρ2, g2, ?_, by rw [List.length_cons]; rw [show k + (ds.length + 1) = k + 1 + ds.length by omega]; exact h2⟩
    rw [loopF, hb]
    rcases hx with hx | hx
    · show (body (setE ρ l) g).bind _ = _
      rw [hx]; exact e2
    · show (body (setE ρ l) g).bind _ = _
      rw [hx]; exact e2
theorem nodup_len : ∀ {a b : List Int}, a.Nodup → (∀ x ∈ a, x ∈ b) → a.length ≤ b.length
  | [], _, _, _ => Nat.zero_le _
  | y :: a, b, n, h => by
    have n' := List.nodup_cons.mp n
    have hy := h y List.mem_cons_self
    have := nodup_len (a := a) (b := b.erase y) n'.2 fun x hx => by
      have hne : x ≠ y := by rintro rfl; exact n'.1 hx
      exact (List.mem_erase_of_ne hne).mpr (h x (List.mem_cons_of_mem _ hx))
    rw [List.length_erase_of_mem hy] at this
    have hp : 0 < b.length := List.length_pos_of_mem hy
    rw [List.length_cons]; omega
theorem nodup_sup {a b : List Int} (n : a.Nodup) (h : ∀ x ∈ a, x ∈ b) (hl : b.length ≤ a.length) : ∀ x ∈ b, x ∈ a := fun x hx => by
  by_cases q : x ∈ a
  · exact q
  · have := nodup_len (a := x :: a) (b := b) (List.nodup_cons.mpr ⟨q, n⟩) fun y hy => by
      rcases List.mem_cons.mp hy with rfl | hy
      · exact hx
      · exact h y hy
    rw [List.length_cons] at this; omega
@[simp] theorem k_eqT0 {neg : Bool} {l : List Int} {g : Gs} : kEqX neg (.tuple (l.map .int)) (.tuple []) g = .ok (.bool (if neg then !decide (l = []) else decide (l = []))) g := k_eqTT (a := l) (b := [])
@[simp] theorem k_eq00 {neg : Bool} {g : Gs} : kEqX neg (.tuple []) (.tuple []) g = .ok (.bool (!neg)) g := by
  have := k_eqTT (neg := neg) (a := []) (b := []) (g := g)
  cases neg <;> simpa using this
def lastI (l : List Int) : Int := l.getLastD 0
theorem k_last {l : List Int} {g : Gs} (h : l ≠ []) : kAt (.tuple (l.map .int)) (.int (-1)) g = .ok (.int (lastI l)) g := by
  refine k_atT1 ?_
  unfold lastI
  rw [List.getLast?_map, List.getLast?_eq_some_getLast h, List.getLastD_eq_getLast?, List.getLast?_eq_some_getLast h]
  rfl
/-! ### the draw list, more numbers -/
section
variable {ρ : L2.PL.Env} {g : Gs} {fa : Fn}
@[simp] theorem s_drAt {i j : Nat} : fDrAt i j ρ g = match ρ[i]?, g with
  | some .dr, some (xs, c) => match j with
    | 0 => .ok (.list xs) g
    | 1 => .ok (.int 0) g
    | 2 => .ok (.int c) g
    | _ => .no
  | _, _ => .no := id rfl
@[simp] theorem s_drPut {i : Nat} : fDrPut i fa ρ g = match ρ[i]? with
  | some .dr => (fa ρ g).bind fun d g1 => match d, g1 with
    | .int c, some (xs, _) => .ok (.nx ρ) (some (xs, c))
    | _, _ => .no
  | _ => .no := id rfl
@[simp] theorem k_intI {i : Int} : kInt (.int i) g = .ok (.int i) g := id rfl
theorem k_mul {i j : Int} (h : cMul i j = true) : kMulX (.int i) (.int j) g = .ok (.int (i * j)) g := by
  have e : kMulX (.int i) (.int j) g = if cMul i j then .ok (.int (i * j)) g else .no := rfl
  rw [e, if_pos h]
theorem cMul_r {i j : Int} (h : j.natAbs < 18446744073709551616) : cMul i j = true := by
  unfold cMul; rw [decide_eq_true h, Bool.or_true]
theorem cMul_l {i j : Int} (h : i.natAbs < 18446744073709551616) : cMul i j = true := by
  unfold cMul; rw [decide_eq_true h, Bool.true_or]
theorem k_div {i j : Int} (h : 0 < j) (h2 : j.natAbs.log2 < 9000) : kDiv (.int i) (.int j) g = .ok (.int (i / j)) g := by
  have e : kDiv (.int i) (.int j) g = if cDiv i j then .ok (.int (i / j)) g else .no := rfl
  rw [e, if_pos (by unfold cDiv; rw [decide_eq_true h, decide_eq_true h2]; rfl)]
theorem k_mod {i j : Int} (h : 0 < j) : kMod (.int i) (.int j) g = .ok (.int (i % j)) g := by
  have e : kMod (.int i) (.int j) g = if cMod i j then .ok (.int (i % j)) g else .no := rfl
  rw [e, if_pos (by unfold cMod; rw [decide_eq_true h])]
theorem k_pow {i j : Int} (h : cPow i j = true) : kPow (.int i) (.int j) g = .ok (.int (i ^ j.toNat)) g := by
  have e : kPow (.int i) (.int j) g = if cPow i j then .ok (.int (i ^ j.toNat)) g else .no := rfl
  rw [e, if_pos h]
end
theorem loop_list {α : Type} {t : Tg} {body : FnS} (en : α → PyData) (I : List α → L2.PL.Env → Gs → Prop) (l : List α) {ρ : L2.PL.Env} {g : Gs} (h0 : I [] ρ g)
    (h : ∀ (pre : List α) (a : α) (post : List α), l = pre ++ a :: post → ∀ ρ g, I pre ρ g → ∃ r ρ' g', bindT t (en a) = some r ∧ (body (setE ρ r) g = .ok (.nx ρ') g' ∨ body (setE ρ r) g = .ok (.ct ρ') g') ∧ I (pre ++ [a]) ρ' g') :
    ∃ ρ' g', loopF t body (l.map en) ρ g = .ok (.nx ρ') g' ∧ I l ρ' g' := by
  have key := loop_run (t := t) (body := body) (fun k ρ g => I (l.take k) ρ g) (l.map en) 0 ρ g h0 fun i ρ g d hd hi => by
    rw [List.getElem?_map, Option.map_eq_some_iff] at hd
    obtain ⟨a, ha, rfl⟩ := hd
    have hlt : i < l.length := by
      rcases Nat.lt_or_ge i l.length with q | q
      · exact q
      · rw [List.getElem?_eq_none q] at ha; cases ha
    have e1 : l[i] = a := by rw [List.getElem?_eq_getElem hlt] at ha; exact Option.some.inj ha
    rw [Nat.zero_add] at hi ⊢
    obtain ⟨r, ρ', g', a1, a2, a3⟩ := h (l.take i) a (l.drop (i + 1)) (by rw [← e1, List.getElem_cons_drop, List.take_append_drop]) ρ g hi
    refine ⟨r, ρ', g', a1, a2, ?_⟩
    rw [List.take_add_one, ha]
    exact a3
  obtain ⟨ρ', g', e, hI⟩ := key
  rw [Nat.zero_add, List.length_map, List.take_length] at hI
  exact ⟨ρ', g', e, hI⟩
/-! ### refusals -/
def shOk (d : PyData) : Bool := reprOk d && d.showable && decide (d.shown.length ≤ sizeLine)
theorem refu_same {d : PyData} {g : Gs} (h : shOk d = true) : refuD d (.bad d g) = .ok (.bool true) g := by
  unfold shOk at h
  rw [Bool.and_eq_true, Bool.and_eq_true] at h
  have e : refuD d (.bad d g) = if reprOk d && d.showable && decide (d.shown.length ≤ sizeLine) && reprOk d && d.showable && decide (d.shown.length ≤ sizeLine) then .ok (.bool (decide (d.shown = d.shown))) g else .no := rfl
  rw [e, h.1.1, h.1.2, h.2]
  simp
/-! ### comprehensions that draw -/
section
variable {α β : Type} {t : Tg} {fc fe : Fn} {vs : List Nat} {ρ : L2.PL.Env}
theorem lcF_sel (J : Gs → Prop) (en : α → PyData) (bn : α → List (Nat × PyData)) (q : α → PyData) : ∀ (l : List α) (acc : List PyData) (g : Gs), J g → (∀ a ∈ l, bindT t (en a) = some (bn a)) → (∀ a ∈ l, ∀ g, J g → ∃ b g', fc (setE (wipeE ρ vs) (bn a)) g = .ok (.bool b) g' ∧ J g') →
    (∀ a ∈ l, ∀ g, J g → fe (setE (wipeE ρ vs) (bn a)) g = .ok (q a) g) → acc.length + l.length ≤ sizeLine → ∃ (sel : List α) (g' : Gs), sel.Sublist l ∧ J g' ∧ lcF t fc fe vs ρ (l.map en) acc g = .ok (.list (acc ++ sel.map q)) g'
  | [], acc, g, hg, _, _, _, _ => ⟨[], g, List.Sublist.slnil, hg, by simp [lcF]⟩
  | a :: l, acc, g, hg, hb, hc, he, hs => by
    have hs' : acc.length + (l.length + 1) ≤ sizeLine := hs
    obtain ⟨b, g1, e1, h1⟩ := hc a List.mem_cons_self g hg
    have ih := fun acc' => lcF_sel J en bn q l acc' g1 h1 (fun b hb' => hb b (List.mem_cons_of_mem _ hb')) (fun b hb' => hc b (List.mem_cons_of_mem _ hb')) (fun b hb' => he b (List.mem_cons_of_mem _ hb'))
    rw [List.map_cons, lcF, hb a List.mem_cons_self]
    cases b with
    | false =>
      obtain ⟨sel, g2, s1, s2, s3⟩ := ih acc (by omega)
      refine ⟨sel, g2, s1.cons a, s2, ?_⟩
      show (Res.calm (fc (setE (wipeE ρ vs) (bn a)) g)).bind _ = _
      rw [e1, calm_ok, bind_ok]
      exact s3
    | true =>
      obtain ⟨sel, g2, s1, s2, s3⟩ := ih (acc ++ [q a]) (by rw [List.length_append]; simp; omega)
      refine ⟨a :: sel, g2, s1.cons₂ a, s2, ?_⟩
      show (Res.calm (fc (setE (wipeE ρ vs) (bn a)) g)).bind _ = _
      rw [e1, calm_ok, bind_ok]
      show (Res.calm (fe (setE (wipeE ρ vs) (bn a)) g1)).bind _ = _
      rw [he a List.mem_cons_self g1 h1, calm_ok, bind_ok, if_pos (by omega), s3]
      simp
theorem ev_lcsel (J : Gs → Prop) (en : α → PyData) (bn : α → List (Nat × PyData)) (q : α → PyData) {fi : FnL} {l : List α} {g0 g : Gs} (hi : fi ρ g0 = .ok (l.map en) g) (hg : J g) (hb : ∀ a ∈ l, bindT t (en a) = some (bn a)) (hc : ∀ a ∈ l, ∀ g, J g → ∃ b g', fc (setE (wipeE ρ vs) (bn a)) g = .ok (.bool b) g' ∧ J g')
    (he : ∀ a ∈ l, ∀ g, J g → fe (setE (wipeE ρ vs) (bn a)) g = .ok (q a) g) (hs : l.length ≤ sizeLine) : ∃ (sel : List α) (g' : Gs), sel.Sublist l ∧ J g' ∧ fLc fi t fc fe vs ρ g0 = .ok (.list (sel.map q)) g' := by
  obtain ⟨sel, g', h1, h2, h3⟩ := lcF_sel J en bn q l [] g hg hb hc he (by simpa using hs)
  exact ⟨sel, g', h1, h2, by rw [fLc, hi, bind_ok, h3, List.nil_append]⟩
theorem lcF_drw (J : Gs → Prop) (en : α → PyData) (bn : α → List (Nat × PyData)) (q : β → PyData) (P : β → Prop) : ∀ (l : List α) (acc : List PyData) (g : Gs), J g → (∀ a ∈ l, bindT t (en a) = some (bn a)) →
    (∀ a ∈ l, ∀ g, J g → ∃ b g', fe (setE (wipeE ρ vs) (bn a)) g = .ok (q b) g' ∧ J g' ∧ P b) → acc.length + l.length ≤ sizeLine → ∃ (w : List β) (g' : Gs), w.length = l.length ∧ (∀ b ∈ w, P b) ∧ J g' ∧ lcF t fYes fe vs ρ (l.map en) acc g = .ok (.list (acc ++ w.map q)) g'
  | [], acc, g, hg, _, _, _ => ⟨[], g, rfl, by simp, hg, by simp [lcF]⟩
  | a :: l, acc, g, hg, hb, he, hs => by
    have hs' : acc.length + (l.length + 1) ≤ sizeLine := hs
    obtain ⟨b, g1, e1, h1, hP⟩ := he a List.mem_cons_self g hg
    obtain ⟨w, g2, s0, s1, s2, s3⟩ := lcF_drw J en bn q P l (acc ++ [q b]) g1 h1 (fun b hb' => hb b (List.mem_cons_of_mem _ hb')) (fun b hb' => he b (List.mem_cons_of_mem _ hb')) (by rw [List.length_append]; simp; omega)
    rw [List.map_cons, lcF, hb a List.mem_cons_self]
    refine ⟨b :: w, g2, by simp [s0], fun c hc => ?_, s2, ?_⟩
    · rcases List.mem_cons.mp hc with rfl | hc
      · exact hP
      · exact s1 c hc
    · show (Res.calm (fe (setE (wipeE ρ vs) (bn a)) g)).bind _ = _
      rw [e1, calm_ok, bind_ok, if_pos (by omega), s3]
      simp
theorem ev_lcdrw (J : Gs → Prop) (en : α → PyData) (bn : α → List (Nat × PyData)) (q : β → PyData) (P : β → Prop) {fi : FnL} {l : List α} {g0 g : Gs} (hi : fi ρ g0 = .ok (l.map en) g) (hg : J g) (hb : ∀ a ∈ l, bindT t (en a) = some (bn a))
    (he : ∀ a ∈ l, ∀ g, J g → ∃ b g', fe (setE (wipeE ρ vs) (bn a)) g = .ok (q b) g' ∧ J g' ∧ P b) (hs : l.length ≤ sizeLine) : ∃ (w : List β) (g' : Gs), w.length = l.length ∧ (∀ b ∈ w, P b) ∧ J g' ∧ fLc fi t fYes fe vs ρ g0 = .ok (.list (w.map q)) g' := by
  obtain ⟨w, g', h0, h1, h2, h3⟩ := lcF_drw J en bn q P l [] g hg hb he (by simpa using hs)
  exact ⟨w, g', h0, h1, h2, by rw [fLc, hi, bind_ok, h3, List.nil_append]⟩
end
@[simp] theorem k_eqB {neg a b : Bool} {g : Gs} : kEqX neg (.bool a) (.bool b) g = .ok (.bool (if neg then !decide (a = b) else decide (a = b))) g := k_eq (a := a) (b := b)
end PL
end L2
set_option Elab.async false
set_option linter.all false
set_option maxRecDepth 100000
/-! M2: dicts of int keys to anything, for the mathematics of a law -/
namespace L2
namespace PL
open PySem PySem.Spec PyProof.Rows
abbrev AL := List (Int × PyData)
abbrev kv2 (l : AL) : List (PyData × PyData) := l.map fun p => (PyData.int p.1, p.2)
abbrev dA (l : AL) : PyData := .dict (kv2 l)
/-- what stands at a key -/
def gA (l : AL) (k : Int) : Option PyData := (l.find? fun p => decide (p.1 = k)).map Prod.snd
def keyA (l : AL) : List Int := l.map Prod.fst
def putA (l : AL) (k : Int) (v : PyData) : AL := if k ∈ keyA l then l.map (fun p => if p.1 = k then (p.1, v) else p) else l ++ [(k, v)]
theorem gA_some {l : AL} {k : Int} : (gA l k).isSome = decide (k ∈ keyA l) := by
  unfold gA keyA
  rw [Option.isSome_map, List.isSome_find?]
  induction l with
  | nil => rfl
  | cons p l ih =>
    rw [List.any_cons, ih, List.map_cons]
    by_cases h : p.1 = k
    · simp [h]
    · have : ¬ k = p.1 := fun z => h z.symm
      simp [h, this]
theorem gA_mem {l : AL} {k : Int} {v : PyData} (h : gA l k = some v) : (k, v) ∈ l := by
  unfold gA at h
  rw [Option.map_eq_some_iff] at h
  obtain ⟨p, hp, rfl⟩ := h
  have h1 := List.find?_some hp
  have h2 := List.mem_of_find?_eq_some hp
  have : p.1 = k := of_decide_eq_true h1
  rw [← this]; exact h2
theorem gA_of {l : AL} {k : Int} {v : PyData} (n : (keyA l).Nodup) (h : (k, v) ∈ l) : gA l k = some v := by
  induction l with
  | nil => simp at h
  | cons p l ih =>
    have n' := List.nodup_cons.mp n
    rcases List.mem_cons.mp h with q | q
    · rw [← q]; simp [gA]
    · have hne : p.1 ≠ k := fun z => n'.1 (List.mem_map.mpr ⟨(k, v), q, z.symm⟩)
      have := ih n'.2 q
      unfold gA at this ⊢
      rw [List.find?_cons, decide_eq_false hne]
      exact this
theorem lookD_A {l : AL} {k : Int} : lookD (.int k) (kv2 l) = gA l k := by
  unfold lookD gA kv2
  rw [List.find?_map, Option.map_map]
  rfl
theorem getD_A {l : AL} {k : Int} : getD? (kv2 l) (.int k) = some (gA l k) := by
  cases l with
  | nil => rfl
  | cons p l =>
    show some (lookD (.int k) (kv2 (p :: l))) = _
    rw [lookD_A]
section
variable {g : Gs}
@[simp] theorem k_inA {neg : Bool} {l : AL} {k : Int} : kInX neg (.int k) (dA l) g = .ok (.bool (if neg then !decide (k ∈ keyA l) else decide (k ∈ keyA l))) g := by
  unfold kInX
  have : inX (.int k) (dA l) = some (decide (k ∈ keyA l)) := by
    show (getD? (kv2 l) (.int k)).map Option.isSome = _
    rw [getD_A]
    show some (gA l k).isSome = _
    rw [gA_some]
  rw [this]
theorem k_atA {l : AL} {k : Int} {v : PyData} (h : gA l k = some v) : kAt (dA l) (.int k) g = .ok v g := by
  unfold kAt
  have : atX (dA l) (.int k) = some v := by
    show (getD? (kv2 l) (.int k)).bind id = _
    rw [getD_A, h]; rfl
  rw [this]
theorem kv2_flat {l : AL} : (kv2 l).all (fun kv => keyFlat kv.1) = true := by
  rw [List.all_map, List.all_eq_true]; intro k _; rfl
theorem kv2_keys {l : AL} : (kv2 l).map Prod.fst = (keyA l).map .int := by
  unfold kv2 keyA; rw [List.map_map, List.map_map]; rfl
theorem kv2_len {l : AL} : (kv2 l).length = l.length := List.length_map _
@[simp] theorem k_lenA {l : AL} : kLen (dA l) g = .ok (.int l.length) g := by rw [k_lenD, kv2_len]
theorem k_sortedA {l : AL} : kSorted (dA l) g = .ok (.list ((srt (keyA l)).map .int)) g := k_sortedD kv2_keys
@[simp] theorem k_listA {l : AL} : kList (dA l) g = .ok (.list ((keyA l).map .int)) g := by
  show Res.ok (PyData.list ((kv2 l).map Prod.fst)) g = _
  rw [kv2_keys]
@[simp] theorem walk_A {l : AL} : walkD (dA l) = some ((keyA l).map .int) := by
  show some ((kv2 l).map Prod.fst) = _
  rw [kv2_keys]
theorem putD_A {l : AL} {k : Int} {v : PyData} : putD (kv2 l) (.int k) v = kv2 (putA l k v) := by
  unfold putD putA
  have e : ((kv2 l).any fun p => PyData.eqv p.1 (.int k)) = decide (k ∈ keyA l) := by
    have := any_e k (keyA l)
    unfold keyA at this
    rw [List.map_map, List.any_map] at this
    rw [List.any_map]
    exact this
  rw [e]
  by_cases h : k ∈ keyA l
  · rw [if_pos (by simpa using h), if_pos h]
    unfold kv2
    rw [List.map_map, List.map_map]
    refine List.map_congr_left fun p _ => ?_
    show (if PyData.eqv (.int p.1) (.int k) = true then (PyData.int p.1, v) else (PyData.int p.1, p.2)) = _
    have : PyData.eqv (.int p.1) (.int k) = decide (p.1 = k) := Enc.eqv p.1 k
    rw [this]
    by_cases q : p.1 = k <;> simp [q]
  · rw [if_neg (by simpa using h), if_neg h]
    simp [kv2]
theorem putOk_A {l : AL} {k : Int} (h : l.length < sizeLine) : putOk (kv2 l) (.int k) = true := by
  unfold putOk
  show (decide ((kv2 l).length < sizeLine) && _) = true
  rw [kv2_len, decide_eq_true h, Bool.true_and]
  cases l <;> rfl
def mergeA (l m : AL) : AL := m.foldl (fun acc p => putA acc p.1 p.2) l
theorem mergeD_A : ∀ {m l : AL}, mergeD (kv2 l) (kv2 m) = kv2 (mergeA l m)
  | [], _ => rfl
  | p :: m, l => by
    show mergeD (putD (kv2 l) (.int p.1) p.2) (kv2 m) = _
    rw [putD_A, mergeD_A]; rfl
theorem putA_len {l : AL} {k : Int} {v : PyData} : (putA l k v).length ≤ l.length + 1 := by
  unfold putA; split <;> simp
theorem mergeA_len : ∀ {m l : AL}, (mergeA l m).length ≤ l.length + m.length
  | [], l => by simp [mergeA]
  | p :: m, l => by
    have h1 := mergeA_len (m := m) (l := putA l p.1 p.2)
    have h2 := putA_len (l := l) (k := p.1) (v := p.2)
    show (mergeA (putA l p.1 p.2) m).length ≤ _
    rw [List.length_cons]; omega
theorem putA_get {l : AL} {k j : Int} {v : PyData} : gA (putA l k v) j = if j = k then some v else gA l j := by
  unfold putA
  by_cases h : k ∈ keyA l
  · rw [if_pos h]
    induction l with
    | nil => simp [keyA] at h
    | cons p l ih =>
      unfold gA at ih ⊢
      rw [List.map_cons, List.find?_cons, List.find?_cons]
      by_cases q : p.1 = k
      · subst q
        simp only [if_true]
        by_cases z : j = p.1
        · subst z; simp
        · have z' : ¬ p.1 = j := fun y => z y.symm
          simp only [decide_eq_false z', if_neg z]
          by_cases w : p.1 ∈ keyA l
          · have := ih w
            rw [if_neg z] at this
            exact this
          · have : l.map (fun q => if q.1 = p.1 then (q.1, v) else q) = l := by
              refine (List.map_congr_left fun q hq => ?_).trans (List.map_id l)
              have : q.1 ≠ p.1 := fun y => w (List.mem_map.mpr ⟨q, hq, y⟩)
              simp [this]
            rw [this]
      · simp only [if_neg q]
        have hk : k ∈ keyA l := by
          rcases List.mem_cons.mp h with y | y
          · exact absurd y.symm q
          · exact y
        by_cases z : p.1 = j
        · have zk : ¬ j = k := fun y => q (z.trans y)
          simp [z, zk]
        · simp only [decide_eq_false z]
          exact ih hk
  · rw [if_neg h]
    unfold gA
    rw [List.find?_append]
    by_cases z : j = k
    · subst z
      have : l.find? (fun p => decide (p.1 = j)) = none := by
        rw [List.find?_eq_none]
        intro p hp
        simp only [decide_eq_true_eq]
        exact fun y => h (List.mem_map.mpr ⟨p, hp, y⟩)
      rw [this]; simp
    · have : ¬ k = j := fun y => z y.symm
      simp [this, z]
theorem putA_keys {l : AL} {k : Int} {v : PyData} : keyA (putA l k v) = insK (keyA l) k := by
  unfold putA insK
  by_cases h : k ∈ keyA l
  · rw [if_pos h, if_pos h]
    unfold keyA
    rw [List.map_map]
    refine List.map_congr_left fun p _ => ?_
    show (if p.1 = k then (p.1, v) else p).1 = p.1
    split <;> rfl
  · rw [if_neg h, if_neg h]; simp [keyA]
theorem mergeA_keys : ∀ {m l : AL}, keyA (mergeA l m) = fromK (keyA l) (keyA m)
  | [], _ => rfl
  | p :: m, l => by
    show keyA (mergeA (putA l p.1 p.2) m) = _
    rw [mergeA_keys, putA_keys]; rfl
theorem mergeA_get {j : Int} : ∀ {m l : AL}, (keyA m).Nodup → gA (mergeA l m) j = match gA m j with | some v => some v | none => gA l j
  | [], l, _ => rfl
  | p :: m, l, n => by
    have n' := List.nodup_cons.mp n
    show gA (mergeA (putA l p.1 p.2) m) j = _
    rw [mergeA_get n'.2, putA_get]
    by_cases z : p.1 = j
    · subst z
      have : gA m p.1 = none := by
        have h := gA_some (l := m) (k := p.1)
        rw [decide_eq_false (show ¬ p.1 ∈ keyA m from n'.1)] at h
        cases q : gA m p.1 with
        | none => rfl
        | some v => rw [q] at h; cases h
      rw [this]
      simp [gA]
    · have z' : ¬ j = p.1 := fun y => z y.symm
      have : gA (p :: m) j = gA m j := by unfold gA; rw [List.find?_cons, decide_eq_false z]
      rw [this, if_neg z']
/-- a dict with the same entries, in whatever order -/
theorem dictEq_A {l m : AL} (nl : (keyA l).Nodup) (nm : (keyA m).Nodup) (hv : ∀ p ∈ l, PyData.eqv p.2 p.2 = true) (h : ∀ j, gA l j = gA m j) : dictEq (kv2 l) (kv2 m) = true := by
  unfold dictEq
  rw [Bool.and_eq_true]
  have km : ∀ x, x ∈ keyA l ↔ x ∈ keyA m := fun x => by
    have h1 := gA_some (l := l) (k := x)
    have h2 := gA_some (l := m) (k := x)
    rw [h x] at h1
    have := h1.symm.trans h2
    simpa using this
  refine ⟨?_, ?_⟩
  · rw [kv2_len, kv2_len]
    have a := nodup_len nl fun x hx => (km x).mp hx
    have b := nodup_len nm fun x hx => (km x).mpr hx
    unfold keyA at a b
    simp at a b
    simp; omega
  · rw [List.all_map, List.all_eq_true]
    intro p hp
    show (match lookD (.int p.1) (kv2 m) with | some w => PyData.eqv p.2 w | none => false) = true
    rw [lookD_A, ← h p.1, gA_of nl hp]
    exact hv p hp
theorem dctOk_A {l : AL} (h : ∀ p ∈ l, smD p.2 = true) : dctOk (kv2 l) = true := by
  unfold dctOk
  rw [List.all_map, List.all_eq_true]
  intro p hp
  show (true && smD p.2) = true
  rw [h p hp]; rfl
/-- two dicts alike -/
theorem k_eqA {neg : Bool} {l m : AL} (nl : (keyA l).Nodup) (nm : (keyA m).Nodup) (sl : ∀ p ∈ l, smD p.2 = true) (sm : ∀ p ∈ m, smD p.2 = true) (hv : ∀ p ∈ l, PyData.eqv p.2 p.2 = true) (h : ∀ j, gA l j = gA m j) :
    kEqX neg (dA l) (dA m) g = .ok (.bool (!neg)) g := by
  unfold kEqX
  have : eqX (dA l) (dA m) = some true := by
    have e1 : smD (dA l) = false := rfl
    unfold eqX
    rw [e1]
    show (if dctOk (kv2 l) && dctOk (kv2 m) then some (dictEq (kv2 l) (kv2 m)) else none) = _
    rw [dctOk_A sl, dctOk_A sm, dictEq_A nl nm hv h]; rfl
  rw [this]
  cases neg <;> rfl
theorem gA_absent {l : AL} {k : Int} (h : k ∉ keyA l) : gA l k = none := by
  have := gA_some (l := l) (k := k)
  rw [decide_eq_false h] at this
  cases q : gA l k with
  | none => rfl
  | some v => rw [q] at this; cases this
/-- dict(pairs) of unlike keys -/
theorem mergeA_nil {m : AL} (n : (keyA m).Nodup) : mergeA [] m = m := by
  have go : ∀ (m l : AL), (keyA (l ++ m)).Nodup → mergeA l m = l ++ m := by
    intro m
    induction m with
    | nil => intro l _; simp [mergeA]
    | cons p m ih =>
      intro l h
      have hp : p.1 ∉ keyA l := by
        unfold keyA at h ⊢
        rw [List.map_append, List.map_cons, List.nodup_append] at h
        exact fun z => h.2.2 p.1 z p.1 List.mem_cons_self rfl
      show mergeA (putA l p.1 p.2) m = _
      unfold putA
      rw [if_neg hp, ih (l ++ [(p.1, p.2)]) (by simpa using h)]
      simp
  simpa using go m [] (by simpa using n)
theorem pairsD_A : ∀ {m : AL}, pairsD (m.map fun p => .tuple [.int p.1, p.2]) = some (kv2 m)
  | [] => rfl
  | p :: m => by
    show (if keyFlat (.int p.1) then (pairsD (m.map fun p => .tuple [.int p.1, p.2])).map ((PyData.int p.1, p.2) :: ·) else none) = _
    rw [pairsD_A]; rfl
theorem k_dictP {m : AL} : kDictP (.list (m.map fun p => .tuple [.int p.1, p.2])) g = .ok (dA (mergeA [] m)) g := by
  unfold kDictP
  simp only [pairsD_A]
  have := mergeD_A (m := m) (l := [])
  show Res.ok (PyData.dict (mergeD [] (kv2 m))) g = _
  rw [show ([] : List (PyData × PyData)) = kv2 [] from rfl, this]
section
variable {ρ : L2.PL.Env} {fa fb fk fx : Fn} {g1 g2 g3 : Gs}
theorem ev_items {l : AL} (ha : fa ρ g = .ok (dA l) g1) : fItems fa ρ g = .ok (.list (l.map fun p => .tuple [.int p.1, p.2])) g1 := by
  unfold fItems
  rw [ha, bind_ok]
  simp only [kv2_flat, if_true]
  rw [kv2, List.map_map]; rfl
theorem ev_vals {l : AL} (ha : fa ρ g = .ok (dA l) g1) : fVals fa ρ g = .ok (.list (l.map Prod.snd)) g1 := by
  unfold fVals
  rw [ha, bind_ok]
  simp only [kv2_flat, if_true]
  rw [kv2, List.map_map]; rfl
theorem ev_onV {l : AL} (ha : fa ρ g = .ok (dA l) g1) : fOn dctV fa ρ g = .ok (l.map Prod.snd) g1 := by
  unfold fOn
  rw [ha, bind_ok]
  have : dctV (dA l) = some (l.map Prod.snd) := by
    unfold dctV
    simp only [kv2_flat, if_true]
    rw [kv2, List.map_map]; rfl
  rw [this]
theorem ev_onI {l : AL} (ha : fa ρ g = .ok (dA l) g1) : fOn dctI fa ρ g = .ok (l.map fun p => .tuple [.int p.1, p.2]) g1 := by
  unfold fOn
  rw [ha, bind_ok]
  have : dctI (dA l) = some (l.map fun p => .tuple [.int p.1, p.2]) := by
    unfold dctI
    simp only [kv2_flat, if_true]
    rw [kv2, List.map_map]; rfl
  rw [this]
theorem ev_mrg {l m : AL} (ha : fa ρ g = .ok (dA l) g1) (hb : fb ρ g1 = .ok (dA m) g2) (nl : (keyA l).Nodup) (hz : l.length + m.length ≤ sizeLine) : fMrg fa fb ρ g = .ok (dA (mergeA l m)) g2 := by
  unfold fMrg
  rw [ha, bind_ok]
  simp only [kv2_flat, if_true]
  rw [hb, bind_ok]
  simp only
  have e : mergeD [] (kv2 l) = kv2 l := by
    have := mergeD_A (m := l) (l := [])
    rw [mergeA_nil nl] at this
    exact this
  rw [e, mergeD_A, kv2_len, kv2_len]
  rw [if_pos (by rw [kv2_flat, decide_eq_true hz]; rfl)]
theorem ev_get2 {l : AL} {k : Int} {x : PyData} (ha : fa ρ g = .ok (dA l) g1) (hk : fk ρ g1 = .ok (.int k) g2) (hx : fx ρ g2 = .ok x g3) : fGet2 fa fk fx ρ g = .ok ((gA l k).getD x) g3 := by
  unfold fGet2
  rw [ha, bind_ok]
  simp only [kv2_flat, if_true]
  rw [hk, bind_ok]
  rw [if_pos (by rfl), hx, bind_ok, lookD_A]
end
end
section
variable {α : Type} {t : Tg} {fc fk fv : Fn} {vs : List Nat} {ρ : L2.PL.Env} {g : Gs}
theorem dcF_v (en : α → PyData) (bn : α → List (Nat × PyData)) (p : α → Bool) (q : α → Int) (r : α → PyData) : ∀ (l : List α) (acc : AL), (∀ a ∈ l, bindT t (en a) = some (bn a)) → (∀ a ∈ l, fc (setE (wipeE ρ vs) (bn a)) g = .ok (.bool (p a)) g) →
    (∀ a ∈ l, p a = true → fk (setE (wipeE ρ vs) (bn a)) g = .ok (.int (q a)) g) → (∀ a ∈ l, p a = true → fv (setE (wipeE ρ vs) (bn a)) g = .ok (r a) g) → acc.length + l.length ≤ sizeLine → dcF t fc fk fv vs ρ (l.map en) (kv2 acc) g = .ok (dA (mergeA acc ((l.filter p).map fun a => (q a, r a)))) g
  | [], acc, _, _, _, _, _ => by simp [dcF, mergeA]
  | a :: l, acc, hb, hc, he, hv, hs => by
    have hs' : acc.length + (l.length + 1) ≤ sizeLine := hs
    rw [List.map_cons, dcF, hb a List.mem_cons_self]
    show (Res.calm (fc (setE (wipeE ρ vs) (bn a)) g)).bind _ = _
    rw [hc a List.mem_cons_self, calm_ok, bind_ok]
    have ih := fun acc' => dcF_v en bn p q r l acc' (fun b hb' => hb b (List.mem_cons_of_mem _ hb')) (fun b hb' => hc b (List.mem_cons_of_mem _ hb')) (fun b hb' => he b (List.mem_cons_of_mem _ hb')) (fun b hb' => hv b (List.mem_cons_of_mem _ hb'))
    cases hp : p a with
    | false =>
      show dcF t fc fk fv vs ρ (l.map en) (kv2 acc) g = _
      rw [ih acc (by omega), List.filter_cons_of_neg (by simp [hp])]
    | true =>
      show (Res.calm (fk (setE (wipeE ρ vs) (bn a)) g)).bind _ = _
      rw [he a List.mem_cons_self hp, calm_ok, bind_ok, hv a List.mem_cons_self hp, calm_ok, bind_ok, if_pos (putOk_A (by omega)), putD_A, ih _ (by have := putA_len (l := acc) (k := q a) (v := r a); omega), List.filter_cons_of_pos hp]
      rfl
theorem ev_dcv (en : α → PyData) (bn : α → List (Nat × PyData)) (p : α → Bool) (q : α → Int) (r : α → PyData) {fi : FnL} {l : List α} {g0 : Gs} (hi : fi ρ g0 = .ok (l.map en) g) (hb : ∀ a ∈ l, bindT t (en a) = some (bn a)) (hc : ∀ a ∈ l, fc (setE (wipeE ρ vs) (bn a)) g = .ok (.bool (p a)) g)
    (he : ∀ a ∈ l, p a = true → fk (setE (wipeE ρ vs) (bn a)) g = .ok (.int (q a)) g) (hv : ∀ a ∈ l, p a = true → fv (setE (wipeE ρ vs) (bn a)) g = .ok (r a) g) (hs : l.length ≤ sizeLine) : fDc fi t fc fk fv vs ρ g0 = .ok (dA (mergeA [] ((l.filter p).map fun a => (q a, r a)))) g := by
  rw [fDc, hi, bind_ok]
  exact dcF_v en bn p q r l [] hb hc he hv (by simpa using hs)
end
end PL
end L2
set_option Elab.async false
set_option linter.all false
set_option maxRecDepth 100000
set_option maxHeartbeats 400000
namespace K03
open PySem L2.PL
/-! ### the draws, in every law -/
abbrev Dr0 (ns : List Int) (g : Gs) : Prop := ∃ c : Int, 0 ≤ c ∧ g = some (ns.map .int, c)
theorem d_cell (ns : List Int) {k : Int} (hk : 0 ≤ k) (g : Gs) : ∃ v, F__law_cell_at [.sh (.list (ns.map .int)), .sh (.int k)] g = .ok (.int v) g := by
  by_cases h : k < ns.length
  · have e : k = ((k.toNat : Nat) : Int) := by omega
    have hx : (ns.map PyData.int)[k.toNat]? = some (.int ns[k.toNat]) := by
      rw [List.getElem?_map, List.getElem?_eq_getElem (by omega)]; rfl
    have e2 := k_atL (g := g) hx
    rw [← e] at e2
    exact ⟨_, by simp [F__law_cell_at, b__law_cell_at, h]; rw [e2]; rfl⟩
  · exact ⟨0, by simp [F__law_cell_at, b__law_cell_at, h]⟩
theorem d_prime {k : Int} (h : 0 ≤ k) (g : Gs) : ∃ q : Int, 0 < q ∧ kAt (.tuple [.int 1000003, .int 1000033, .int 1000037, .int 1000039, .int 1000081, .int 1000099, .int 1000117, .int 1000121, .int 1000133, .int 1000151, .int 1000159, .int 1000171, .int 1000183, .int 1000187, .int 1000193, .int 1000199]) (.int (k % 16)) g = .ok (.int q) g := by
  have h1 : 0 ≤ k % 16 := Int.emod_nonneg _ (by decide)
  have h2 : k % 16 < 16 := Int.emod_lt_of_pos _ (by decide)
  generalize k % 16 = j at h1 h2
  have : j = 0 ∨ j = 1 ∨ j = 2 ∨ j = 3 ∨ j = 4 ∨ j = 5 ∨ j = 6 ∨ j = 7 ∨ j = 8 ∨ j = 9 ∨ j = 10 ∨ j = 11 ∨ j = 12 ∨ j = 13 ∨ j = 14 ∨ j = 15 := by omega
  rcases this with rfl | rfl | rfl | rfl | rfl | rfl | rfl | rfl | rfl | rfl | rfl | rfl | rfl | rfl | rfl | rfl <;> exact ⟨_, by decide, rfl⟩
theorem d_draw {cell k b : Int} (hk : 0 ≤ k) (hb : 0 < b) (g : Gs) : ∃ v, F__law_draw [.sh (.int cell), .sh (.int k), .sh (.int b)] g = .ok (.int v) g ∧ 0 ≤ v ∧ v < b := by
  obtain ⟨q, hq, e⟩ := d_prime hk g
  refine ⟨(cell * 48271 + k * 69621) % q % b, ?_, Int.emod_nonneg _ (by omega), Int.emod_lt_of_pos _ hb⟩
  have s16 : 16 ≤ sizeLine := by decide
  simp [F__law_draw, b__law_draw, s16, k_mul (g := g) (cMul_r (i := cell) (j := 48271) (by decide)), k_mul (g := g) (cMul_r (i := k) (j := 69621) (by decide)), k_mod (g := g) (i := k) (j := 16) (by decide), e, k_mod (g := g) hq, k_mod (g := g) hb]
theorem d_number {cell k b : Int} (hk : 1 ≤ k ∧ k ≤ 12) (hb : 0 < b) (g : Gs) : ∃ v, F__law_number [.sh (.int cell), .sh (.int k), .sh (.int b)] g = .ok (.int v) g ∧ 0 ≤ v ∧ v < b := by
  obtain ⟨n, rfl⟩ : ∃ n : Nat, k = n := ⟨k.toNat, by omega⟩
  have hn : n ≤ 12 := by omega
  have k24 : kMod (.int (n : Int)) (.int 24) g = .ok (.int n) g := by
    rw [k_mod (by decide), show (n : Int) % 24 = n by omega]
  have key := loop_run (t := .nm 4) (body := fSet 3 (fBin kMulX (fPk 3) (fCst (.int 1009)))) (fun i ρ g' => g' = g ∧ ∃ x4, ρ = [.sh (.int cell), .sh (.int n), .sh (.int b), .sh (.int (1009 ^ i)), x4, .un, .un]) (rngD 0 (n : Int)) 0 [.sh (.int cell), .sh (.int n), .sh (.int b), .sh (.int 1), .un, .un, .un] g ⟨rfl, .un, rfl⟩ ?_
  · obtain ⟨ρ', g', e, rfl, x4, rfl⟩ := key
    have hlen : (rngD 0 (n : Int)).length = n := by rw [rngD_nat]; simp
    rw [hlen, Nat.zero_add] at e
    have hp : (0 : Int) < 1009 ^ n := Int.pow_pos (by decide)
    have hlog : ((1009 : Int) ^ n).natAbs.log2 < 9000 := by
      have : n = 0 ∨ n = 1 ∨ n = 2 ∨ n = 3 ∨ n = 4 ∨ n = 5 ∨ n = 6 ∨ n = 7 ∨ n = 8 ∨ n = 9 ∨ n = 10 ∨ n = 11 ∨ n = 12 := by omega
      rcases this with q | q | q | q | q | q | q | q | q | q | q | q | q <;> rw [q] <;> decide +kernel
    generalize hs : (1009 : Int) ^ n = sc at e hp hlog
    have h1 : 0 ≤ cell % 1000003 := Int.emod_nonneg _ (by decide)
    have h2 : cell % 1000003 < 1000003 := Int.emod_lt_of_pos _ (by decide)
    have m1 : cMul 977 n = true := cMul_l (by decide)
    have m2 : cMul 31 n = true := cMul_l (by decide)
    have m3 : cMul (cell % 1000003 + 977 * n) (cell % 1000003 + 31 * n + 5) = true := cMul_r (by omega)
    obtain ⟨v, ev, hv⟩ := d_draw (cell := (cell % 1000003 + 977 * n) * (cell % 1000003 + 31 * n + 5)) (k := n % 9 + 1) (b := 999983) (by omega) (by decide) g'
    have e10 : kPow (.int 10) (.int 18) g' = .ok (.int 1000000000000000000) g' := k_pow (by decide +kernel)
    have ed := k_div (g := g') (i := cell - 1000000000000000000) hp hlog
    by_cases hr : 0 < (cell - 1000000000000000000) / sc
    · refine ⟨(cell - 1000000000000000000) / sc % 1009 % b, ?_, Int.emod_nonneg _ (by omega), Int.emod_lt_of_pos _ hb⟩
      simp [F__law_number, b__law_number, k24, k_rng (g := g') (n := n) (by omega), e, e10, ed, hr, k_mod (g := g') (j := 1009) (by decide), k_mod (g := g') (j := b) hb]
    · refine ⟨v % b, ?_, Int.emod_nonneg _ (by omega), Int.emod_lt_of_pos _ hb⟩
      simp [F__law_number, b__law_number, k24, k_rng (g := g') (n := n) (by omega), e, e10, ed, hr, k_mod (g := g') (j := 1000003) (by decide), k_mod (g := g') (j := b) hb, k_mod (g := g') (j := 9) (by decide), k_mul (g := g') m1, k_mul (g := g') m2, k_mul (g := g') m3, ev]
  · rintro i ρ g d hd ⟨rfl, x4, rfl⟩
    refine ⟨[(4, d)], [.sh (.int cell), .sh (.int n), .sh (.int b), .sh (.int (1009 ^ (i + 1))), .sh d, .un, .un], _, by simp, .inl ?_, rfl, .sh d, by simp⟩
    simp [k_mul (g := g) (cMul_r (i := 1009 ^ i) (j := 1009) (by decide)), Int.pow_succ]
theorem d_next {ns : List Int} {g : Gs} (D : Dr0 ns g) {b : Int} (hb : 0 < b) : ∃ v g', F__law_next [.dr, .sh (.int b)] g = .ok (.int v) g' ∧ Dr0 ns g' ∧ 0 ≤ v ∧ v < b := by
  obtain ⟨c, hc, rfl⟩ := D
  obtain ⟨x, ex⟩ := d_cell ns (k := 0 + (c + 1) / 12) (by omega) (some (ns.map .int, c + 1))
  obtain ⟨v, ev, hv⟩ := d_number (cell := x + 31 * ((c + 1) / 12)) (k := (c + 1) % 12 + 1) (by omega) hb (some (ns.map .int, c + 1))
  refine ⟨v, some (ns.map .int, c + 1), ?_, ⟨c + 1, by omega, rfl⟩, hv⟩
  have ed := k_div (g := some (ns.map PyData.int, c + 1)) (i := c + 1) (j := 12) (by decide) (by decide +kernel)
  have em := k_mod (g := some (ns.map PyData.int, c + 1)) (i := c + 1) (j := 12) (by decide)
  have e31 := k_mul (g := some (ns.map PyData.int, c + 1)) (i := 31) (j := (c + 1) / 12) (cMul_l (by decide))
  rw [Int.zero_add] at ex
  simp [F__law_next, b__law_next, ed, em, e31, ex, ev]
theorem d_pick {ns : List Int} {g : Gs} (D : Dr0 ns g) {l : List PyData} (hl : l ≠ []) {w : PyData} (hw : w = .list l ∨ w = .tuple l) : ∃ d g', F__law_pick [.dr, .sh w] g = .ok d g' ∧ Dr0 ns g' ∧ d ∈ l := by
  have hp : 0 < l.length := List.length_pos_iff.mpr hl
  obtain ⟨v, g', e, D', h1, h2⟩ := d_next D (b := l.length) (by omega)
  have ev : v = ((v.toNat : Nat) : Int) := by omega
  have hx : l[v.toNat]? = some l[v.toNat] := List.getElem?_eq_getElem (by omega)
  refine ⟨l[v.toNat], g', ?_, D', List.getElem_mem _⟩
  rcases hw with rfl | rfl
  · have ek := k_atL (g := g') hx
    rw [← ev] at ek
    simp [F__law_pick, b__law_pick, e, ek]
  · have ek := k_atT (g := g') hx
    rw [← ev] at ek
    simp [F__law_pick, b__law_pick, e, ek]
end K03
set_option Elab.async false
set_option linter.all false
set_option maxRecDepth 100000
set_option maxHeartbeats 400000
namespace K03
open PySem L2.PL
open L2 (atI ixN)
def fromB (d : PyData) (a b : Int) : Bool := match d with
  | .int i => decide (a ≤ i) && decide (i ≤ b)
  | _ => false
theorem v_is_whole (d : PyData) (g : Gs) : F_is_whole [.sh d] g = .ok (.bool (isInt d && !isBool d)) g := by
  cases d <;> rfl
theorem v_is_from (d : PyData) (a b : Int) (g : Gs) : F_is_from [.sh d, .sh (.int a), .sh (.int b)] g = .ok (.bool (fromB d a b)) g := by
  cases d with
  | int i =>
    simp [F_is_from, b_is_from, v_is_whole, isInt, isBool, fromB]
  | _ => rfl
structure It where
  one : Option Int
  to : Int
  size : Int
deriving DecidableEq
def itD (i : It) : PyData := .tuple [oD i.one, .int i.to, .int i.size]
instance : Enc It := ⟨itD, 1, fun i => by rcases i with ⟨_ | a, b, c⟩ <;> rfl, fun i => by rcases i with ⟨_ | a, b, c⟩ <;> simp [itD, oD, PyData.depth, PyData.depthAll], fun a b => by
  rcases a with ⟨_ | a, b1, c1⟩ <;> rcases b with ⟨_ | a', b2, c2⟩ <;> simp [itD, oD, PyData.eqv, PyData.eqvAll]
  all_goals (try by_cases h1 : a = a') <;> by_cases h2 : b1 = b2 <;> by_cases h3 : c1 = c2 <;> simp [*]⟩
def okI (i : It) : Bool := (decide (0 ≤ i.to) && decide (i.to ≤ 30)) && ((decide (0 ≤ i.size) && decide (i.size ≤ 1000)) && (match i.one with
  | none => true
  | some a => (decide (0 ≤ a) && decide (a ≤ 30)) && !decide (a = i.to)))
theorem v_is_day (d : PyData) (g : Gs) : F_is_day [.sh d] g = .ok (.bool (fromB d 0 30)) g := by
  simp [F_is_day, b_is_day, v_is_from]
theorem v_is_many (ds : List PyData) (n : Int) (g : Gs) : F_is_many [.sh (.tuple ds), .sh (.int n)] g = .ok (.bool (decide ((ds.length : Int) = n))) g := by
  have := k_eq (g := g) (neg := false) (a := (ds.length : Int)) (b := n)
  simp [Enc.e] at this
  simp [F_is_many, b_is_many, isTup, this]
theorem v_is_item (i : It) (g : Gs) : F_is_item [.sh (itD i)] g = .ok (.bool (okI i)) g := by
  rcases i with ⟨o, t, s⟩
  rcases o with _ | a
  · simp [F_is_item, b_is_item, v_is_many, itD, v_is_day, v_is_from, fromB, okI, oD, isNonD]
  · simp [F_is_item, b_is_item, v_is_many, itD, v_is_day, v_is_from, fromB, okI, oD, isNonD, Bool.and_assoc]
abbrev stD (s : List It) : PyData := .tuple (s.map itD)
def okS (s : List It) : Bool := decide ((s.length : Int) ≤ 20) && s.all okI
theorem v_is_store (s : List It) (g : Gs) (h : s.length ≤ sizeLine) : F_is_store [.sh (stD s)] g = .ok (.bool (okS s)) g := by
  simp [F_is_store, b_is_store, isTup]
  rw [ev_lcy itD (fun a => [(1, itD a)]) (fun a => .bool (okI a)) (l := s) (g := g) (by simp) (by simp) (by simp [v_is_item]) h]
  simp [kAll_map, okS]

/-! versions, states, contents -/
abbrev vD (v : List Int) : PyData := .tuple (v.map .int)
abbrev St := List (Int × List Int)
abbrev sA (s : St) : AL := s.map fun p => (p.1, vD p.2)
abbrev stsD (s : St) : PyData := dA (sA s)
abbrev Ct := List (Int × Int)
abbrev cA (c : Ct) : AL := c.map fun p => (p.1, PyData.int p.2)
abbrev ctD (c : Ct) : PyData := dA (cA c)
def okV (v : List Int) : Prop := 1 ≤ v.length ∧ v.length ≤ 8 ∧ ∀ i ∈ v, 0 ≤ i ∧ i ≤ 9
structure Good (s : St) (nb : Nat) : Prop where
  ne : s ≠ []
  len : s.length ≤ 9
  nd : (s.map Prod.fst).Nodup
  day : ∀ p ∈ s, 0 ≤ p.1 ∧ p.1 ≤ 8
  sz : ∀ p ∈ s, p.2.length = nb
  nb1 : 1 ≤ nb
  nb8 : nb ≤ 5
  ver : ∀ p ∈ s, ∀ i ∈ p.2, 0 ≤ i ∧ i ≤ 2
theorem Good.v {s : St} {nb : Nat} (h : Good s nb) {p : Int × List Int} (hp : p ∈ s) : okV p.2 := by
  have h1 := h.sz p hp
  have h2 := h.nb1
  have h3 := h.nb8
  refine ⟨by omega, by omega, fun i hi => ?_⟩
  have := h.ver p hp i hi
  omega
theorem v_is_versions {v : List Int} (h : okV v) (g : Gs) : F_is_versions [.sh (vD v)] g = .ok (.bool true) g := by
  obtain ⟨h1, h2, h3⟩ := h
  have zz : 8 ≤ sizeLine := by decide
  have e1 := ev_lcy PyData.int (fun a => [(1, .int a)]) (fun _ => .bool true) (t := .nm 1) (fi := fWalk (fVar 0)) (fe := fCall F_is_from 3 (L2.PL.gCons (fVar 1) (L2.PL.gCons (fCst (.int 0)) (L2.PL.gCons (fCst (.int 9)) (L2.PL.gNil))))) (vs := [1]) (ρ := [.sh (vD v), .un]) (l := v) (g := g) (g0 := g) (by simp) (by simp) (by
    intro i hi
    have := h3 i hi
    simp [v_is_from, fromB]; omega) (by omega)
  have e2 : kAll (.list (v.map fun _ => .bool true)) g = .ok (.bool true) g := by rw [kAll_map (fun _ => true)]; simp
  generalize PyData.list (v.map fun _ => .bool true) = L at *
  have a1 : (1 : Int) ≤ v.length := by omega
  have a2 : (v.length : Int) ≤ 8 := by omega
  simp [F_is_versions, b_is_versions, isTup, e1, e2, a1, a2]
theorem sA_keys {s : St} : keyA (sA s) = s.map Prod.fst := by unfold keyA; rw [List.map_map]; rfl
theorem sA_vals {s : St} : (sA s).map Prod.snd = s.map fun p => vD p.2 := by rw [List.map_map]; rfl
theorem cA_keys {c : Ct} : keyA (cA c) = c.map Prod.fst := by unfold keyA; rw [List.map_map]; rfl
theorem v_is_states {s : St} {nb : Nat} (h : Good s nb) (p : List PyData × Int) : F_is_states [.sh (stsD s)] (some p) = .ok (.bool true) (some p) := by
  have hl := h.len
  have zz : 100 ≤ sizeLine := by decide
  have hn : 0 < s.length := List.length_pos_iff.mpr h.ne
  have a1 : (1 : Int) ≤ s.length := by omega
  have a2 : (s.length : Int) ≤ 12 := by omega
  have e1 := ev_lcy PyData.int (fun a => [(1, .int a)]) (fun _ => .bool true) (t := .nm 1) (fi := fWalk (fVar 0)) (fe := fCall F_is_day 1 (L2.PL.gCons (fVar 1) (L2.PL.gNil))) (vs := [1]) (ρ := [.sh (stsD s), .un, .un]) (l := s.map Prod.fst) (g := some p) (g0 := some p) (by rw [← sA_keys]; simp only [s_walk, s_var, List.getElem?_cons_zero, bind_ok, walk_A]) (by simp) (by
    intro i hi
    obtain ⟨q, hq, rfl⟩ := List.mem_map.mp hi
    have := h.day q hq
    simp [v_is_day, fromB]; omega) (by simp; omega)
  have e2 : kAll (.list ((s.map Prod.fst).map fun _ => .bool true)) (some p) = .ok (.bool true) (some p) := by rw [kAll_map (fun _ => true)]; simp
  have e3 := ev_lcy (fun p : Int × List Int => vD p.2) (fun p => [(2, vD p.2)]) (fun _ => .bool true) (t := .nm 2) (fi := fOn dctV (fVar 0)) (fe := fCall F_is_versions 1 (L2.PL.gCons (fVar 2) (L2.PL.gNil))) (vs := [2]) (ρ := [.sh (stsD s), .un, .un]) (l := s) (g := some p) (g0 := some p) (by rw [ev_onV (l := sA s) (g1 := some p) (by simp), sA_vals]) (by simp) (by
    intro i hi
    simp [v_is_versions (h.v hi)]) (by omega)
  have e4 : kAll (.list (s.map fun _ => .bool true)) (some p) = .ok (.bool true) (some p) := by rw [kAll_map (fun _ => true)]; simp
  have e5 := ev_dct (fun p : Int × List Int => vD p.2) (fun p => [(2, vD p.2)]) (fun _ => true) (fun p => (p.2.length : Int)) (t := .nm 2) (fi := fOn dctV (fVar 0)) (fc := fYes) (fk := f1 kLen (fPk 2)) (fv := fCst (.bool true)) (vs := [2]) (ρ := [.sh (stsD s), .un, .un]) (l := s) (g := some p) (g0 := some p) (by rw [ev_onV (l := sA s) (g1 := some p) (by simp), sA_vals]) (by simp) (by intros; rfl) (by simp) (by simp) (by omega)
  rw [filter_true] at e5
  have e6 : (fromK [] (s.map fun p => (p.2.length : Int))).length = 1 := by
    have a : fromK [] (s.map fun p => (p.2.length : Int)) = sortU [(nb : Int)] ∨ True := .inr trivial
    have m : ∀ x, x ∈ fromK [] (s.map fun p => (p.2.length : Int)) ↔ x = nb := fun x => by
      rw [fromK_mem]
      simp only [List.not_mem_nil, false_or, List.mem_map]
      constructor
      · rintro ⟨q, hq, rfl⟩
        rw [h.sz q hq]
      · rintro rfl
        cases q : s with
        | nil => exact absurd q h.ne
        | cons b l => exact ⟨b, List.mem_cons_self, by rw [h.sz b (by rw [q]; exact List.mem_cons_self)]⟩
    have n1 := fromK_nd (l := s.map fun p => (p.2.length : Int)) (acc := []) List.nodup_nil
    have l1 := nodup_len (b := [(nb : Int)]) n1 fun x hx => by simp [(m x).mp hx]
    have l2 := nodup_len (a := [(nb : Int)]) (b := fromK [] (s.map fun p => (p.2.length : Int))) (by simp) fun x hx => by simp at hx; exact (m x).mpr hx
    simp at l1 l2
    omega
  generalize fromK [] (s.map fun p => (p.2.length : Int)) = LL at *
  generalize PyData.list (s.map fun _ => .bool true) = L1 at *
  generalize PyData.list ((s.map Prod.fst).map fun _ => .bool true) = L2 at *
  simp [F_is_states, b_is_states, isDct, a1, a2, e1, e2, e3, e4, e5, e6]
end K03
set_option Elab.async false
set_option linter.all false
set_option maxRecDepth 100000
set_option maxHeartbeats 400000
namespace K03
open PySem L2.PL
abbrev Dw := List PyData × Int
def gs (s : St) (d : Int) : List Int := ((s.find? fun p => decide (p.1 = d)).map Prod.snd).getD []
def vi (v : List Int) (b : Nat) : Int := v.getD b 0
abbrev days (s : St) : List Int := s.map Prod.fst
theorem gs_mem {s : St} {d : Int} (h : d ∈ days s) : (d, gs s d) ∈ s := by
  unfold gs
  have : (s.find? fun p => decide (p.1 = d)).isSome = true := by
    rw [List.isSome_find?, List.any_eq_true]
    obtain ⟨p, hp, rfl⟩ := List.mem_map.mp h
    exact ⟨p, hp, by simp⟩
  cases q : s.find? fun p => decide (p.1 = d) with
  | none => rw [q] at this; cases this
  | some p =>
    have h1 := List.find?_some q
    have h2 := List.mem_of_find?_eq_some q
    have : p.1 = d := of_decide_eq_true h1
    show (d, p.2) ∈ s
    rw [← this]; exact h2
theorem gA_sA {s : St} {d : Int} (h : d ∈ days s) : gA (sA s) d = some (vD (gs s d)) := by
  unfold gA gs
  rw [List.find?_map, Option.map_map]
  have : (s.find? fun p => decide (p.1 = d)).isSome = true := by
    rw [List.isSome_find?, List.any_eq_true]
    obtain ⟨p, hp, rfl⟩ := List.mem_map.mp h
    exact ⟨p, hp, by simp⟩
  show Option.map _ (s.find? fun p => decide (p.1 = d)) = _
  cases q : s.find? fun p => decide (p.1 = d) with
  | none => rw [q] at this; cases this
  | some p => rfl
theorem k_state {s : St} {d : Int} {g : Gs} (h : d ∈ days s) : kAt (stsD s) (.int d) g = .ok (vD (gs s d)) g := k_atA (gA_sA h)
theorem k_vi {v : List Int} {b : Nat} {g : Gs} (h : b < v.length) : kAt (vD v) (.int (b : Nat)) g = .ok (.int (vi v b)) g := by
  refine k_atT ?_
  rw [List.getElem?_map, List.getElem?_eq_getElem h]
  unfold vi
  rw [List.getD_eq_getElem?_getD, List.getElem?_eq_getElem h]; rfl
theorem k_inS {neg : Bool} {s : St} {d : Int} {g : Gs} : kInX neg (.int d) (stsD s) g = .ok (.bool (if neg then !decide (d ∈ days s) else decide (d ∈ days s))) g := by
  have := k_inA (neg := neg) (l := sA s) (k := d) (g := g)
  rwa [sA_keys] at this
def cn (s : St) (one : Option Int) (to : Int) (b : Nat) : Bool := match one with
  | none => true
  | some o => !decide (vi (gs s o) b = vi (gs s to) b)
def ctn (s : St) (nb : Nat) (one : Option Int) (to : Int) : Ct := ((List.range nb).filter (cn s one to)).map fun b : Nat => ((b : Int), vi (gs s to) b)
theorem ctn_nd {s : St} {nb : Nat} {one : Option Int} {to : Int} : ((ctn s nb one to).map Prod.fst).Pairwise (· < ·) := by
  unfold ctn
  rw [List.map_map, List.pairwise_map]
  refine List.Pairwise.filter _ ?_
  exact List.pairwise_lt_range.imp fun h => by simpa using h
theorem pw_nd {l : List Int} (h : l.Pairwise (· < ·)) : l.Nodup := h.imp fun q => by omega
theorem okday {s : St} {nb : Nat} (h : Good s nb) {d : Int} (hd : d ∈ days s) : fromB (.int d) 0 30 = true := by
  obtain ⟨p, hp, rfl⟩ := List.mem_map.mp hd
  have := h.day p hp
  simp [fromB]; omega
theorem gs_len {s : St} {nb : Nat} (h : Good s nb) {d : Int} (hd : d ∈ days s) : (gs s d).length = nb := h.sz _ (gs_mem hd)
theorem v_check_states {s : St} {nb : Nat} (h : Good s nb) (p : Dw) : F_check_states [.sh (stsD s)] (some p) = .ok .none (some p) := by
  simp [F_check_states, b_check_states, v_is_states h]
def onIn (s : St) (one : Option Int) : Prop := ∀ o, one = some o → o ∈ days s
theorem v_content_of {s : St} {nb : Nat} (h : Good s nb) {one : Option Int} {to : Int} (ho : onIn s one) (ht : to ∈ days s) (p : Dw) : F_content_of [.sh (stsD s), .sh (oD one), .sh (.int to)] (some p) = .ok (ctD (ctn s nb one to)) (some p) := by
  have n5 := h.nb8
  have zz : 100 ≤ sizeLine := by decide
  have hl := gs_len h ht
  have e1 := ev_dcv (fun b : Nat => PyData.int (b : Nat)) (fun b => [(4, .int (b : Nat))]) (cn s one to) (fun b => (b : Int)) (fun b => .int (vi (gs s to) b)) (t := .nm 4) (fi := fRng1 (f1 kLen (fPk 3))) (fc := fOr (fIsN true (fPk 1)) (fBin (kEqX true) (fBin kAt (fBin kAt (fPk 0) (fPk 1)) (fPk 4)) (fBin kAt (fPk 3) (fPk 4)))) (fk := fVar 4) (fv := fBin kAt (fPk 3) (fPk 4)) (vs := [4])
    (ρ := [.sh (stsD s), .sh (oD one), .sh (.int to), .sh (vD (gs s to)), .un]) (l := List.range nb) (g := some p) (g0 := some p) (by simp [hl, k_rng (n := nb) (g := some p) (by omega), rngD_nat]) (by simp) ?_ (by simp) ?_ (by simp; omega)
  · rw [mergeA_nil (by
      have := pw_nd (ctn_nd (s := s) (nb := nb) (one := one) (to := to))
      unfold ctn at this
      unfold keyA
      rw [List.map_map] at this ⊢
      exact this)] at e1
    have e2 : ((List.range nb).filter (cn s one to)).map (fun a : Nat => ((a : Int), PyData.int (vi (gs s to) a))) = cA (ctn s nb one to) := by
      unfold ctn cA; rw [List.map_map]; rfl
    rw [e2] at e1
    have ht' : to ∈ keyA (sA s) := by rw [sA_keys]; exact ht
    cases one with
    | none =>
      have d1 := okday h ht
      simp [F_content_of, b_content_of, v_check_states h, oD, v_is_day, d1, ht', k_state ht]
      simp [oD] at e1
      rw [e1]; simp
    | some o =>
      have ho' := ho o rfl
      have d0 := okday h ho'
      have d1 := okday h ht
      have ho2 : o ∈ keyA (sA s) := by rw [sA_keys]; exact ho'
      simp [F_content_of, b_content_of, v_check_states h, oD, v_is_day, d0, d1, ht', ho2, k_state ht]
      simp [oD] at e1
      rw [e1]; simp
  · intro b hb
    have hb' := List.mem_range.mp hb
    cases one with
    | none => simp [oD, cn]
    | some o =>
      have ho' := ho o rfl
      have hl2 := gs_len h ho'
      simp [oD, cn, k_state ho', k_vi (v := gs s o) (b := b) (g := some p) (by omega), k_vi (v := gs s to) (b := b) (g := some p) (by omega)]
  · intro b hb _
    have hb' := List.mem_range.mp hb
    simp [k_vi (v := gs s to) (b := b) (g := some p) (by omega)]
theorem enumV {v : List Int} : enumD (v.map .int) = (List.range v.length).map fun b => .tuple [.int (b : Nat), .int (vi v b)] := by
  rw [enumD_map]
  have : v.zipIdx = (List.range v.length).map fun b => (vi v b, b) := by
    apply List.ext_getElem?
    intro i
    rw [List.getElem?_zipIdx, List.getElem?_map]
    rcases Nat.lt_or_ge i v.length with q | q
    · rw [List.getElem?_range q, List.getElem?_eq_getElem q]
      simp [vi, List.getD_eq_getElem?_getD, List.getElem?_eq_getElem q]
    · rw [List.getElem?_eq_none q, List.getElem?_eq_none (by simpa using q)]; rfl
  rw [this, List.map_map]
  rfl
theorem v__law_content {s : St} {nb : Nat} (h : Good s nb) {one : Option Int} {to : Int} (ho : onIn s one) (ht : to ∈ days s) (p : Dw) : F__law_content [.sh (stsD s), .sh (oD one), .sh (.int to)] (some p) = .ok (ctD (ctn s nb one to)) (some p) := by
  have n5 := h.nb8
  have zz : 100 ≤ sizeLine := by decide
  have hl := gs_len h ht
  have e1 := ev_lc (fun b : Nat => .tuple [.int (b : Nat), .int (vi (gs s to) b)]) (fun b => [(3, .int (b : Nat)), (4, .int (vi (gs s to) b))]) (cn s one to) (fun b => .tuple [.int (b : Nat), .int (vi (gs s to) b)]) (t := .tp [.nm 3, .nm 4]) (fi := fEnum (fBin kAt (fPk 0) (fPk 2))) (fc := fOr (fIsN true (fPk 1)) (fBin (kEqX true) (fBin kAt (fBin kAt (fPk 0) (fPk 1)) (fPk 3)) (fPk 4))) (fe := fTup (fCons (fVar 3) (fCons (fVar 4) (fNil)))) (vs := [3, 4])
    (ρ := [.sh (stsD s), .sh (oD one), .sh (.int to), .un, .un]) (l := List.range nb) (g := some p) (g0 := some p) (by simp [k_state ht, enumV, hl]) (by simp [bind_tp2]) ?_ (by simp; omega) (by simp; omega)
  · have e3 : ((List.range nb).filter (cn s one to)).map (fun b : Nat => PyData.tuple [.int (b : Nat), .int (vi (gs s to) b)]) = (cA (ctn s nb one to)).map fun p => .tuple [.int p.1, p.2] := by
      unfold ctn cA; rw [List.map_map, List.map_map]; rfl
    rw [e3] at e1
    have e4 := k_dictP (m := cA (ctn s nb one to)) (g := some p)
    rw [mergeA_nil (by rw [cA_keys]; exact pw_nd ctn_nd)] at e4
    generalize (cA (ctn s nb one to)).map (fun p => PyData.tuple [.int p.1, p.2]) = L at *
    simp [F__law_content, b__law_content, e1, e4]
  · intro b hb
    have hb' := List.mem_range.mp hb
    cases one with
    | none => simp [oD, cn]
    | some o =>
      have ho' := ho o rfl
      have hl2 := gs_len h ho'
      simp [oD, cn, k_state ho', k_vi (v := gs s o) (b := b) (g := some p) (by omega)]
/-! contents, put -/
def gC (c : Ct) (k : Int) : Option Int := (c.find? fun p => decide (p.1 = k)).map Prod.snd
theorem gA_cA {c : Ct} {k : Int} : gA (cA c) k = (gC c k).map .int := by
  unfold gA gC cA
  rw [List.find?_map, Option.map_map, Option.map_map]; rfl
structure OkC (c : Ct) (nb : Nat) : Prop where
  nd : (c.map Prod.fst).Nodup
  key : ∀ p ∈ c, 0 ≤ p.1 ∧ p.1 < nb
  val : ∀ p ∈ c, 0 ≤ p.2 ∧ p.2 ≤ 9
theorem OkC.len {c : Ct} {nb : Nat} (h : OkC c nb) : c.length ≤ nb := by
  have := nodup_len (b := (List.range nb).map Int.ofNat) h.nd fun x hx => by
    obtain ⟨p, hp, rfl⟩ := List.mem_map.mp hx
    have := h.key p hp
    exact List.mem_map.mpr ⟨p.1.toNat, List.mem_range.mpr (by omega), by simp; omega⟩
  simpa using this
theorem vi_mem {v : List Int} {b : Nat} (h : b < v.length) : vi v b ∈ v := by
  unfold vi
  rw [List.getD_eq_getElem?_getD, List.getElem?_eq_getElem h]
  exact List.getElem_mem h
theorem ctn_ok {s : St} {nb : Nat} (h : Good s nb) {one : Option Int} {to : Int} (ht : to ∈ days s) : OkC (ctn s nb one to) nb := by
  refine ⟨pw_nd ctn_nd, fun p hp => ?_, fun p hp => ?_⟩
  · obtain ⟨b, hb, rfl⟩ := List.mem_map.mp hp
    have := List.mem_range.mp (List.mem_filter.mp hb).1
    constructor <;> simp <;> omega
  · obtain ⟨b, hb, rfl⟩ := List.mem_map.mp hp
    have := List.mem_range.mp (List.mem_filter.mp hb).1
    have hl := gs_len h ht
    have := h.ver _ (gs_mem ht) _ (vi_mem (v := gs s to) (b := b) (by omega))
    constructor <;> simp <;> omega
theorem v_is_content {c : Ct} {nb : Nat} (h : OkC c nb) (n5 : nb ≤ 8) (g : Gs) : F_is_content [.sh (ctD c)] g = .ok (.bool true) g := by
  have hl := h.len
  have zz : 100 ≤ sizeLine := by decide
  have e1 := ev_lcy (fun p : Int × Int => .tuple [.int p.1, .int p.2]) (fun p => [(1, .int p.1), (2, .int p.2)]) (fun _ => .bool true) (t := .tp [.nm 1, .nm 2]) (fi := fOn dctI (fVar 0)) (fe := fAnd (fCall F_is_from 3 (L2.PL.gCons (fVar 1) (L2.PL.gCons (fCst (.int 0)) (L2.PL.gCons (fBin kSub (fCst (.int 8)) (fCst (.int 1))) (L2.PL.gNil))))) (fCall F_is_from 3 (L2.PL.gCons (fVar 2) (L2.PL.gCons (fCst (.int 0)) (L2.PL.gCons (fCst (.int 9)) (L2.PL.gNil)))))) (vs := [1, 2])
    (ρ := [.sh (ctD c), .un, .un]) (l := c) (g := g) (g0 := g) (by rw [ev_onI (l := cA c) (g1 := g) (by simp), cA, List.map_map]; rfl) (by simp [bind_tp2]) (by
      intro p hp
      have h1 := h.key p hp
      have h2 := h.val p hp
      have f1 : fromB (.int p.1) 0 7 = true := by simp [fromB]; omega
      have f2 : fromB (.int p.2) 0 9 = true := by simp [fromB]; omega
      simp [v_is_from, f1, f2]) (by omega)
  have e2 : kAll (.list (c.map fun _ => .bool true)) g = .ok (.bool true) g := by rw [kAll_map (fun _ => true)]; simp
  generalize PyData.list (c.map fun _ => .bool true) = L at *
  simp [F_is_content, b_is_content, isDct, e1, e2]
def pt (v : List Int) (c : Ct) : List Int := (List.range v.length).map fun b : Nat => (gC c (b : Int)).getD (vi v b)
theorem pt_len {v : List Int} {c : Ct} : (pt v c).length = v.length := by simp [pt]
theorem pt_vi {v : List Int} {c : Ct} {b : Nat} (h : b < v.length) : vi (pt v c) b = (gC c (b : Int)).getD (vi v b) := by
  unfold pt
  conv => lhs; unfold vi
  rw [List.getD_eq_getElem?_getD, List.getElem?_map, List.getElem?_range h]; rfl
theorem gC_mem {c : Ct} {k v : Int} (h : gC c k = some v) : (k, v) ∈ c := by
  unfold gC at h
  rw [Option.map_eq_some_iff] at h
  obtain ⟨p, hp, rfl⟩ := h
  have h1 := List.find?_some hp
  have h2 := List.mem_of_find?_eq_some hp
  have : p.1 = k := of_decide_eq_true h1
  rw [← this]; exact h2
theorem pt_ok {v : List Int} {c : Ct} {nb : Nat} (hv : okV v) (h : OkC c nb) : okV (pt v c) := by
  refine ⟨by rw [pt_len]; exact hv.1, by rw [pt_len]; exact hv.2.1, fun i hi => ?_⟩
  obtain ⟨b, hb, rfl⟩ := List.mem_map.mp hi
  cases q : gC c (b : Int) with
  | none => exact hv.2.2 _ (vi_mem (List.mem_range.mp hb))
  | some w => exact h.val _ (gC_mem q)
theorem v_behind {v : List Int} {c : Ct} {nb : Nat} (hv : okV v) (hl : v.length = nb) (h : OkC c nb) (g : Gs) : F_behind [.sh (vD v), .sh (ctD c)] g = .ok (vD (pt v c)) g := by
  have n8 := hv.2.1
  have hc := h.len
  have zz : 100 ≤ sizeLine := by decide
  have a1 := v_is_versions hv g
  have a2 := v_is_content h (by omega) g
  have e1 := ev_lcy PyData.int (fun k => [(2, .int k)]) (fun _ => .bool true) (t := .nm 2) (fi := fWalk (fVar 1)) (fe := fBin kLt (fPk 2) (f1 kLen (fPk 0))) (vs := [2]) (ρ := [.sh (vD v), .sh (ctD c), .un, .un]) (l := c.map Prod.fst) (g := g) (g0 := g) (by rw [← cA_keys]; simp only [s_walk, s_var, List.getElem?_cons_zero, List.getElem?_cons_succ, bind_ok, walk_A]) (by simp) (by
    intro k hk
    obtain ⟨q, hq, rfl⟩ := List.mem_map.mp hk
    have := h.key q hq
    simp; omega) (by simp; omega)
  have e2 : kAll (.list ((c.map Prod.fst).map fun _ => .bool true)) g = .ok (.bool true) g := by rw [kAll_map (fun _ => true)]; simp
  have e3 := ev_lcy (fun b : Nat => .tuple [.int (b : Nat), .int (vi v b)]) (fun b => [(2, .int (b : Nat)), (3, .int (vi v b))]) (fun b : Nat => .int ((gC c (b : Int)).getD (vi v b))) (t := .tp [.nm 2, .nm 3]) (fi := fEnum (fVar 0)) (fe := fGet2 (fPk 1) (fVar 2) (fVar 3)) (vs := [2, 3]) (ρ := [.sh (vD v), .sh (ctD c), .un, .un]) (l := List.range v.length) (g := g) (g0 := g) (by simp [enumV]) (by simp [bind_tp2]) (by
    intro b hb
    rw [ev_get2 (l := cA c) (k := (b : Int)) (x := .int (vi v b)) (g1 := g) (g2 := g) (g3 := g) (by simp) (by simp) (by simp), gA_cA]
    cases gC c (b : Int) <;> rfl) (by simp; omega)
  have e4 : (List.range v.length).map (fun b : Nat => PyData.int ((gC c (b : Int)).getD (vi v b))) = (pt v c).map .int := by unfold pt; rw [List.map_map]; rfl
  rw [e4] at e3
  generalize PyData.list ((c.map Prod.fst).map fun _ => .bool true) = L at *
  generalize hM : (pt v c).map PyData.int = M at *
  simp [F_behind, b_behind, a1, a2, e1, e2, e3, hM]
theorem v__law_put {v : List Int} {c : Ct} {nb : Nat} (hv : okV v) (h : OkC c nb) (g : Gs) : F__law_put [.sh (vD v), .sh (ctD c)] g = .ok (vD (pt v c)) g := by
  have n8 := hv.2.1
  have zz : 100 ≤ sizeLine := by decide
  have e3 := ev_lcy (fun b : Nat => .tuple [.int (b : Nat), .int (vi v b)]) (fun b => [(2, .int (b : Nat)), (3, .int (vi v b))]) (fun b : Nat => .int ((gC c (b : Int)).getD (vi v b))) (t := .tp [.nm 2, .nm 3]) (fi := fEnum (fVar 0)) (fe := fIte (fBin (kInX false) (fPk 2) (fPk 1)) (fBin kAt (fPk 1) (fPk 2)) (fVar 3)) (vs := [2, 3]) (ρ := [.sh (vD v), .sh (ctD c), .un, .un]) (l := List.range v.length) (g := g) (g0 := g) (by simp [enumV]) (by simp [bind_tp2]) (by
    intro b hb
    have hm := gA_some (l := cA c) (k := (b : Int))
    cases q : gC c (b : Int) with
    | none =>
      rw [gA_cA, q] at hm
      have : (b : Int) ∉ keyA (cA c) := by simpa using hm.symm
      simp [this]
    | some w =>
      rw [gA_cA, q] at hm
      have : (b : Int) ∈ keyA (cA c) := by simpa using hm.symm
      have k := k_atA (l := cA c) (k := (b : Int)) (v := .int w) (g := g) (by rw [gA_cA, q]; rfl)
      simp [this, k]) (by simp; omega)
  have e4 : (List.range v.length).map (fun b : Nat => PyData.int ((gC c (b : Int)).getD (vi v b))) = (pt v c).map .int := by unfold pt; rw [List.map_map]; rfl
  rw [e4] at e3
  generalize hM : (pt v c).map PyData.int = M at *
  simp [F__law_put, b__law_put, e3, hM]
/-! restored, folded -/
theorem dayIn {s : St} {d : Int} : d ∈ keyA (sA s) ↔ d ∈ days s := by rw [sA_keys]
def Along (s : St) (al : List Int) : Prop := al ≠ [] ∧ (∀ d ∈ al, d ∈ days s) ∧ (∀ p ∈ al.zip (al.drop 1), p.1 ≠ p.2) ∧ al.length ≤ 20
theorem gC_ctn {s : St} {nb : Nat} {one : Option Int} {to : Int} {b : Nat} (hb : b < nb) : gC (ctn s nb one to) (b : Int) = if cn s one to b then some (vi (gs s to) b) else none := by
  have nd := pw_nd (ctn_nd (s := s) (nb := nb) (one := one) (to := to))
  by_cases c : cn s one to b = true
  · rw [if_pos c]
    have hm : ((b : Int), vi (gs s to) b) ∈ ctn s nb one to := List.mem_map.mpr ⟨b, List.mem_filter.mpr ⟨List.mem_range.mpr hb, c⟩, rfl⟩
    have := gA_of (l := cA (ctn s nb one to)) (k := (b : Int)) (v := .int (vi (gs s to) b)) (by rw [cA_keys]; exact nd) (List.mem_map.mpr ⟨_, hm, rfl⟩)
    rw [gA_cA] at this
    cases q : gC (ctn s nb one to) (b : Int) with
    | none => rw [q] at this; cases this
    | some w => rw [q] at this; simp at this; rw [this]
  · rw [if_neg c]
    cases q : gC (ctn s nb one to) (b : Int) with
    | none => rfl
    | some w =>
      exfalso
      obtain ⟨b', hb', e⟩ := List.mem_map.mp (gC_mem q)
      have e1 : (b' : Int) = b := congrArg Prod.fst e
      have : b' = b := by omega
      subst this
      exact c (List.mem_filter.mp hb').2
theorem vi_ext {v w : List Int} (hl : v.length = w.length) (h : ∀ b, b < v.length → vi v b = vi w b) : v = w := by
  apply List.ext_getElem hl
  intro i h1 h2
  have := h i h1
  unfold vi at this
  rwa [List.getD_eq_getElem?_getD, List.getD_eq_getElem?_getD, List.getElem?_eq_getElem h1, List.getElem?_eq_getElem h2] at this
theorem pt_ctn {s : St} {nb : Nat} (h : Good s nb) {one to : Int} (ho : one ∈ days s) (ht : to ∈ days s) : pt (gs s one) (ctn s nb (some one) to) = gs s to := by
  have l1 := gs_len h ho
  have l2 := gs_len h ht
  refine vi_ext (by rw [pt_len, l1, l2]) fun b hb => ?_
  rw [pt_len, l1] at hb
  rw [pt_vi (by omega), gC_ctn hb]
  unfold cn
  by_cases q : vi (gs s one) b = vi (gs s to) b <;> simp [q]
theorem goodV {s : St} {nb : Nat} (h : Good s nb) {d : Int} (hd : d ∈ days s) : okV (gs s d) := h.v (gs_mem hd)
theorem zip_fst {α : Type} : ∀ {l : List α} {p : α × α}, p ∈ l.zip (l.drop 1) → p.1 ∈ l ∧ p.2 ∈ l := fun {l p} h => by
  have := List.of_mem_zip (a := p.1) (b := p.2) h
  exact ⟨this.1, List.mem_of_mem_drop this.2⟩
/-- a walk along days: each step from one to the next -/
theorem walk_zip {body : FnS} {t : Tg} (J : Int → L2.PL.Env → Gs → Prop) {l : List Int} : ∀ (a : Int) (r : List Int), l = a :: r → ∀ (ρ : L2.PL.Env) (g : Gs), J a ρ g → (∀ x y ρ g, (x, y) ∈ l.zip (l.drop 1) → J x ρ g → ∃ q ρ' g', bindT t (.tuple [.int x, .int y]) = some q ∧ body (setE ρ q) g = .ok (.nx ρ') g' ∧ J y ρ' g') →
    ∃ ρ' g', loopF t body ((l.zip (l.drop 1)).map fun p => .tuple [.int p.1, .int p.2]) ρ g = .ok (.nx ρ') g' ∧ J (lastI l) ρ' g' := by
  intro a r e
  subst e
  induction r generalizing a with
  | nil => intro ρ g h _; exact ⟨ρ, g, rfl, h⟩
  | cons b r ih =>
    intro ρ g h hs
    obtain ⟨q, ρ1, g1, e1, e2, e3⟩ := hs a b ρ g (by simp) h
    obtain ⟨ρ2, g2, f1, f2⟩ := ih b ρ1 g1 e3 fun x y ρ g hm => hs x y ρ g (by
      simp at hm ⊢
      exact .inr hm)
    refine ⟨ρ2, g2, ?_, ?_⟩
    · show (match bindT t (.tuple [.int a, .int b]) with | none => _ | some l => _) = _
      rw [e1]
      show (body (setE ρ q) g).bind _ = _
      rw [e2]
      exact f1
    · have : lastI (a :: b :: r) = lastI (b :: r) := by unfold lastI; simp
      rw [this]; exact f2
theorem v_zipW {al : List Int} {ρ : L2.PL.Env} {g : Gs} {i : Nat} (h : ρ[i]? = some (.sh (.tuple (al.map .int)))) : fZip (fVar i) (fSlc (fPk i) (some (fCst (.int 1))) none) ρ g = .ok ((al.zip (al.drop 1)).map fun p => .tuple [.int p.1, .int p.2]) g := by
  have := zipD_map PyData.int PyData.int al (al.drop 1)
  rw [List.map_drop] at this
  simp [h]
  simpa using this
theorem v_restored {s : St} {nb : Nat} (h : Good s nb) {al : List Int} (ha : Along s al) (p : Dw) : F_restored [.sh (stsD s), .sh (.tuple (al.map .int))] (some p) = .ok (vD (gs s (lastI al))) (some p) := by
  obtain ⟨hne, hd, hz, hl⟩ := ha
  have zz : 100 ≤ sizeLine := by decide
  have n5 := h.nb8
  cases al with
  | nil => exact absurd rfl hne
  | cons a r =>
    have e1 := ev_lcy PyData.int (fun k => [(5, .int k)]) (fun _ => .bool true) (t := .nm 5) (fi := fWalk (fVar 1)) (fe := fAnd (fCall F_is_day 1 (L2.PL.gCons (fVar 5) (L2.PL.gNil))) (fBin (kInX false) (fPk 5) (fPk 0))) (vs := [5]) (ρ := [.sh (stsD s), .sh (.tuple ((a :: r).map .int)), .un, .un, .un, .un]) (l := a :: r) (g := some p) (g0 := some p) (by simp) (by simp) (by
      intro k hk
      have f1 := okday h (hd k hk)
      have f2 : k ∈ keyA (sA s) := dayIn.mpr (hd k hk)
      simp [v_is_day, f1, f2]) (by omega)
    have e2 : kAll (.list ((a :: r).map fun _ => .bool true)) (some p) = .ok (.bool true) (some p) := by rw [kAll_map (fun _ => true)]; simp
    have e3 := ev_lcy (fun p : Int × Int => .tuple [.int p.1, .int p.2]) (fun p => [(2, .int p.1), (3, .int p.2)]) (fun p => .bool (decide (p.1 = p.2))) (t := .tp [.nm 2, .nm 3]) (fi := fZip (fVar 1) (fSlc (fPk 1) (some (fCst (.int 1))) none)) (fe := fBin (kEqX false) (fPk 2) (fPk 3)) (vs := [2, 3]) (ρ := [.sh (stsD s), .sh (.tuple ((a :: r).map .int)), .un, .un, .un, .un]) (l := (a :: r).zip ((a :: r).drop 1)) (g := some p) (g0 := some p) (v_zipW rfl) (by simp [bind_tp2]) (by simp) (by simp at hl ⊢; omega)
    have e4 : kAny (.list (((a :: r).zip ((a :: r).drop 1)).map fun p => .bool (decide (p.1 = p.2)))) (some p) = .ok (.bool false) (some p) := by
      rw [kAny_map (fun p : Int × Int => decide (p.1 = p.2))]
      have : ((a :: r).zip ((a :: r).drop 1)).any (fun p => decide (p.1 = p.2)) = false := by
        rw [List.any_eq_false]
        intro q hq
        simpa using hz q hq
      rw [this]
    have e5 : kEqX false (.tuple ((a :: r).map .int)) (.tuple []) (some p) = .ok (.bool false) (some p) := by rw [k_eqT0]; simp
    have e6 := k_state (s := s) (d := a) (g := some p) (hd a List.mem_cons_self)
    have key := walk_zip (body := fSet 4 (fCall F_behind 2 (L2.PL.gCons (fVar 4) (L2.PL.gCons (fCall F_content_of 3 (L2.PL.gCons (fVar 0) (L2.PL.gCons (fVar 2) (L2.PL.gCons (fVar 3) (L2.PL.gNil))))) (L2.PL.gNil))))) (t := .tp [.nm 2, .nm 3]) (fun d ρ g => g = some p ∧ d ∈ a :: r ∧ ∃ x2 x3, ρ = [.sh (stsD s), .sh (.tuple ((a :: r).map .int)), x2, x3, .sh (vD (gs s d)), .un]) (l := a :: r) a r rfl [.sh (stsD s), .sh (.tuple ((a :: r).map .int)), .un, .un, .sh (vD (gs s a)), .un] (some p) ⟨rfl, List.mem_cons_self, _, _, rfl⟩ ?_
    · obtain ⟨ρ', g', f1, rfl, f2, x2, x3, rfl⟩ := key
      have f0 := v_zipW (al := a :: r) (ρ := [.sh (stsD s), .sh (.tuple ((a :: r).map .int)), .un, .un, .sh (vD (gs s a)), .un]) (g := some p) (i := 1) rfl
      have f9 := v_check_states h p
      rw [show F_restored [.sh (stsD s), .sh (.tuple ((a :: r).map .int))] (some p) = runF b_restored 4 [.sh (stsD s), .sh (.tuple ((a :: r).map .int))] (some p) from rfl]
      have hm0 : kAt (.tuple ((a :: r).map .int)) (.int 0) (some p) = .ok (.int a) (some p) := k_at0
      generalize ((a :: r).zip ((a :: r).drop 1)).map (fun p => PyData.tuple [.int p.1, .int p.2]) = ZD at *
      generalize PyData.list (((a :: r).zip ((a :: r).drop 1)).map fun p => .bool (decide (p.1 = p.2))) = L2 at *
      generalize PyData.list ((a :: r).map fun _ => .bool true) = L1 at *
      generalize hT : PyData.tuple ((a :: r).map PyData.int) = T at *
      have isT : isTup T = true := by rw [← hT]; rfl
      generalize lastI (a :: r) = la at *
      generalize stsD s = S at *
      generalize vD (gs s a) = Va at *
      generalize vD (gs s la) = Vl at *
      simp only [s_runF, b_restored, s_seq, s_exp, s_if, s_for]
      simp [f9, isT, e1, e2, e3, e4, e5, e6, hm0]
      simp at f0
      rw [f0, bind_ok, f1]
      simp
    · rintro x y ρ g hm ⟨rfl, hx, x2, x3, rfl⟩
      have hxy := zip_fst hm
      have c1 := v_content_of h (one := some x) (to := y) (fun o e => by cases e; exact hd x hxy.1) (hd y hxy.2) p
      have c2 := v_behind (goodV h (hd x hxy.1)) (gs_len h (hd x hxy.1)) (ctn_ok h (one := some x) (hd y hxy.2)) (some p)
      rw [pt_ctn h (hd x hxy.1) (hd y hxy.2)] at c2
      refine ⟨[(2, .int x), (3, .int y)], [.sh (stsD s), .sh (.tuple ((a :: r).map .int)), .sh (.int x), .sh (.int y), .sh (vD (gs s y)), .un], some p, by simp [bind_tp2], ?_, rfl, hxy.2, _, _, rfl⟩
      simp only [oD] at c1
      generalize stsD s = S at *
      generalize ctD (ctn s nb (some x) y) = C at *
      generalize vD (gs s x) = V1 at *
      generalize vD (gs s y) = V2 at *
      simp [c1, c2]
end K03
set_option Elab.async false
set_option linter.all false
set_option maxRecDepth 100000
set_option maxHeartbeats 400000
namespace K03
open PySem L2.PL
/-! merging contents -/
def putC (c : Ct) (k v : Int) : Ct := if k ∈ c.map Prod.fst then c.map (fun p => if p.1 = k then (p.1, v) else p) else c ++ [(k, v)]
def mergeC (a b : Ct) : Ct := b.foldl (fun acc p => putC acc p.1 p.2) a
theorem cA_put {c : Ct} {k v : Int} : cA (putC c k v) = putA (cA c) k (.int v) := by
  unfold putC putA
  rw [cA_keys]
  by_cases h : k ∈ c.map Prod.fst
  · rw [if_pos h, if_pos h]
    unfold cA
    rw [List.map_map, List.map_map]
    refine List.map_congr_left fun p _ => ?_
    show ((if p.1 = k then (p.1, v) else p).1, PyData.int (if p.1 = k then (p.1, v) else p).2) = if p.1 = k then (p.1, PyData.int v) else (p.1, PyData.int p.2)
    split <;> rfl
  · rw [if_neg h, if_neg h]; simp [cA]
theorem cA_merge : ∀ {b a : Ct}, cA (mergeC a b) = mergeA (cA a) (cA b)
  | [], _ => rfl
  | p :: b, a => by
    show cA (mergeC (putC a p.1 p.2) b) = _
    rw [cA_merge, cA_put]; rfl
theorem mergeC_get {a b : Ct} {j : Int} (n : (b.map Prod.fst).Nodup) : gC (mergeC a b) j = match gC b j with | some v => some v | none => gC a j := by
  have h := mergeA_get (j := j) (m := cA b) (l := cA a) (by rw [cA_keys]; exact n)
  rw [← cA_merge, gA_cA, gA_cA, gA_cA] at h
  cases q : gC b j with
  | none =>
    rw [q] at h
    simp only [Option.map_none] at h
    cases x : gC (mergeC a b) j <;> cases y : gC a j <;> rw [x, y] at h <;> simp at h <;> simp [h]
  | some v =>
    rw [q] at h
    simp only [Option.map_some] at h
    cases x : gC (mergeC a b) j <;> rw [x] at h <;> simp at h <;> simp [h]
theorem mergeC_keys {a b : Ct} : (mergeC a b).map Prod.fst = fromK (a.map Prod.fst) (b.map Prod.fst) := by
  have := mergeA_keys (m := cA b) (l := cA a)
  rwa [← cA_merge, cA_keys, cA_keys, cA_keys] at this
theorem put_ok {c : Ct} {nb : Nat} {k v : Int} (h : OkC c nb) (hk : 0 ≤ k ∧ k < nb) (hv : 0 ≤ v ∧ v ≤ 9) : OkC (putC c k v) nb := by
  have kk : (putC c k v).map Prod.fst = insK (c.map Prod.fst) k := by
    have := putA_keys (l := cA c) (k := k) (v := .int v)
    rwa [← cA_put, cA_keys, cA_keys] at this
  have mem : ∀ p ∈ putC c k v, p ∈ c ∨ p = (k, v) := by
    intro p hp
    unfold putC at hp
    by_cases q : k ∈ c.map Prod.fst
    · rw [if_pos q] at hp
      obtain ⟨r, hr, rfl⟩ := List.mem_map.mp hp
      by_cases z : r.1 = k
      · right; simp [z]
      · left; simp [z, hr]
    · rw [if_neg q] at hp
      rcases List.mem_append.mp hp with z | z
      · exact .inl z
      · right; simpa using z
  refine ⟨by rw [kk]; exact insK_nd h.nd, fun p hp => ?_, fun p hp => ?_⟩
  · rcases mem p hp with q | rfl
    · exact h.key p q
    · exact hk
  · rcases mem p hp with q | rfl
    · exact h.val p q
    · exact hv
theorem merge_ok {nb : Nat} : ∀ {b a : Ct}, OkC a nb → (∀ p ∈ b, 0 ≤ p.1 ∧ p.1 < nb) → (∀ p ∈ b, 0 ≤ p.2 ∧ p.2 ≤ 9) → OkC (mergeC a b) nb
  | [], _, h, _, _ => h
  | p :: b, a, h, h1, h2 => merge_ok (b := b) (put_ok h (h1 p List.mem_cons_self) (h2 p List.mem_cons_self)) (fun q hq => h1 q (List.mem_cons_of_mem _ hq)) fun q hq => h2 q (List.mem_cons_of_mem _ hq)
theorem gC_none {c : Ct} {nb : Nat} (h : OkC c nb) {j : Int} (hj : ¬ (0 ≤ j ∧ j < nb)) : gC c j = none := by
  cases q : gC c j with
  | none => rfl
  | some v => exact absurd (h.key _ (gC_mem q)) hj
theorem gC_key {c : Ct} {j : Int} : (gC c j).isSome = decide (j ∈ c.map Prod.fst) := by
  have := gA_some (l := cA c) (k := j)
  rw [gA_cA, cA_keys] at this
  cases q : gC c j <;> rw [q] at this <;> simpa using this
def fold (a b : Ct) : Ct := (srt ((mergeC a b).map Prod.fst)).map fun k => (k, (gC (mergeC a b) k).getD 0)
theorem fold_keys {a b : Ct} : (fold a b).map Prod.fst = srt ((mergeC a b).map Prod.fst) := by
  unfold fold; rw [List.map_map]
  exact List.map_id _
theorem fold_asc {a b : Ct} {nb : Nat} (h : OkC (mergeC a b) nb) : ((fold a b).map Prod.fst).Pairwise (· < ·) := by
  rw [fold_keys]; exact srt_nodup h.nd
theorem fold_get {a b : Ct} {nb : Nat} (h : OkC (mergeC a b) nb) (j : Int) : gC (fold a b) j = gC (mergeC a b) j := by
  have k1 := gC_key (c := fold a b) (j := j)
  have k2 := gC_key (c := mergeC a b) (j := j)
  rw [fold_keys] at k1
  by_cases q : j ∈ (mergeC a b).map Prod.fst
  · rw [decide_eq_true q] at k2
    have q' : j ∈ srt ((mergeC a b).map Prod.fst) := srt_mem.mpr q
    have hm : (j, (gC (mergeC a b) j).getD 0) ∈ fold a b := List.mem_map.mpr ⟨j, q', rfl⟩
    have := gA_of (l := cA (fold a b)) (k := j) (v := .int ((gC (mergeC a b) j).getD 0)) (by rw [cA_keys]; exact pw_nd (fold_asc h)) (List.mem_map.mpr ⟨_, hm, rfl⟩)
    rw [gA_cA] at this
    cases x : gC (fold a b) j with
    | none => rw [x] at this; cases this
    | some w =>
      rw [x] at this
      cases y : gC (mergeC a b) j with
      | none => rw [y] at k2; cases k2
      | some z => rw [y] at this; simp at this; rw [this]
  · have q' : j ∉ srt ((mergeC a b).map Prod.fst) := fun z => q (srt_mem.mp z)
    rw [decide_eq_false q'] at k1
    rw [decide_eq_false q] at k2
    cases x : gC (fold a b) j with
    | some w => rw [x] at k1; cases k1
    | none =>
      cases y : gC (mergeC a b) j with
      | none => rfl
      | some z => rw [y] at k2; cases k2
theorem fold_ok {a b : Ct} {nb : Nat} (h : OkC (mergeC a b) nb) : OkC (fold a b) nb := by
  refine ⟨pw_nd (fold_asc h), fun p hp => ?_, fun p hp => ?_⟩
  · obtain ⟨k, hk, rfl⟩ := List.mem_map.mp hp
    obtain ⟨q, hq, rfl⟩ := List.mem_map.mp (srt_mem.mp hk)
    exact h.key q hq
  · obtain ⟨k, hk, rfl⟩ := List.mem_map.mp hp
    have k2 := gC_key (c := mergeC a b) (j := k)
    rw [decide_eq_true (srt_mem.mp hk)] at k2
    cases y : gC (mergeC a b) k with
    | none => rw [y] at k2; cases k2
    | some z =>
      simp only [y, Option.getD_some]
      exact h.val _ (gC_mem y)
theorem v_folded {a b : Ct} {nb : Nat} (n8 : nb ≤ 8) (ha : OkC a nb) (hb : OkC b nb) (p : Dw) : F_folded [.sh (ctD a), .sh (ctD b)] (some p) = .ok (ctD (fold a b)) (some p) := by
  have zz : 100 ≤ sizeLine := by decide
  have la := ha.len
  have lb := hb.len
  have hm := merge_ok ha hb.key hb.val
  have lm := hm.len
  have a1 := v_is_content ha n8 (some p)
  have a2 := v_is_content hb n8 (some p)
  have e1 := ev_mrg (fa := fVar 0) (fb := fVar 1) (ρ := [.sh (ctD a), .sh (ctD b), .sh (ctD b), .un, .un]) (g := some p) (g1 := some p) (g2 := some p) (l := cA a) (m := cA b) (by simp) (by simp) (by rw [cA_keys]; exact ha.nd) (by simp; omega)
  rw [← cA_merge] at e1
  have e2 := ev_dcv PyData.int (fun k => [(4, .int k)]) (fun _ => true) (fun k => k) (fun k => .int ((gC (mergeC a b) k).getD 0)) (t := .nm 4) (fi := fWalk (fLstO (f1 kSorted (fPk 3)))) (fc := fYes) (fk := fVar 4) (fv := fBin kAt (fPk 3) (fPk 4)) (vs := [4]) (ρ := [.sh (ctD a), .sh (ctD b), .sh (ctD b), .sh (ctD (mergeC a b)), .un]) (l := srt ((mergeC a b).map Prod.fst)) (g := some p) (g0 := some p) (by
      have := k_sortedA (l := cA (mergeC a b)) (g := some p)
      rw [cA_keys] at this
      simp [this]) (by simp) (by intros; rfl) (by simp) (by
      intro k hk _
      have k2 := gC_key (c := mergeC a b) (j := k)
      rw [decide_eq_true (srt_mem.mp hk)] at k2
      cases y : gC (mergeC a b) k with
      | none => rw [y] at k2; cases k2
      | some z =>
        have := k_atA (l := cA (mergeC a b)) (k := k) (v := .int z) (g := some p) (by rw [gA_cA, y]; rfl)
        simp [this]) (by
      have := (List.mergeSort_perm ((mergeC a b).map Prod.fst) fun a b => decide (a ≤ b)).length_eq
      rw [srt, this]; simp; omega)
  rw [filter_true, mergeA_nil (by
    have := pw_nd (fold_asc hm)
    rw [← cA_keys] at this
    unfold fold cA at this
    rw [List.map_map] at this
    exact this)] at e2
  have e3 : (srt ((mergeC a b).map Prod.fst)).map (fun k => (k, PyData.int ((gC (mergeC a b) k).getD 0))) = cA (fold a b) := by unfold fold cA; rw [List.map_map]; rfl
  rw [e3, show dA (cA (fold a b)) = ctD (fold a b) from rfl] at e2
  rw [show dA (cA (mergeC a b)) = ctD (mergeC a b) from rfl] at e1
  have z2 : 2 ≤ sizeLine := by omega
  generalize ctD (fold a b) = FA at *
  generalize hMM : ctD (mergeC a b) = MM at *
  generalize hA : ctD a = A at *
  generalize hB : ctD b = B at *
  simp [F_folded, b_folded, z2, loopF, a1, a2, e1]
  rw [e2]; simp
/-! along days -/
def chg (s : St) : List Int → Nat → Bool
  | x :: y :: r, b => (!decide (vi (gs s x) b = vi (gs s y) b)) || chg s (y :: r) b
  | _, _ => false
theorem chg_app {s : St} {b : Nat} {x y : Int} : ∀ pre : List Int, chg s (pre ++ [x, y]) b = (chg s (pre ++ [x]) b || !decide (vi (gs s x) b = vi (gs s y) b))
  | [] => by simp [chg]
  | [z] => by simp [chg]
  | z :: w :: pre => by
    have := chg_app (s := s) (b := b) (x := x) (y := y) (w :: pre)
    simp only [List.cons_append] at this ⊢
    rw [chg, chg, this, Bool.or_assoc]
theorem walk_pre {body : FnS} {t : Tg} (J : List Int → L2.PL.Env → Gs → Prop) {l : List Int} (hs : ∀ pre x y post ρ g, l = pre ++ x :: y :: post → J (pre ++ [x]) ρ g → ∃ q ρ' g', bindT t (.tuple [.int x, .int y]) = some q ∧ body (setE ρ q) g = .ok (.nx ρ') g' ∧ J (pre ++ [x, y]) ρ' g') :
    ∀ (post pre : List Int) (x : Int) (ρ : L2.PL.Env) (g : Gs), l = pre ++ x :: post → J (pre ++ [x]) ρ g → ∃ ρ' g', loopF t body (((x :: post).zip post).map fun p => .tuple [.int p.1, .int p.2]) ρ g = .ok (.nx ρ') g' ∧ J l ρ' g'
  | [], pre, x, ρ, g, e, h => ⟨ρ, g, rfl, by rw [e]; exact h⟩
  | y :: post, pre, x, ρ, g, e, h => by
    obtain ⟨q, ρ1, g1, e1, e2, e3⟩ := hs pre x y post ρ g e h
    obtain ⟨ρ2, g2, f1, f2⟩ := walk_pre J hs post (pre ++ [x]) y ρ1 g1 (by rw [e]; simp) (by simpa using e3)
    refine ⟨ρ2, g2, ?_, f2⟩
    show (match bindT t (.tuple [.int x, .int y]) with | none => _ | some l => _) = _
    rw [e1]
    show (body (setE ρ q) g).bind _ = _
    rw [e2]
    exact f1
structure Told (s : St) (nb : Nat) (pre : List Int) (c : Ct) : Prop where
  ok : OkC c nb
  get : ∀ b : Nat, b < nb → gC c (b : Int) = if chg s pre b then some (vi (gs s (lastI pre)) b) else none
theorem told_step {s : St} {nb : Nat} (h : Good s nb) {pre : List Int} {x y : Int} {c : Ct} (t : Told s nb (pre ++ [x]) c) (hy : y ∈ days s) : Told s nb (pre ++ [x, y]) (mergeC c (ctn s nb (some x) y)) := by
  have hc := ctn_ok h (one := some x) hy
  refine ⟨merge_ok t.ok hc.key hc.val, fun b hb => ?_⟩
  have l1 : lastI (pre ++ [x]) = x := by unfold lastI; rw [List.getLastD_eq_getLast?]; simp
  have l2 : lastI (pre ++ [x, y]) = y := by unfold lastI; rw [List.getLastD_eq_getLast?]; simp
  rw [mergeC_get hc.nd, gC_ctn hb, t.get b hb, chg_app, l1, l2]
  unfold cn
  by_cases q : vi (gs s x) b = vi (gs s y) b
  · simp [q]
  · simp [q]
theorem told_get {s : St} {nb : Nat} {pre : List Int} {c d : Ct} (t : Told s nb pre c) (u : Told s nb pre d) (j : Int) : gC c j = gC d j := by
  by_cases q : 0 ≤ j ∧ j < nb
  · have e : j = ((j.toNat : Nat) : Int) := by omega
    rw [e, t.get _ (by omega), u.get _ (by omega)]
  · rw [gC_none t.ok q, gC_none u.ok q]
theorem told_fold {s : St} {nb : Nat} {pre : List Int} {a b : Ct} (t : Told s nb pre (mergeC a b)) : Told s nb pre (fold a b) :=
  ⟨fold_ok t.ok, fun b hb => by rw [fold_get t.ok, t.get b hb]⟩
theorem told_nil {s : St} {nb : Nat} {a : Int} : Told s nb [a] [] := ⟨⟨List.nodup_nil, by simp, by simp⟩, fun b _ => by simp [gC, chg]⟩
theorem v_folded_along {s : St} {nb : Nat} (h : Good s nb) {al : List Int} (ha : Along s al) (p : Dw) : ∃ c, F_folded_along [.sh (stsD s), .sh (.tuple (al.map .int))] (some p) = .ok (ctD c) (some p) ∧ Told s nb al c ∧ (c.map Prod.fst).Pairwise (· < ·) := by
  have n5 := h.nb8
  have r := v_restored h ha p
  obtain ⟨hne, hd, hz, hl⟩ := ha
  cases al with
  | nil => exact absurd rfl hne
  | cons a rr =>
    have key := walk_pre (body := fSet 2 (fCall F_folded 2 (L2.PL.gCons (fVar 2) (L2.PL.gCons (fCall F_content_of 3 (L2.PL.gCons (fVar 0) (L2.PL.gCons (fVar 3) (L2.PL.gCons (fVar 4) (L2.PL.gNil))))) (L2.PL.gNil))))) (t := .tp [.nm 3, .nm 4]) (fun pre ρ g => g = some p ∧ ∃ c x3 x4, ρ = [.sh (stsD s), .sh (.tuple ((a :: rr).map .int)), .sh (ctD c), x3, x4] ∧ Told s nb pre c ∧ (c.map Prod.fst).Pairwise (· < ·)) (l := a :: rr) ?_ rr [] a [.sh (stsD s), .sh (.tuple ((a :: rr).map .int)), .sh (ctD []), .un, .un] (some p) rfl ⟨rfl, [], _, _, rfl, told_nil, List.Pairwise.nil⟩
    · obtain ⟨ρ', g', f1, rfl, c, x3, x4, rfl, tc, ac⟩ := key
      refine ⟨c, ?_, tc, ac⟩
      have f0 := v_zipW (al := a :: rr) (ρ := [.sh (stsD s), .sh (.tuple ((a :: rr).map .int)), .sh (ctD []), .un, .un]) (g := some p) (i := 1) rfl
      have f1' : loopF _ _ (((a :: rr).zip ((a :: rr).drop 1)).map fun p => .tuple [.int p.1, .int p.2]) _ _ = _ := f1
      rw [show F_folded_along [.sh (stsD s), .sh (.tuple ((a :: rr).map .int))] (some p) = runF b_folded_along 3 [.sh (stsD s), .sh (.tuple ((a :: rr).map .int))] (some p) from rfl]
      generalize ((a :: rr).zip ((a :: rr).drop 1)).map (fun p => PyData.tuple [.int p.1, .int p.2]) = ZD at *
      generalize hT : PyData.tuple ((a :: rr).map PyData.int) = T at *
      generalize lastI (a :: rr) = la at *
      generalize stsD s = S at *
      generalize hC0 : ctD c = C0 at *
      simp only [s_runF, b_folded_along, s_seq, s_exp, s_for]
      simp [r]
      simp at f0
      rw [f0, bind_ok, show PyData.dict ([] : List (PyData × PyData)) = ctD [] from rfl, f1']
      simp
    · rintro pre x y post ρ g e ⟨rfl, c, x3, x4, rfl, tc, ac⟩
      have hx : x ∈ a :: rr := by rw [e]; simp
      have hy : y ∈ a :: rr := by rw [e]; simp
      have c1 := v_content_of h (one := some x) (to := y) (fun o e => by cases e; exact hd x hx) (hd y hy) p
      have hc := ctn_ok h (one := some x) (hd y hy)
      have c2 := v_folded (by omega) tc.ok hc p
      have st := told_step h tc (hd y hy)
      refine ⟨[(3, .int x), (4, .int y)], [.sh (stsD s), .sh (.tuple ((a :: rr).map .int)), .sh (ctD (fold c (ctn s nb (some x) y))), .sh (.int x), .sh (.int y)], some p, by simp [bind_tp2], ?_, rfl, _, _, _, rfl, told_fold st, fold_asc st.ok⟩
      simp only [oD] at c1
      generalize stsD s = S at *
      generalize ctD (fold c (ctn s nb (some x) y)) = CF at *
      generalize ctD (ctn s nb (some x) y) = C at *
      generalize ctD c = C0 at *
      simp [c1, c2]
theorem told_pt {s : St} {nb : Nat} {pre : List Int} {c d : Ct} {v : List Int} (t : Told s nb pre c) (u : Told s nb pre d) (hl : v.length = nb) : pt v c = pt v d := by
  refine vi_ext (by rw [pt_len, pt_len]) fun b hb => ?_
  rw [pt_len] at hb
  rw [pt_vi hb, pt_vi hb, told_get t u]
theorem v_wrongly {s : St} {nb : Nat} (h : Good s nb) {al : List Int} (ha : Along s al) {o : Int} (ho : o ∈ days s) {c : Ct} (tc : Told s nb al c) (p : Dw) : F_wrongly_made [.sh (stsD s), .sh (.tuple (al.map .int)), .sh (.int o)] (some p) = .ok (vD (pt (gs s o) c)) (some p) := by
  obtain ⟨f, e1, tf, _⟩ := v_folded_along h ha p
  have e2 := v_behind (goodV h ho) (gs_len h ho) tf.ok (some p)
  rw [told_pt tf tc (gs_len h ho)] at e2
  have d1 := okday h ho
  have d2 : o ∈ keyA (sA s) := dayIn.mpr ho
  have e3 := k_state (s := s) (d := o) (g := some p) ho
  have e4 := k_inA (neg := true) (l := sA s) (k := o) (g := some p)
  rw [decide_eq_true d2] at e4
  rw [show dA (sA s) = stsD s from rfl] at e4
  generalize stsD s = S at *
  generalize ctD f = F at *
  generalize vD (gs s o) = V1 at *
  generalize vD (pt (gs s o) c) = V2 at *
  generalize PyData.tuple (al.map PyData.int) = T at *
  simp [F_wrongly_made, b_wrongly_made, e1, v_is_day, d1, e4, e3, e2]
end K03
set_option Elab.async false
set_option linter.all false
set_option maxRecDepth 100000
set_option maxHeartbeats 400000
namespace K03
open PySem L2.PL
/-! closest_base -/
def lt2 (a b : Int × Int) : Bool := decide (a.1 < b.1) || (decide (a.1 = b.1) && decide (a.2 < b.2))
def p2 (a : Int × Int) : PyData := .tuple [.int a.1, .int a.2]
theorem lt_p2 (a b : Int × Int) : PySem.W.dataLt (p2 a) (p2 b) = lt2 a b := by
  obtain ⟨a1, a2⟩ := a
  obtain ⟨b1, b2⟩ := b
  show (decide ((1 : Int) < 1) || (!decide ((1 : Int) < 1) && (decide (a1 < b1) || (!decide (b1 < a1) && (decide ((1 : Int) < 1) || (!decide ((1 : Int) < 1) && (decide (a2 < b2) || (!decide (b2 < a2) && (decide ((0 : Int) < 0) || (!decide ((0 : Int) < 0) && false)))))))))) = (decide (a1 < b1) || (decide (a1 = b1) && decide (a2 < b2)))
  by_cases h1 : a1 < b1
  · simp [h1]
  · by_cases h2 : b1 < a1
    · have : ¬ a1 = b1 := by omega
      simp [h1, h2, this]
    · have : a1 = b1 := by omega
      subst this
      simp
def le2 (a b : Int × Int) : Prop := lt2 b a = false
def mn (a : Int × Int) (l : List (Int × Int)) : Int × Int := l.foldl (fun a y => if lt2 y a then y else a) a
theorem minD_p2 : ∀ (l : List (Int × Int)) (a : Int × Int), PySem.W.minD (p2 a) (l.map p2) = p2 (mn a l)
  | [], _ => rfl
  | y :: l, a => by
    show PySem.W.minD (if PySem.W.dataLt (p2 y) (p2 a) then p2 y else p2 a) (l.map p2) = p2 (mn (if lt2 y a then y else a) l)
    rw [lt_p2]
    cases lt2 y a with
    | true => exact minD_p2 l y
    | false => exact minD_p2 l a
theorem lt2_iff {a b : Int × Int} : lt2 a b = true ↔ a.1 < b.1 ∨ (a.1 = b.1 ∧ a.2 < b.2) := by unfold lt2; simp
theorem mn_le : ∀ (l : List (Int × Int)) (a : Int × Int), mn a l ∈ a :: l ∧ ∀ x ∈ a :: l, lt2 x (mn a l) = false
  | [], a => ⟨List.mem_cons_self, fun x hx => by
    simp at hx; subst hx
    rw [← Bool.not_eq_true, mn, List.foldl_nil, lt2_iff]; omega⟩
  | y :: l, a => by
    have h := mn_le l (if lt2 y a then y else a)
    show mn (if lt2 y a then y else a) l ∈ _ ∧ ∀ x ∈ _, lt2 x (mn (if lt2 y a then y else a) l) = false
    generalize hm : mn (if lt2 y a then y else a) l = m at *
    obtain ⟨h1, h2⟩ := h
    by_cases q : lt2 y a = true
    · rw [if_pos q] at h1 h2
      refine ⟨List.mem_cons_of_mem _ h1, fun x hx => ?_⟩
      rcases List.mem_cons.mp hx with rfl | hx
      · have := h2 y List.mem_cons_self
        rw [lt2_iff] at q
        rw [← Bool.not_eq_true, lt2_iff] at this ⊢
        omega
      · exact h2 x hx
    · rw [if_neg q] at h1 h2
      refine ⟨?_, fun x hx => ?_⟩
      · rcases List.mem_cons.mp h1 with e | e
        · rw [e]; exact List.mem_cons_self
        · exact List.mem_cons_of_mem _ (List.mem_cons_of_mem _ e)
      · rcases List.mem_cons.mp hx with rfl | hx
        · exact h2 _ List.mem_cons_self
        · rcases List.mem_cons.mp hx with rfl | hx
          · have := h2 a List.mem_cons_self
            rw [lt2_iff] at q
            rw [← Bool.not_eq_true, lt2_iff] at this ⊢
            omega
          · exact h2 x (List.mem_cons_of_mem _ hx)
theorem mn_ext {a b : Int × Int} {l m : List (Int × Int)} (h : ∀ x, x ∈ a :: l ↔ x ∈ b :: m) : mn a l = mn b m := by
  obtain ⟨h1, h2⟩ := mn_le l a
  obtain ⟨k1, k2⟩ := mn_le m b
  have e1 := k2 _ ((h _).mp h1)
  have e2 := h2 _ ((h _).mpr k1)
  generalize mn a l = x at *
  generalize mn b m = y at *
  obtain ⟨x1, x2⟩ := x
  obtain ⟨y1, y2⟩ := y
  rw [← Bool.not_eq_true, lt2_iff] at e1 e2
  simp only at e1 e2
  have : x1 = y1 := by omega
  have : x2 = y2 := by omega
  simp [*]
def mnL : List (Int × Int) → Int × Int
  | [] => (0, 0)
  | a :: l => mn a l
theorem mnL_ext {l m : List (Int × Int)} (h : ∀ x, x ∈ l ↔ x ∈ m) : mnL l = mnL m := by
  cases l with
  | nil => cases m with
    | nil => rfl
    | cons b m => exact absurd ((h b).mpr List.mem_cons_self) (by simp)
  | cons a l => cases m with
    | nil => exact absurd ((h a).mp List.mem_cons_self) (by simp)
    | cons b m => exact mn_ext h
theorem k_min {l : List (Int × Int)} {g : Gs} (h : l ≠ []) : kMin false (.list (l.map p2)) g = .ok (p2 (mnL l)) g := by
  cases l with
  | nil => exact absurd rfl h
  | cons a l =>
    have hs : sortOk ((a :: l).map p2) = true := by
      unfold sortOk
      rw [Bool.and_eq_true, List.all_eq_true, List.all_eq_true]
      refine ⟨fun x hx => ?_, fun x hx => ?_⟩
      · obtain ⟨i, _, rfl⟩ := List.mem_map.mp hx
        rw [List.all_eq_true]
        intro y hy
        obtain ⟨j, _, rfl⟩ := List.mem_map.mp hy
        rfl
      · obtain ⟨i, _, rfl⟩ := List.mem_map.mp hx
        have := sm_e (α := List Int) (a := [i.1, i.2])
        rw [show p2 i = Enc.e [i.1, i.2] from rfl, this]; rfl
    show (if sortOk ((a :: l).map p2) = true then Res.ok (PySem.W.minD (p2 a) (l.map p2)) g else .no) = _
    rw [hs, if_pos rfl, minD_p2]; rfl
/-- the answer of closest_base -/
def rw_ (s : St) (nb : Nat) (d : Int) (o : Int) : Int × Int := (((ctn s nb (some o) d).length : Int), o)
def cbD (l : List (Int × Int)) : PyData := if l = [] then .none else .tuple [.int (mnL l).2, .int (mnL l).1]
def rows (s : St) (nb : Nat) (d : Int) : List (Int × Int) := ((days s).filter fun o => !decide (o = d)).map (rw_ s nb d)
theorem ev_cb {ρ : L2.PL.Env} {g : Gs} {i : Nat} {l : List (Int × Int)} (h : ρ[i]? = some (.sh (.list (l.map p2)))) : fIte (fBin (kEqX true) (fPk i) (fLst (fNil))) (fTup (fCons (fBin kAt (f1 (kMin false) (fPk i)) (fCst (.int 1))) (fCons (fBin kAt (f1 (kMin false) (fPk i)) (fCst (.int 0))) (fNil)))) (fCst .none) ρ g = .ok (cbD l) g := by
  have z : 2 ≤ sizeLine := by decide
  unfold cbD
  by_cases q : l = []
  · subst q
    have : kEqX true (.list []) (.list []) g = .ok (.bool false) g := by kernel_rfl
    simp [h, this]
  · have : kEqX true (.list (l.map p2)) (.list []) g = .ok (.bool true) g := by
      have := k_eqL (α := List Int) (neg := true) (a := l.map fun i => [i.1, i.2]) (b := []) (g := g)
      unfold lD at this
      rw [List.map_map] at this
      simp [q] at this
      exact this
    rw [if_neg q]
    have km := k_min (g := g) q
    have e0 : ∀ x : Int × Int, kAt (p2 x) (.int 0) g = .ok (.int x.1) g := fun x => by simp [p2]
    have e1 : ∀ x : Int × Int, kAt (p2 x) (.int 1) g = .ok (.int x.2) g := fun x => by simp [p2]
    generalize PyData.list (l.map p2) = L at *
    simp [h, this, km, e0, e1, z]
theorem v_closest {s : St} {nb : Nat} (h : Good s nb) {d : Int} (hd : d ∈ days s) (p : Dw) : F_closest_base [.sh (stsD s), .sh (.int d)] (some p) = .ok (cbD (rows s nb d)) (some p) := by
  have hl := h.len
  have zz : 100 ≤ sizeLine := by decide
  have f9 := v_check_states h p
  have e1 := ev_lc PyData.int (fun o => [(3, .int o)]) (fun o => !decide (o = d)) (fun o => p2 (rw_ s nb d o)) (t := .nm 3) (fi := fWalk (fVar 0)) (fc := fBin (kEqX true) (fPk 3) (fPk 1)) (fe := fTup (fCons (f1 kLen (fCall F_content_of 3 (L2.PL.gCons (fVar 0) (L2.PL.gCons (fVar 3) (L2.PL.gCons (fVar 1) (L2.PL.gNil)))))) (fCons (fVar 3) (fNil)))) (vs := [3]) (ρ := [.sh (stsD s), .sh (.int d), .un, .un]) (l := days s) (g := some p) (g0 := some p) (by
    simp only [s_walk, s_var, List.getElem?_cons_zero, bind_ok, walk_A, sA_keys]) (by simp) (by simp) (by
      intro o ho q
      have c1 := v_content_of h (one := some o) (to := d) (fun x e => by cases e; exact ho) hd p
      have c2 : kLen (ctD (ctn s nb (some o) d)) (some p) = .ok (.int (ctn s nb (some o) d).length) (some p) := by simp
      simp only [oD] at c1
      generalize stsD s = S at *
      have z2 : 2 ≤ sizeLine := by omega
      unfold rw_ p2
      generalize ctn s nb (some o) d = C at *
      generalize ctD C = CD at *
      simp [c1, c2, z2]) (by simp; omega)
  have e2 : ((days s).filter fun o => !decide (o = d)).map (fun o => p2 (rw_ s nb d o)) = (rows s nb d).map p2 := by unfold rows; rw [List.map_map]; rfl
  rw [e2] at e1
  have e3 := ev_cb (ρ := [.sh (stsD s), .sh (.int d), .sh (.list ((rows s nb d).map p2)), .un]) (g := some p) (i := 2) (l := rows s nb d) rfl
  have d1 := okday h hd
  have e4 := k_inS (neg := true) (s := s) (d := d) (g := some p)
  rw [decide_eq_true hd] at e4
  have fz : freezable (.list ((rows s nb d).map p2)) = true := rfl
  rw [show F_closest_base [.sh (stsD s), .sh (.int d)] (some p) = runF b_closest_base 2 [.sh (stsD s), .sh (.int d)] (some p) from rfl]
  generalize stsD s = S at *
  generalize PyData.list ((rows s nb d).map p2) = RL at *
  generalize cbD (rows s nb d) = CB at *
  simp only [s_runF, b_closest_base, s_seq, s_exp, s_set, s_ret, s_if]
  simp [f9, v_is_day, d1, e4, e1, fz]
  simp at e3
  rw [e3]; rfl
/-! ever_changed -/
def chd (s : St) (b : Nat) : Bool := decide (1 < (sortU (s.map fun p => vi p.2 b)).length)
theorem fromK_lenU {l : List Int} : (fromK [] l).length = (sortU l).length := by
  have a := nodup_len (fromK_nd (l := l) (acc := []) List.nodup_nil) (b := sortU l) fun x hx => by
    rw [sortU_mem]; simpa [fromK_mem] using hx
  have b := nodup_len (a := sortU l) (b := fromK [] l) (sortU_srt.imp fun q => by omega) fun x hx => by
    rw [fromK_mem]; exact .inr (sortU_mem.mp hx)
  omega
def evr (s : St) (nb : Nat) : List Int := ((List.range nb).filter (chd s)).map Int.ofNat
theorem v_ever {s : St} {nb : Nat} (h : Good s nb) (p : Dw) : F_ever_changed [.sh (stsD s)] (some p) = .ok (.tuple ((evr s nb).map .int)) (some p) := by
  have hl := h.len
  have n8 := h.nb8
  have zz : 100 ≤ sizeLine := by decide
  have f9 := v_check_states h p
  have e0 := ev_vals (fa := fPk 0) (ρ := [.sh (stsD s), .un, .un, .un]) (l := sA s) (g := some p) (g1 := some p) (by simp)
  rw [sA_vals] at e0
  have e1 := ev_lc (fun b : Nat => .int (b : Nat)) (fun b : Nat => [(2, .int (b : Nat))]) (chd s) (fun b : Nat => .int (b : Nat)) (t := .nm 2) (fi := fRng1 (f1 kLen (fBin kAt (fPk 1) (fCst (.int 0))))) (fc := fBin kGt (f1 kLen (fDc (fWalk (fVar 1)) (.nm 3) (fYes) (fBin kAt (fPk 3) (fPk 2)) (fCst (.bool true)) [3])) (fCst (.int 1))) (fe := fVar 2) (vs := [2]) (ρ := [.sh (stsD s), .sh (.list (s.map fun p => vD p.2)), .un, .un]) (l := List.range nb) (g := some p) (g0 := some p) (by
    cases hs : s with
    | nil => exact absurd hs h.ne
    | cons q s' =>
      have hq := h.sz q (by rw [hs]; exact List.mem_cons_self)
      have ka : kAt (.list (vD q.2 :: s'.map fun p => vD p.2)) (.int 0) (some p) = .ok (vD q.2) (some p) := k_atL (i := 0) rfl
      simp [ka, hq, k_rng (n := nb) (by omega), rngD_nat]) (by simp) (by
      intro b hb
      have hb' := List.mem_range.mp hb
      have e5 := ev_dct (fun p : Int × List Int => vD p.2) (fun p => [(3, vD p.2)]) (fun _ => true) (fun p => vi p.2 b) (t := .nm 3) (fi := fWalk (fVar 1)) (fc := fYes) (fk := fBin kAt (fPk 3) (fPk 2)) (fv := fCst (.bool true)) (vs := [3]) (ρ := [.sh (stsD s), .sh (.list (s.map fun p => vD p.2)), .sh (.int (b : Nat)), .un]) (l := s) (g := some p) (g0 := some p) (by simp) (by simp) (by intros; rfl) (by
        intro q hq _
        have := k_vi (v := q.2) (b := b) (g := some p) (by rw [h.sz q hq]; exact hb')
        simp only [s_bin, s_pk, s_wipe1, s_wipe0, s_setE1, s_setE0, List.set_cons_zero, List.set_cons_succ, List.getElem?_cons_zero, List.getElem?_cons_succ, bind_ok, this]) (by simp) (by omega)
      rw [filter_true] at e5
      have e6 := fromK_lenU (l := s.map fun p => vi p.2 b)
      unfold chd
      generalize PyData.list (s.map fun p => vD p.2) = SL at *
      generalize stsD s = S at *
      generalize (sortU (s.map fun p => vi p.2 b)).length = n at *
      generalize fromK [] (s.map fun p => vi p.2 b) = FK at *
      simp [e5, e6]
      omega) (by simp) (by simp; omega)
  have e2 : ((List.range nb).filter (chd s)).map (fun b : Nat => PyData.int (b : Nat)) = (evr s nb).map .int := by unfold evr; rw [List.map_map]; rfl
  rw [e2] at e1
  rw [show F_ever_changed [.sh (stsD s)] (some p) = runF b_ever_changed 3 [.sh (stsD s)] (some p) from rfl]
  have fz : freezable (.list (s.map fun p => vD p.2)) = true := rfl
  generalize stsD s = S at *
  generalize PyData.list (s.map fun p => vD p.2) = SL at *
  generalize hE : (evr s nb).map PyData.int = EL at *
  simp only [s_runF, b_ever_changed, s_seq, s_exp, s_set, s_ret, s_if]
  simp [f9, e0, fz, e1]
end K03
set_option Elab.async false
set_option linter.all false
set_option maxRecDepth 100000
set_option maxHeartbeats 400000
namespace K03
open PySem L2.PL
/-! store_of -/
abbrev Pr := Option Int × Int
def prD (p : Pr) : PyData := .tuple [oD p.1, .int p.2]
def okP (s : St) (p : Pr) : Prop := onIn s p.1 ∧ p.2 ∈ days s ∧ p.1 ≠ some p.2
def itP (s : St) (nb : Nat) (p : Pr) : It := ⟨p.1, p.2, ((ctn s nb p.1 p.2).length : Int)⟩
@[simp] theorem s_star {fa : Fn} {fs : FnL} {ρ : L2.PL.Env} {g : Gs} : fStar fa fs ρ g = (fa ρ g).bind fun x g1 => match itemsD x with
  | some xs => (fs ρ g1).bind fun ys g2 => .ok (xs ++ ys) g2
  | none => .no := id rfl
@[simp] theorem items_t {xs : List PyData} : itemsD (.tuple xs) = some xs := id rfl
theorem k_inO {neg : Bool} {s : St} {o : Option Int} {g : Gs} {a : Int} (h : o = some a) : kInX neg (oD o) (stsD s) g = .ok (.bool (if neg then !decide (a ∈ days s) else decide (a ∈ days s))) g := by
  subst h; exact k_inS
theorem ctn_len {s : St} {nb : Nat} {o : Option Int} {d : Int} : (ctn s nb o d).length ≤ nb := by
  unfold ctn
  rw [List.length_map]
  have := List.length_filter_le (cn s o d) (List.range nb)
  simpa using this
theorem okP_item {s : St} {nb : Nat} (h : Good s nb) {p : Pr} (hp : okP s p) {z : Int} (hz : 0 ≤ z ∧ z ≤ 1000) : okI ⟨p.1, p.2, z⟩ = true := by
  obtain ⟨h1, h2, h3⟩ := hp
  have d2 := okday h h2
  unfold fromB at d2
  rw [Bool.and_eq_true, decide_eq_true_eq, decide_eq_true_eq] at d2
  unfold okI
  cases q : p.1 with
  | none => simp; omega
  | some a =>
    have d1 := okday h (h1 a q)
    unfold fromB at d1
    rw [Bool.and_eq_true, decide_eq_true_eq, decide_eq_true_eq] at d1
    have : a ≠ p.2 := fun e => h3 (by rw [q, e])
    simp [this]; omega
theorem v_store_of {s : St} {nb : Nat} (h : Good s nb) {ps : List Pr} (hp : ∀ p ∈ ps, okP s p) (hl : ps.length ≤ 20) (p : Dw) : F_store_of [.sh (stsD s), .sh (.tuple (ps.map prD))] (some p) = .ok (stD (ps.map (itP s nb))) (some p) := by
  have zz : 100 ≤ sizeLine := by decide
  have f9 := v_check_states h p
  have n5 := h.nb8
  have key := loop_list (t := .nm 2) (body := (fSeq (fIf (fOr (fNot (fCall F_is_many 2 (L2.PL.gCons (fVar 2) (L2.PL.gCons (fCst (.int 2)) (L2.PL.gNil))))) (fOr (fNot (fCall F_is_item 1 (L2.PL.gCons (fTup (fStar (fPk 2) (fCons (fCst (.int 0)) (fNil)))) (L2.PL.gNil)))) (fBin (kInX true) (fBin kAt (fPk 2) (fCst (.int 1))) (fPk 0)))) (fRaise (fVar 1)) (fSkip))
  (fIf (fAnd (fIsN false (fBin kAt (fPk 2) (fCst (.int 0)))) (fBin (kInX true) (fBin kAt (fPk 2) (fCst (.int 0))) (fPk 0))) (fRaise (fVar 1)) (fSkip)))) prD (fun pre ρ g => g = some p ∧ ∃ x, ρ = [.sh (stsD s), .sh (.tuple (ps.map prD)), x, .un, .un]) ps (ρ := [.sh (stsD s), .sh (.tuple (ps.map prD)), .un, .un, .un]) (g := some p) ⟨rfl, _, rfl⟩ (by
    rintro pre q post e ρ g ⟨rfl, x, rfl⟩
    have hq := hp q (by rw [e]; simp)
    refine ⟨[(2, prD q)], [.sh (stsD s), .sh (.tuple (ps.map prD)), .sh (prD q), .un, .un], some p, by simp, .inl ?_, rfl, _, rfl⟩
    have i1 := v_is_item ⟨q.1, q.2, 0⟩ (some p)
    rw [okP_item h hq (by decide)] at i1
    unfold itD at i1
    have i2 := k_inS (neg := true) (s := s) (d := q.2) (g := some p)
    rw [decide_eq_true hq.2.1] at i2
    have i3 : isNonD (oD q.1) = true ∨ kInX true (oD q.1) (stsD s) (some p) = .ok (.bool false) (some p) := by
      cases z : q.1 with
      | none => exact .inl rfl
      | some a =>
        right
        have := k_inO (neg := true) (s := s) (o := some a) (g := some p) rfl
        rw [decide_eq_true (hq.1 a z)] at this
        exact this
    unfold prD
    have z3 : 3 ≤ sizeLine := by omega
    simp only [] at i1 i2
    generalize stsD s = S at *
    generalize PyData.tuple (ps.map fun p => PyData.tuple [oD p.1, .int p.2]) = PS at *
    generalize oD q.1 = O at *
    rcases i3 with i3 | i3
    · simp [v_is_many, i1, i2, i3, z3]
    · simp [v_is_many, i1, i2, i3, z3])
  obtain ⟨ρ', g', F1, rfl, x, rfl⟩ := key
  have e1 := ev_lcy prD (fun q => [(3, oD q.1), (4, .int q.2)]) (fun q => itD (itP s nb q)) (t := .tp [.nm 3, .nm 4]) (fi := fWalk (fVar 1)) (fe := fTup (fCons (fVar 3) (fCons (fVar 4) (fCons (f1 kLen (fCall F_content_of 3 (L2.PL.gCons (fVar 0) (L2.PL.gCons (fVar 3) (L2.PL.gCons (fVar 4) (L2.PL.gNil)))))) (fNil))))) (vs := [3, 4]) (ρ := [.sh (stsD s), .sh (.tuple (ps.map prD)), x, .un, .un]) (l := ps) (g := some p) (g0 := some p) (by simp) (by intro a _; simp [prD, bind_tp2]) (by
    intro q hq
    have hq := hp q hq
    have c1 := v_content_of h hq.1 hq.2.1 p
    have c2 : kLen (ctD (ctn s nb q.1 q.2)) (some p) = .ok (.int (ctn s nb q.1 q.2).length) (some p) := by simp
    have z3 : 3 ≤ sizeLine := by omega
    unfold itP itD
    generalize stsD s = S at *
    generalize PyData.tuple (ps.map prD) = PS at *
    generalize ctn s nb q.1 q.2 = C at *
    generalize ctD C = CD at *
    simp [c1, c2, z3]) (by omega)
  have e2 : ps.map (fun q => itD (itP s nb q)) = (ps.map (itP s nb)).map itD := by rw [List.map_map]; rfl
  rw [e2] at e1
  have l2 : ¬ ((20 : Int) < (ps.map prD).length) := by simp; omega
  rw [show F_store_of [.sh (stsD s), .sh (.tuple (ps.map prD))] (some p) = runF b_store_of 3 [.sh (stsD s), .sh (.tuple (ps.map prD))] (some p) from rfl]
  generalize stsD s = S at *
  generalize hI : (ps.map (itP s nb)).map itD = IT at *
  generalize hP : ps.map prD = PS at *
  simp only [s_runF, b_store_of, s_seq, s_exp, s_set, s_ret, s_if, s_for]
  simp [f9, isTup, l2]
  rw [F1]
  simp [e1]
  rw [← hI, List.map_map]
theorem storeOk {s : St} {nb : Nat} (h : Good s nb) {ps : List Pr} (hp : ∀ p ∈ ps, okP s p) (hl : ps.length ≤ 20) : okS (ps.map (itP s nb)) = true := by
  unfold okS
  rw [Bool.and_eq_true, decide_eq_true_eq, List.all_eq_true]
  refine ⟨by simp; omega, fun i hi => ?_⟩
  obtain ⟨q, hq, rfl⟩ := List.mem_map.mp hi
  have := ctn_len (s := s) (nb := nb) (o := q.1) (d := q.2)
  have n5 := h.nb8
  exact okP_item h (hp q hq) (by omega)
/-! the law's first statements -/
def putS (c : St) (k : Int) (v : List Int) : St := if k ∈ c.map Prod.fst then c.map (fun p => if p.1 = k then (p.1, v) else p) else c ++ [(k, v)]
theorem sA_put {c : St} {k : Int} {v : List Int} : sA (putS c k v) = putA (sA c) k (vD v) := by
  unfold putS putA
  rw [sA_keys]
  by_cases h : k ∈ c.map Prod.fst
  · rw [if_pos h, if_pos h]
    unfold sA
    rw [List.map_map, List.map_map]
    refine List.map_congr_left fun p _ => ?_
    show ((if p.1 = k then (p.1, v) else p).1, vD (if p.1 = k then (p.1, v) else p).2) = if p.1 = k then (p.1, vD v) else (p.1, vD p.2)
    split <;> rfl
  · rw [if_neg h, if_neg h]; simp [sA]
structure G0 (s : St) (nb : Nat) : Prop where
  nd : (s.map Prod.fst).Nodup
  day : ∀ p ∈ s, 0 ≤ p.1 ∧ p.1 ≤ 8
  sz : ∀ p ∈ s, p.2.length = nb
  ver : ∀ p ∈ s, ∀ i ∈ p.2, 0 ≤ i ∧ i ≤ 2
theorem putS_ok {s : St} {nb : Nat} (h : G0 s nb) {k : Int} {v : List Int} (hk : 0 ≤ k ∧ k ≤ 8) (hl : v.length = nb) (hv : ∀ i ∈ v, 0 ≤ i ∧ i ≤ 2) : G0 (putS s k v) nb := by
  have kk : (putS s k v).map Prod.fst = insK (s.map Prod.fst) k := by
    have := putA_keys (l := sA s) (k := k) (v := vD v)
    rwa [← sA_put, sA_keys, sA_keys] at this
  have mem : ∀ p ∈ putS s k v, p ∈ s ∨ p = (k, v) := by
    intro p hp
    unfold putS at hp
    by_cases q : k ∈ s.map Prod.fst
    · rw [if_pos q] at hp
      obtain ⟨r, hr, rfl⟩ := List.mem_map.mp hp
      by_cases z : r.1 = k
      · right; simp [z]
      · left; simp [z, hr]
    · rw [if_neg q] at hp
      rcases List.mem_append.mp hp with z | z
      · exact .inl z
      · right; simpa using z
  refine ⟨by rw [kk]; exact insK_nd h.nd, fun p hp => ?_, fun p hp => ?_, fun p hp => ?_⟩
  · rcases mem p hp with q | rfl
    · exact h.day p q
    · exact hk
  · rcases mem p hp with q | rfl
    · exact h.sz p q
    · exact hl
  · rcases mem p hp with q | rfl
    · exact h.ver p q
    · exact hv
theorem putS_len {s : St} {k : Int} {v : List Int} : (putS s k v).length ≤ s.length + 1 := by unfold putS; split <;> simp
theorem putS_ne {s : St} {k : Int} {v : List Int} : putS s k v ≠ [] := by
  unfold putS
  by_cases q : k ∈ s.map Prod.fst
  · rw [if_pos q]
    cases s with
    | nil => simp at q
    | cons _ _ => simp
  · rw [if_neg q]; simp
@[simp] theorem s_put {i : Nat} {fk fv : Fn} {ρ : L2.PL.Env} {g : Gs} : fPut i fk fv ρ g = match ρ[i]? with
  | some (.ow (.dict kvs)) => (fv ρ g).bind fun v g1 => (fk ρ g1).bind fun k g2 => if wOk ρ g2 && putOk kvs k then .ok (.nx (ρ.set i (.ow (.dict (putD kvs k v))))) g2 else .no
  | _ => .no := id rfl
abbrev E0 (nb : Nat) (s3 x4 : Sl) : L2.PL.Env := [.un, .dr, .sh (.int nb), s3, x4, .un, .un, .un, .un, .un, .un, .un, .un, .un, .un, .un, .un, .un, .un, .un, .un, .un, .un, .un, .un]
def lw_1 : FnS := fPar [2, 3] [.sh (fBin kAdd (fCst (.int 1)) (fCall F__law_next 2 (L2.PL.gDr 1 (L2.PL.gCons (fCst (.int 5)) (L2.PL.gNil))))), .ow (fNewD)]
def lw_2b : FnS := fPut 3 (fCall F__law_next 2 (L2.PL.gDr 1 (L2.PL.gCons (fCst (.int 9)) (L2.PL.gNil)))) (f1 kTuple (fLc (fRng1 (fPk 2)) (.nm 22) (fYes) (fCall F__law_next 2 (L2.PL.gDr 1 (L2.PL.gCons (fCst (.int 3)) (L2.PL.gNil)))) [22]))
def lw_2 : FnS := fFor (fRng1 (fBin kAdd (fCst (.int 1)) (fCall F__law_next 2 (L2.PL.gDr 1 (L2.PL.gCons (fCst (.int 5)) (L2.PL.gNil)))))) (.nm 4) lw_2b
def lw_3 : FnS := fSet 5 (fLstO (f1 kSorted (fPk 3)))
def lw_4 : FnS := fFz 3 (fIf (fOr (fNot (fCall F_is_states 1 (L2.PL.gCons (fVar 3) (L2.PL.gNil)))) (fBin (kEqX true) (fCall F_ever_changed 1 (L2.PL.gCons (fVar 3) (L2.PL.gNil))) (f1 kTuple (fLc (fRng1 (fPk 2)) (.nm 22) (fBin kGt (f1 kLenSet (fLc (fWalk (fVar 5)) (.nm 6) (fYes) (fBin kAt (fBin kAt (fPk 3) (fPk 6)) (fPk 22)) [6])) (fCst (.int 1))) (fVar 22) [22])))) (fRet (fCst (.bool false))) (fSkip))
def lw_5 : FnS := fSet 7 (fLstO (fLst (fNil)))
def lw_6bb_1 : FnS := fFz 3 (fSet 10 (fCall F__law_content 3 (L2.PL.gCons (fVar 3) (L2.PL.gCons (fVar 8) (L2.PL.gCons (fVar 9) (L2.PL.gNil))))))
def lw_6bb_2 : FnS := fFz 3 (fIf (fOr (fBin (kEqX true) (fCall F_content_of 3 (L2.PL.gCons (fVar 3) (L2.PL.gCons (fVar 8) (L2.PL.gCons (fVar 9) (L2.PL.gNil))))) (fPk 10)) (fOr (fBin (kEqX true) (f1 kList (fCall F_content_of 3 (L2.PL.gCons (fVar 3) (L2.PL.gCons (fVar 8) (L2.PL.gCons (fVar 9) (L2.PL.gNil)))))) (f1 kSorted (fPk 10))) (fAnd (fIsN false (fPk 8)) (fBin (kEqX true) (fCall F_behind 2 (L2.PL.gCons (fBin kAt (fPk 3) (fPk 8)) (L2.PL.gCons (fVar 10) (L2.PL.gNil)))) (fBin kAt (fPk 3) (fPk 9)))))) (fRet (fCst (.bool false))) (fSkip))
def lw_6bb_3 : FnS := fSet 7 (fBin kAdd (fPk 7) (fIte (fBin (kEqX true) (fPk 8) (fPk 9)) (fLstO (fLst (fCons (fTup (fCons (fVar 8) (fCons (fVar 9) (fNil)))) (fNil)))) (fLstO (fLst (fNil)))))
def lw_6bb : FnS := fSeq lw_6bb_1 (fSeq lw_6bb_2 (lw_6bb_3))
def lw_6b : FnS := fFor (fWalk (fVar 5)) (.nm 9) lw_6bb
def lw_6 : FnS := fFor (fWalk (fBin kAdd (fLst (fCons (fCst .none) (fNil))) (fPk 5))) (.nm 8) lw_6b
def lw_7 : FnS := fSet 7 (f1 kTuple (fSlc (fLc (fWalk (fVar 7)) (.nm 23) (fBin (kEqX false) (fCall F__law_next 2 (L2.PL.gDr 1 (L2.PL.gCons (fCst (.int 2)) (L2.PL.gNil)))) (fCst (.int 0))) (fVar 23) [23]) none (some (fCst (.int 20)))))
def lw_8 : FnS := fFz 3 (fIf (fOr (fBin (kEqX true) (fCall F_store_of 2 (L2.PL.gCons (fVar 3) (L2.PL.gCons (fVar 7) (L2.PL.gNil)))) (f1 kTuple (fLc (fWalk (fVar 7)) (.tp [(.nm 8), (.nm 9)]) (fYes) (fTup (fCons (fVar 8) (fCons (fVar 9) (fCons (f1 kLen (fCall F__law_content 3 (L2.PL.gCons (fVar 3) (L2.PL.gCons (fVar 8) (L2.PL.gCons (fVar 9) (L2.PL.gNil)))))) (fNil))))) [8, 9]))) (fNot (fCall F_is_store 1 (L2.PL.gCons (fCall F_store_of 2 (L2.PL.gCons (fVar 3) (L2.PL.gCons (fVar 7) (L2.PL.gNil)))) (L2.PL.gNil))))) (fRet (fCst (.bool false))) (fSkip))
def lw_9b_1 : FnS := fFz 3 (fSet 12 (fLstO (fLc (fWalk (fVar 5)) (.nm 11) (fBin (kEqX true) (fPk 11) (fPk 6)) (fTup (fCons (f1 kLen (fCall F__law_content 3 (L2.PL.gCons (fVar 3) (L2.PL.gCons (fVar 11) (L2.PL.gCons (fVar 6) (L2.PL.gNil)))))) (fCons (fVar 11) (fNil)))) [11])))
def lw_9b_2 : FnS := fFz 3 (fIf (fBin (kEqX true) (fCall F_closest_base 2 (L2.PL.gCons (fVar 3) (L2.PL.gCons (fVar 6) (L2.PL.gNil)))) (fIte (fBin (kEqX true) (fPk 12) (fLst (fNil))) (fTup (fCons (fBin kAt (f1 (kMin false) (fPk 12)) (fCst (.int 1))) (fCons (fBin kAt (f1 (kMin false) (fPk 12)) (fCst (.int 0))) (fNil)))) (fCst .none))) (fRet (fCst (.bool false))) (fSkip))
def lw_9b : FnS := fSeq lw_9b_1 (lw_9b_2)
def lw_9 : FnS := fFor (fWalk (fVar 5)) (.nm 6) lw_9b
def lw_10b_1 : FnS := fSet 13 (fTup (fCons (fCall F__law_pick 2 (L2.PL.gDr 1 (L2.PL.gCons (fVar 5) (L2.PL.gNil)))) (fNil)))
def lw_10b_2b_1 : FnS := fSet 15 (fCall F__law_pick 2 (L2.PL.gDr 1 (L2.PL.gCons (fVar 5) (L2.PL.gNil))))
def lw_10b_2b_2 : FnS := fSet 13 (fBin kAdd (fPk 13) (fIte (fBin (kEqX true) (fPk 15) (fBin kAt (fPk 13) (fNeg (fCst (.int 1))))) (fTup (fCons (fVar 15) (fNil))) (fTup (fNil))))
def lw_10b_2b : FnS := fSeq lw_10b_2b_1 (lw_10b_2b_2)
def lw_10b_2 : FnS := fFor (fRng1 (fCall F__law_next 2 (L2.PL.gDr 1 (L2.PL.gCons (fCst (.int 5)) (L2.PL.gNil))))) (.nm 14) lw_10b_2b
def lw_10b_3 : FnS := fAsg (.tp [(.nm 16), (.nm 17)]) (fTup (fCons (fTell (fNewD)) (fCons (fBin kAt (fPk 3) (fBin kAt (fPk 13) (fCst (.int 0)))) (fNil))))
def lw_10b_4b_1 : FnS := fFz 3 (fSet 16 (fTell (f1 kDictP (fBin kAdd (fItems (fPk 16)) (fItems (fCall F__law_content 3 (L2.PL.gCons (fVar 3) (L2.PL.gCons (fVar 8) (L2.PL.gCons (fVar 9) (L2.PL.gNil))))))))))
def lw_10b_4b_2 : FnS := fFz 3 (fSet 17 (fCall F__law_put 2 (L2.PL.gCons (fVar 17) (L2.PL.gCons (fCall F__law_content 3 (L2.PL.gCons (fVar 3) (L2.PL.gCons (fVar 8) (L2.PL.gCons (fVar 9) (L2.PL.gNil))))) (L2.PL.gNil)))))
def lw_10b_4b : FnS := fSeq lw_10b_4b_1 (lw_10b_4b_2)
def lw_10b_4 : FnS := fFor (fZip (fVar 13) (fSlc (fPk 13) (some (fCst (.int 1))) none)) (.tp [(.nm 8), (.nm 9)]) lw_10b_4b
def lw_10b_5 : FnS := fSet 11 (fCall F__law_pick 2 (L2.PL.gDr 1 (L2.PL.gCons (fVar 5) (L2.PL.gNil))))
def lw_10b_6 : FnS := fSet 18 (f1 kAll (fLc (fRng1 (fPk 2)) (.nm 22) (fBin (kInX true) (fPk 22) (fPk 16)) (fBin (kEqX false) (fBin kAt (fBin kAt (fPk 3) (fPk 11)) (fPk 22)) (fBin kAt (fBin kAt (fPk 3) (fBin kAt (fPk 13) (fNeg (fCst (.int 1))))) (fPk 22))) [22]))
def lw_10b_7 : FnS := fFz 3 (fIf (fOr (fBin (kEqX true) (fCall F_restored 2 (L2.PL.gCons (fVar 3) (L2.PL.gCons (fVar 13) (L2.PL.gNil)))) (fPk 17)) (fOr (fBin (kEqX true) (fPk 17) (fBin kAt (fPk 3) (fBin kAt (fPk 13) (fNeg (fCst (.int 1)))))) (fOr (fBin (kEqX true) (fCall F_folded_along 2 (L2.PL.gCons (fVar 3) (L2.PL.gCons (fVar 13) (L2.PL.gNil)))) (fPk 16)) (fBin (kEqX true) (f1 kList (fCall F_folded_along 2 (L2.PL.gCons (fVar 3) (L2.PL.gCons (fVar 13) (L2.PL.gNil))))) (f1 kSorted (fPk 16)))))) (fRet (fCst (.bool false))) (fSkip))
def lw_10b_8 : FnS := fFz 3 (fIf (fOr (fBin (kEqX true) (fCall F_wrongly_made 3 (L2.PL.gCons (fVar 3) (L2.PL.gCons (fVar 13) (L2.PL.gCons (fVar 11) (L2.PL.gNil))))) (fCall F__law_put 2 (L2.PL.gCons (fBin kAt (fPk 3) (fPk 11)) (L2.PL.gCons (fVar 16) (L2.PL.gNil))))) (fBin (kEqX true) (fBin (kEqX false) (fCall F_wrongly_made 3 (L2.PL.gCons (fVar 3) (L2.PL.gCons (fVar 13) (L2.PL.gCons (fVar 11) (L2.PL.gNil))))) (fBin kAt (fPk 3) (fBin kAt (fPk 13) (fNeg (fCst (.int 1)))))) (fPk 18))) (fRet (fCst (.bool false))) (fSkip))
def lw_10b_9 : FnS := fUnl [(.nm 19), (.nm 20)] (fLstO (fLc (fRng1 (fCst (.int 2))) (.nm 24) (fYes) (fTell (f1 kDictP (fLc (fRng1 (fCall F__law_next 2 (L2.PL.gDr 1 (L2.PL.gCons (fCst (.int 4)) (L2.PL.gNil))))) (.nm 14) (fYes) (fTup (fCons (fCall F__law_next 2 (L2.PL.gDr 1 (L2.PL.gCons (fVar 2) (L2.PL.gNil)))) (fCons (fCall F__law_next 2 (L2.PL.gDr 1 (L2.PL.gCons (fCst (.int 4)) (L2.PL.gNil)))) (fNil)))) [14]))) [24]))
def lw_10b_10 : FnS := fSet 21 (fTell (f1 kDictP (fBin kAdd (fItems (fPk 19)) (fItems (fPk 20)))))
def lw_10b_11_t : Fn := fOr (fBin (kEqX true) (fCall F_folded 2 (L2.PL.gCons (fVar 19) (L2.PL.gCons (fVar 20) (L2.PL.gNil)))) (fPk 21)) (fOr (fBin (kEqX true) (f1 kList (fCall F_folded 2 (L2.PL.gCons (fVar 19) (L2.PL.gCons (fVar 20) (L2.PL.gNil))))) (f1 kSorted (fPk 21))) (fOr (fBin (kEqX true) (fCall F_behind 2 (L2.PL.gCons (fCall F_behind 2 (L2.PL.gCons (fBin kAt (fPk 3) (fPk 11)) (L2.PL.gCons (fVar 19) (L2.PL.gNil)))) (L2.PL.gCons (fVar 20) (L2.PL.gNil)))) (fCall F_behind 2 (L2.PL.gCons (fBin kAt (fPk 3) (fPk 11)) (L2.PL.gCons (fCall F_folded 2 (L2.PL.gCons (fVar 19) (L2.PL.gCons (fVar 20) (L2.PL.gNil)))) (L2.PL.gNil))))) (fBin (kEqX true) (fCall F_behind 2 (L2.PL.gCons (fBin kAt (fPk 3) (fPk 11)) (L2.PL.gCons (fVar 19) (L2.PL.gNil)))) (fCall F__law_put 2 (L2.PL.gCons (fBin kAt (fPk 3) (fPk 11)) (L2.PL.gCons (fVar 19) (L2.PL.gNil)))))))
def lw_10b_11 : FnS := fIf lw_10b_11_t (fRet (fCst (.bool false))) (fSkip)
def lw_10b : FnS := fSeq lw_10b_1 (fSeq lw_10b_2 (fSeq lw_10b_3 (fSeq lw_10b_4 (fSeq lw_10b_5 (fSeq lw_10b_6 (fSeq lw_10b_7 (fSeq lw_10b_8 (fSeq lw_10b_9 (fSeq lw_10b_10 (lw_10b_11))))))))))
def lw_10 : FnS := fFor (fRng1 (fCst (.int 5))) (.nm 4) lw_10b
def lw_11 : FnS := fFz 3 (fRet (fCall F__law_refused_right 1 (L2.PL.gCons (fVar 3) (L2.PL.gNil))))
def lw : FnS := fSeq lw_1 (fSeq lw_2 (fSeq lw_3 (fSeq lw_4 (fSeq lw_5 (fSeq lw_6 (fSeq lw_7 (fSeq lw_8 (fSeq lw_9 (fSeq lw_10 (lw_11))))))))))
theorem lw_eq : b_law = lw := rfl
theorem rng_all2 {n : Nat} : rngD 0 (n : Int) = ((List.range n).map Int.ofNat).map .int := by rw [rngD_nat, List.map_map]; rfl
theorem q1 {ns : List Int} {g : Gs} (D : Dr0 ns g) : ∃ (nb : Nat) (g' : Gs), lw_1 ((List.replicate (1 + 24) Sl.un).set 1 .dr) g = .ok (.nx (E0 nb (.ow (dA [])) .un)) g' ∧ Dr0 ns g' ∧ 1 ≤ nb ∧ nb ≤ 5 := by
  obtain ⟨v, g1, e1, D1, v1, v2⟩ := d_next D (b := 5) (by decide)
  obtain ⟨n, hn⟩ : ∃ n : Nat, 1 + v = n := ⟨(1 + v).toNat, by omega⟩
  refine ⟨n, g1, ?_, D1, by omega, by omega⟩
  rw [show ((List.replicate (1 + 24) Sl.un).set 1 .dr) = [.un, .dr, .un, .un, .un, .un, .un, .un, .un, .un, .un, .un, .un, .un, .un, .un, .un, .un, .un, .un, .un, .un, .un, .un, .un] from rfl]
  simp [lw_1, e1, hn]
theorem q2 {ns : List Int} {nb : Nat} (n1 : 1 ≤ nb) (n2 : nb ≤ 5) {g : Gs} (D : Dr0 ns g) : ∃ (s : St) (x4 : Sl) (g' : Gs), lw_2 (E0 nb (.ow (dA [])) .un) g = .ok (.nx (E0 nb (.ow (stsD s)) x4)) g' ∧ Dr0 ns g' ∧ Good s nb := by
  have zz : 100 ≤ sizeLine := by decide
  obtain ⟨v, g1, e1, D1, v1, v2⟩ := d_next D (b := 5) (by decide)
  obtain ⟨n, hn⟩ : ∃ n : Nat, 1 + v = n := ⟨(1 + v).toNat, by omega⟩
  have key := loop_run (t := .nm 4) (body := lw_2b) (fun k ρ g => Dr0 ns g ∧ ∃ s x4, ρ = E0 nb (.ow (stsD s)) x4 ∧ G0 s nb ∧ s.length ≤ k ∧ (0 < k → s ≠ [])) (rngD 0 (n : Int)) 0 (E0 nb (.ow (dA [])) .un) g1 ⟨D1, [], .un, rfl, ⟨List.nodup_nil, by simp, by simp, by simp⟩, by simp, by simp⟩ (by
    rintro i ρ g d hd ⟨D, s, x4, rfl, hg, hl, hne⟩
    have hi : i < n := by
      rcases Nat.lt_or_ge i n with q | q
      · exact q
      · rw [rngD_nat, List.getElem?_eq_none (by simpa using q)] at hd; cases hd
    obtain ⟨w, g2, l1, l2, D2, l3⟩ := ev_lcdrw (Dr0 ns) PyData.int (fun n => [(22, .int n)]) PyData.int (fun x => 0 ≤ x ∧ x ≤ 2) (t := .nm 22) (fi := fRng1 (fPk 2)) (fe := fCall F__law_next 2 (L2.PL.gDr 1 (L2.PL.gCons (fCst (.int 3)) (L2.PL.gNil)))) (vs := [22]) (ρ := E0 nb (.ow (stsD s)) (.sh d)) (l := (List.range nb).map Int.ofNat) (g0 := g) (g := g)
        (by rw [← rng_all2]; simp [k_rng (n := nb) (g := g) (by omega)]) D (by simp) (by
          intro a _ g D
          obtain ⟨v, g', e, D', b1, b2⟩ := d_next D (b := 3) (by decide)
          exact ⟨v, g', by simp [e], D', b1, by omega⟩) (by simp; omega)
    obtain ⟨k, g3, e3, D3, k1, k2⟩ := d_next D2 (b := 9) (by decide)
    obtain ⟨c, hc, rfl⟩ := D3
    have ok1 := putOk_A (l := sA s) (k := k) (by simp; omega)
    have ok2 : putD (kv2 (sA s)) (.int k) (.tuple (w.map .int)) = kv2 (sA (putS s k w)) := by
      have ok2 := putD_A (l := sA s) (k := k) (v := vD w)
      rw [← sA_put] at ok2
      exact ok2
    refine ⟨[(4, d)], E0 nb (.ow (stsD (putS s k w))) (.sh d), some (ns.map .int, c), by simp, .inl ?_, ⟨c, hc, rfl⟩, putS s k w, .sh d, rfl, putS_ok hg ⟨k1, by omega⟩ (by simpa using l1) l2, by have := putS_len (s := s) (k := k) (v := w); omega, fun _ => putS_ne⟩
    unfold stsD dA at *
    generalize kv2 (sA (putS s k w)) = K2 at *
    generalize kv2 (sA s) = K1 at *
    generalize w.map PyData.int = WD at *
    simp [lw_2b, l3, e3, ok1, ok2])
  obtain ⟨ρ', g', f1, D', s, x4, rfl, hg, hl, hne⟩ := key
  have hlen : (rngD 0 (n : Int)).length = n := by rw [rngD_nat]; simp
  rw [hlen, Nat.zero_add] at hl hne
  refine ⟨s, x4, g', ?_, D', ⟨hne (by omega), by omega, hg.nd, hg.day, hg.sz, n1, n2, hg.ver⟩⟩
  rw [lw_2, s_for]
  simp [e1, hn, k_rng (n := n) (g := g1) (by omega)]
  exact f1
abbrev dyD (s : St) : PyData := .list ((srt (days s)).map .int)
abbrev E1 (nb : Nat) (s3 x4 x5 : Sl) : L2.PL.Env := [.un, .dr, .sh (.int nb), s3, x4, x5, .un, .un, .un, .un, .un, .un, .un, .un, .un, .un, .un, .un, .un, .un, .un, .un, .un, .un, .un]
theorem q3 {nb : Nat} {s : St} {x4 : Sl} {g : Gs} : lw_3 (E0 nb (.ow (stsD s)) x4) g = .ok (.nx (E1 nb (.ow (stsD s)) x4 (.sh (dyD s)))) g := by
  have := k_sortedA (l := sA s) (g := g)
  rw [sA_keys, show dA (sA s) = stsD s from rfl, show PyData.list ((srt (days s)).map .int) = dyD s from rfl] at this
  have fz : freezable (dyD s) = true := rfl
  generalize stsD s = S at *
  generalize dyD s = L at *
  simp [lw_3, this, fz]
theorem dyMem {s : St} {d : Int} : d ∈ srt (days s) ↔ d ∈ days s := srt_mem
theorem dyLen {s : St} : (srt (days s)).length = s.length := by
  have := (List.mergeSort_perm (days s) fun a b => decide (a ≤ b)).length_eq
  simpa using this
theorem q4 {nb : Nat} {s : St} (h : Good s nb) {x4 : Sl} (p : Dw) : lw_4 (E1 nb (.ow (stsD s)) x4 (.sh (dyD s))) (some p) = .ok (.nx (E1 nb (.sh (stsD s)) x4 (.sh (dyD s)))) (some p) := by
  have zz : 100 ≤ sizeLine := by decide
  have n5 := h.nb8
  have hl := h.len
  have a1 := v_is_states h p
  have a2 := v_ever h p
  have e1 := ev_lc (fun b : Nat => .int (b : Nat)) (fun b : Nat => [(22, .int (b : Nat))]) (chd s) (fun b : Nat => .int (b : Nat)) (t := .nm 22) (fi := fRng1 (fPk 2)) (fc := fBin kGt (f1 kLenSet (fLc (fWalk (fVar 5)) (.nm 6) (fYes) (fBin kAt (fBin kAt (fPk 3) (fPk 6)) (fPk 22)) [6])) (fCst (.int 1))) (fe := fVar 22) (vs := [22]) (ρ := E1 nb (.sh (stsD s)) x4 (.sh (dyD s))) (l := List.range nb) (g := some p) (g0 := some p) (by simp [k_rng (n := nb) (g := some p) (by omega), rngD_nat]) (by simp) (by
    intro b hb
    have hb' := List.mem_range.mp hb
    have e5 := ev_lcy PyData.int (fun d => [(6, .int d)]) (fun d => .int (vi (gs s d) b)) (t := .nm 6) (fi := fWalk (fVar 5)) (fe := fBin kAt (fBin kAt (fPk 3) (fPk 6)) (fPk 22)) (vs := [6]) (ρ := [.un, .dr, .sh (.int nb), .sh (stsD s), x4, .sh (dyD s), .un, .un, .un, .un, .un, .un, .un, .un, .un, .un, .un, .un, .un, .un, .un, .un, .sh (.int (b : Nat)), .un, .un]) (l := srt (days s)) (g := some p) (g0 := some p) (by simp) (by simp) (by
      intro d hd
      have hd' := srt_mem.mp hd
      have k1 := k_state (s := s) (d := d) (g := some p) hd'
      have k2 := k_vi (v := gs s d) (b := b) (g := some p) (by rw [gs_len h hd']; exact hb')
      generalize stsD s = S at *
      generalize vD (gs s d) = V at *
      simp [k1, k2]) (by rw [dyLen]; omega)
    have e6 : kLenSet (.list ((srt (days s)).map fun d => .int (vi (gs s d) b))) (some p) = .ok (.int (sortU ((srt (days s)).map fun d => vi (gs s d) b)).length) (some p) := by
      unfold kLenSet itemsD
      simp only [asInts_map]
      rw [if_pos (by
        rw [List.length_map, dyLen]
        exact Nat.lt_trans (show s.length + 1 < 64 by omega) (by decide))]
    have e7 : sortU ((srt (days s)).map fun d => vi (gs s d) b) = sortU (s.map fun p => vi p.2 b) := sortU_ext fun x => by
      constructor
      · intro hx
        obtain ⟨d, hd, rfl⟩ := List.mem_map.mp hx
        exact List.mem_map.mpr ⟨_, gs_mem (srt_mem.mp hd), rfl⟩
      · intro hx
        obtain ⟨q, hq, rfl⟩ := List.mem_map.mp hx
        refine List.mem_map.mpr ⟨q.1, srt_mem.mpr (List.mem_map.mpr ⟨q, hq, rfl⟩), ?_⟩
        have h1 := gA_of (l := sA s) (k := q.1) (v := vD q.2) (by rw [sA_keys]; exact h.nd) (List.mem_map.mpr ⟨q, hq, rfl⟩)
        rw [gA_sA (List.mem_map.mpr ⟨q, hq, rfl⟩)] at h1
        have h2 : vD (gs s q.1) = vD q.2 := Option.some.inj h1
        have h3 : gs s q.1 = q.2 := by
          have := PyData.tuple.inj h2
          exact (List.map_inj_right (fun _ _ e => PyData.int.inj e)).mp this
        rw [h3]
    rw [e7] at e6
    unfold chd
    generalize (sortU (s.map fun p => vi p.2 b)).length = n at *
    generalize PyData.list ((srt (days s)).map fun d => .int (vi (gs s d) b)) = L at *
    generalize dyD s = DY at *
    generalize stsD s = S at *
    simp [e5, e6]
    omega) (by simp) (by simp; omega)
  have e2 : ((List.range nb).filter (chd s)).map (fun b : Nat => PyData.int (b : Nat)) = (evr s nb).map .int := by unfold evr; rw [List.map_map]; rfl
  rw [e2] at e1
  have e3 := k_eqTT (neg := true) (a := evr s nb) (b := evr s nb) (g := some p)
  rw [decide_eq_true rfl] at e3
  generalize (evr s nb).map PyData.int = EV at *
  generalize dyD s = DY at *
  generalize stsD s = S at *
  simp [lw_4, frzE, a1, a2, e1, e3]
end K03
set_option Elab.async false
set_option linter.all false
set_option maxRecDepth 100000
set_option maxHeartbeats 400000
set_option pp.maxSteps 400
namespace K03
open PySem L2.PL
abbrev RR (nb : Nat) (S DY : PyData) (x4 x6 x7 x8 x9 x10 x11 x12 x13 x14 x15 x16 x17 x18 x19 x20 x21 : Sl) : L2.PL.Env := [.un, .dr, .sh (.int nb), .sh S, x4, .sh DY, x6, x7, x8, x9, x10, x11, x12, x13, x14, x15, x16, x17, x18, x19, x20, x21, .un, .un, .un]
/-! contents -/
theorem cA_sm {c : Ct} : ∀ p ∈ cA c, smD p.2 = true := fun p hp => by
  obtain ⟨q, _, rfl⟩ := List.mem_map.mp hp
  exact sm_e (α := Int) (a := q.2)
theorem cA_eqv {c : Ct} : ∀ p ∈ cA c, PyData.eqv p.2 p.2 = true := fun p hp => by
  obtain ⟨q, _, rfl⟩ := List.mem_map.mp hp
  have := Enc.eqv (α := Int) q.2 q.2
  rw [decide_eq_true rfl] at this
  exact this
theorem k_eqC {neg : Bool} {a b : Ct} {g : Gs} (na : (a.map Prod.fst).Nodup) (nb : (b.map Prod.fst).Nodup) (h : ∀ j, gC a j = gC b j) : kEqX neg (ctD a) (ctD b) g = .ok (.bool (!neg)) g :=
  k_eqA (by rw [cA_keys]; exact na) (by rw [cA_keys]; exact nb) cA_sm cA_sm cA_eqv (fun j => by rw [gA_cA, gA_cA, h j])
theorem srt_id {l : List Int} (h : l.Pairwise (· < ·)) : srt l = l := strict_ext (srt_nodup (pw_nd h)) h fun x => srt_mem
theorem k_keysC {c : Ct} {g : Gs} : kList (ctD c) g = .ok (.list ((c.map Prod.fst).map .int)) g := by
  have := k_listA (l := cA c) (g := g)
  rwa [cA_keys] at this
theorem k_sortC {c : Ct} {g : Gs} : kSorted (ctD c) g = .ok (.list ((srt (c.map Prod.fst)).map .int)) g := by
  have := k_sortedA (l := cA c) (g := g)
  rwa [cA_keys] at this
theorem k_eqV {neg : Bool} {a b : List Int} {g : Gs} : kEqX neg (vD a) (vD b) g = .ok (.bool (if neg then !decide (a = b) else decide (a = b))) g := k_eqTT
/-! statement 6: all contents -/
theorem q6 {nb : Nat} {s : St} (h : Good s nb) {x4 x6 x10 x11 x12 x13 x14 x15 x16 x17 x18 x19 x20 x21 : Sl} {ps : List Pr} (hp : ∀ p ∈ ps, okP s p) (hl : ps.length ≤ 90) {one : Option Int} (ho : onIn s one) {to : Int} (ht : to ∈ days s) (p : Dw) :
    ∃ (ps' : List Pr) (x10' : Sl), (∀ p ∈ ps', okP s p) ∧ ps'.length ≤ ps.length + 1 ∧ lw_6bb (RR nb (stsD s) (dyD s) x4 x6 (.sh (.list (ps.map prD))) (.sh (oD one)) (.sh (.int to)) x10 x11 x12 x13 x14 x15 x16 x17 x18 x19 x20 x21) (some p) = .ok (.nx (RR nb (stsD s) (dyD s) x4 x6 (.sh (.list (ps'.map prD))) (.sh (oD one)) (.sh (.int to)) x10' x11 x12 x13 x14 x15 x16 x17 x18 x19 x20 x21)) (some p) := by
  have zz : 100 ≤ sizeLine := by decide
  have a1 := v__law_content h ho ht p
  have a2 := v_content_of h ho ht p
  have cok := ctn_ok h (one := one) ht
  have e1 := k_eqC (neg := true) (a := ctn s nb one to) (b := ctn s nb one to) (g := some p) cok.nd cok.nd (fun _ => rfl)
  have e2 : kList (ctD (ctn s nb one to)) (some p) = .ok (.list (((ctn s nb one to).map Prod.fst).map .int)) (some p) := k_keysC
  have e3 : kSorted (ctD (ctn s nb one to)) (some p) = .ok (.list (((ctn s nb one to).map Prod.fst).map .int)) (some p) := by rw [k_sortC, srt_id ctn_nd]
  have e4 := k_eqLL (neg := true) (a := (ctn s nb one to).map Prod.fst) (b := (ctn s nb one to).map Prod.fst) (g := some p)
  rw [decide_eq_true rfl] at e4
  have e5 : isNonD (oD one) = true ∨ ∃ V, kAt (stsD s) (oD one) (some p) = .ok V (some p) ∧ F_behind [.sh V, .sh (ctD (ctn s nb one to))] (some p) = .ok (vD (gs s to)) (some p) := by
    cases one with
    | none => exact .inl rfl
    | some o =>
      right
      have ho' := ho o rfl
      refine ⟨_, k_state ho', ?_⟩
      have := v_behind (goodV h ho') (gs_len h ho') cok (some p)
      rwa [pt_ctn h ho' ht] at this
  have e6 := k_state (s := s) (d := to) (g := some p) ht
  have e7 := k_eqV (neg := true) (a := gs s to) (b := gs s to) (g := some p)
  rw [decide_eq_true rfl] at e7
  have r1 : lw_6bb_1 (RR nb (stsD s) (dyD s) x4 x6 (.sh (.list (ps.map prD))) (.sh (oD one)) (.sh (.int to)) x10 x11 x12 x13 x14 x15 x16 x17 x18 x19 x20 x21) (some p) = .ok (.nx (RR nb (stsD s) (dyD s) x4 x6 (.sh (.list (ps.map prD))) (.sh (oD one)) (.sh (.int to)) (.sh (ctD (ctn s nb one to))) x11 x12 x13 x14 x15 x16 x17 x18 x19 x20 x21)) (some p) := by
    generalize ctD (ctn s nb one to) = C at *
    generalize dyD s = DY at *
    generalize stsD s = S at *
    generalize oD one = O at *
    generalize ps.map prD = PS at *
    simp [lw_6bb_1, frzE, a1]
  have r2 : lw_6bb_2 (RR nb (stsD s) (dyD s) x4 x6 (.sh (.list (ps.map prD))) (.sh (oD one)) (.sh (.int to)) (.sh (ctD (ctn s nb one to))) x11 x12 x13 x14 x15 x16 x17 x18 x19 x20 x21) (some p) = .ok (.nx (RR nb (stsD s) (dyD s) x4 x6 (.sh (.list (ps.map prD))) (.sh (oD one)) (.sh (.int to)) (.sh (ctD (ctn s nb one to))) x11 x12 x13 x14 x15 x16 x17 x18 x19 x20 x21)) (some p) := by
    generalize ((ctn s nb one to).map Prod.fst).map PyData.int = KL at *
    generalize ctD (ctn s nb one to) = C at *
    generalize dyD s = DY at *
    generalize stsD s = S at *
    generalize oD one = O at *
    generalize ps.map prD = PS at *
    generalize vD (gs s to) = VT at *
    rcases e5 with e5 | ⟨V, e5, e8⟩
    · simp [lw_6bb_2, frzE, a2, e1, e2, e3, e4, e5]
    · cases q : isNonD O with
      | true => simp [lw_6bb_2, frzE, a2, e1, e2, e3, e4, q]
      | false => simp [lw_6bb_2, frzE, a2, e1, e2, e3, e4, q, e5, e6, e7, e8]
  have z1 : 1 ≤ sizeLine := by omega
  have z2 : 2 ≤ sizeLine := by omega
  have r3 : ∃ ps' : List Pr, (∀ p ∈ ps', okP s p) ∧ ps'.length ≤ ps.length + 1 ∧ lw_6bb_3 (RR nb (stsD s) (dyD s) x4 x6 (.sh (.list (ps.map prD))) (.sh (oD one)) (.sh (.int to)) (.sh (ctD (ctn s nb one to))) x11 x12 x13 x14 x15 x16 x17 x18 x19 x20 x21) (some p) = .ok (.nx (RR nb (stsD s) (dyD s) x4 x6 (.sh (.list (ps'.map prD))) (.sh (oD one)) (.sh (.int to)) (.sh (ctD (ctn s nb one to))) x11 x12 x13 x14 x15 x16 x17 x18 x19 x20 x21)) (some p) := by
    have k := k_eqOI (neg := true) (i := one) (j := to) (g := some p)
    by_cases q : one = some to
    · rw [decide_eq_true q] at k
      refine ⟨ps, hp, by omega, ?_⟩
      have ad : kAdd (.list (ps.map prD)) (.list []) (some p) = .ok (.list (ps.map prD)) (some p) := by rw [k_addL (by simp; omega), List.append_nil]
      generalize ctD (ctn s nb one to) = C at *
      generalize dyD s = DY at *
      generalize stsD s = S at *
      generalize oD one = O at *
      generalize ps.map prD = PS at *
      simp [lw_6bb_3, k, ad]
    · rw [decide_eq_false q] at k
      refine ⟨ps ++ [(one, to)], fun x hx => ?_, by simp, ?_⟩
      · rcases List.mem_append.mp hx with y | y
        · exact hp x y
        · simp at y; subst y; exact ⟨ho, ht, q⟩
      · have ad : kAdd (.list (ps.map prD)) (.list [.tuple [oD one, .int to]]) (some p) = .ok (.list ((ps ++ [(one, to)]).map prD)) (some p) := by
          rw [k_addL (by simp; omega), List.map_append]; rfl
        generalize ctD (ctn s nb one to) = C at *
        generalize dyD s = DY at *
        generalize stsD s = S at *
        generalize oD one = O at *
        generalize (ps ++ [(one, to)]).map prD = PS2 at *
        generalize ps.map prD = PS at *
        simp [lw_6bb_3, k, ad, z1, z2]
  obtain ⟨ps', p1, p2, r3⟩ := r3
  refine ⟨ps', .sh (ctD (ctn s nb one to)), p1, p2, ?_⟩
  rw [lw_6bb, s_seq, r1]
  simp only [bind_ok]
  rw [s_seq, r2]
  simp only [bind_ok]
  rw [r3]
theorem q6b {nb : Nat} {s : St} (h : Good s nb) {x4 x6 x9 x10 x11 x12 x13 x14 x15 x16 x17 x18 x19 x20 x21 : Sl} {ps : List Pr} (hp : ∀ p ∈ ps, okP s p) (hl : ps.length ≤ 81) {one : Option Int} (ho : onIn s one) (p : Dw) :
    ∃ (ps' : List Pr) (x9' x10' : Sl), (∀ p ∈ ps', okP s p) ∧ ps'.length ≤ ps.length + 9 ∧ lw_6b (RR nb (stsD s) (dyD s) x4 x6 (.sh (.list (ps.map prD))) (.sh (oD one)) x9 x10 x11 x12 x13 x14 x15 x16 x17 x18 x19 x20 x21) (some p) = .ok (.nx (RR nb (stsD s) (dyD s) x4 x6 (.sh (.list (ps'.map prD))) (.sh (oD one)) x9' x10' x11 x12 x13 x14 x15 x16 x17 x18 x19 x20 x21)) (some p) := by
  have n9 := h.len
  have dl := dyLen (s := s)
  have key := loop_list (t := .nm 9) (body := lw_6bb) PyData.int (fun pre ρ g => g = some p ∧ ∃ (ps' : List Pr) (x9 x10 : Sl), ρ = RR nb (stsD s) (dyD s) x4 x6 (.sh (.list (ps'.map prD))) (.sh (oD one)) x9 x10 x11 x12 x13 x14 x15 x16 x17 x18 x19 x20 x21 ∧ (∀ p ∈ ps', okP s p) ∧ ps'.length ≤ ps.length + pre.length) (srt (days s)) (ρ := RR nb (stsD s) (dyD s) x4 x6 (.sh (.list (ps.map prD))) (.sh (oD one)) x9 x10 x11 x12 x13 x14 x15 x16 x17 x18 x19 x20 x21) (g := some p) ⟨rfl, ps, _, _, rfl, hp, by simp⟩ (by
    rintro pre to post e ρ g ⟨rfl, qs, y9, y10, rfl, q1, q2⟩
    have hpre : pre.length < s.length := by rw [← dl, e]; simp
    obtain ⟨ps', z10, r1, r2, r3⟩ := q6 h (x4 := x4) (x6 := x6) (x10 := y10) (x11 := x11) (x12 := x12) (x13 := x13) (x14 := x14) (x15 := x15) (x16 := x16) (x17 := x17) (x18 := x18) (x19 := x19) (x20 := x20) (x21 := x21) q1 (by omega) ho (to := to) (srt_mem.mp (by rw [e]; simp)) p
    exact ⟨[(9, .int to)], _, _, by simp, .inl r3, rfl, ps', _, _, rfl, r1, by simp; omega⟩)
  obtain ⟨ρ', g', f1', rfl, ps', y9, y10, rfl, q1, q2⟩ := key
  refine ⟨ps', y9, y10, q1, by omega, ?_⟩
  rw [lw_6b, s_for]
  have : fWalk (fVar 5) (RR nb (stsD s) (dyD s) x4 x6 (.sh (.list (ps.map prD))) (.sh (oD one)) x9 x10 x11 x12 x13 x14 x15 x16 x17 x18 x19 x20 x21) (some p) = .ok ((srt (days s)).map .int) (some p) := rfl
  rw [this, bind_ok, f1']
theorem q6l {nb : Nat} {s : St} (h : Good s nb) {x4 : Sl} (p : Dw) :
    ∃ (ps : List Pr) (x8 x9 x10 : Sl), (∀ p ∈ ps, okP s p) ∧ ps.length ≤ 90 ∧ lw_6 (RR nb (stsD s) (dyD s) x4 .un (.sh (.list [])) .un .un .un .un .un .un .un .un .un .un .un .un .un .un) (some p) = .ok (.nx (RR nb (stsD s) (dyD s) x4 .un (.sh (.list (ps.map prD))) x8 x9 x10 .un .un .un .un .un .un .un .un .un .un .un)) (some p) := by
  have n9 := h.len
  have dl := dyLen (s := s)
  have key := loop_list (t := .nm 8) (body := lw_6b) oD (fun pre ρ g => g = some p ∧ ∃ (ps' : List Pr) (x8 x9 x10 : Sl), ρ = RR nb (stsD s) (dyD s) x4 .un (.sh (.list (ps'.map prD))) x8 x9 x10 .un .un .un .un .un .un .un .un .un .un .un ∧ (∀ p ∈ ps', okP s p) ∧ ps'.length ≤ 9 * pre.length) (none :: (srt (days s)).map some) (ρ := RR nb (stsD s) (dyD s) x4 .un (.sh (.list (([] : List Pr).map prD))) .un .un .un .un .un .un .un .un .un .un .un .un .un .un) (g := some p) ⟨rfl, [], _, _, _, rfl, by simp, by simp⟩ (by
    rintro pre one post e ρ g ⟨rfl, qs, y8, y9, y10, rfl, q1, q2⟩
    have hpre : pre.length < 10 := by
      have := congrArg List.length e
      simp [dl] at this
      omega
    have ho : onIn s one := fun o eo => by
      have : one ∈ none :: (srt (days s)).map some := by rw [e]; simp
      rw [eo] at this
      simp at this
      obtain ⟨x, hx⟩ := this
      exact List.mem_map.mpr ⟨_, hx, rfl⟩
    obtain ⟨ps', z9, z10, r1, r2, r3⟩ := q6b h (x4 := x4) (x6 := .un) (x9 := y9) (x10 := y10) (x11 := .un) (x12 := .un) (x13 := .un) (x14 := .un) (x15 := .un) (x16 := .un) (x17 := .un) (x18 := .un) (x19 := .un) (x20 := .un) (x21 := .un) q1 (by omega) ho p
    exact ⟨[(8, oD one)], _, _, by simp, .inl r3, rfl, ps', _, _, _, rfl, r1, by simp; omega⟩)
  obtain ⟨ρ', g', f1', rfl, ps', y8, y9, y10, rfl, q1, q2⟩ := key
  refine ⟨ps', y8, y9, y10, q1, by simp [dl] at q2; omega, ?_⟩
  rw [lw_6, s_for]
  have z1 : 1 ≤ sizeLine := by decide
  have zz : 100 ≤ sizeLine := by decide
  have ad : kAdd (.list [.none]) (dyD s) (some p) = .ok (.list ((none :: (srt (days s)).map some).map oD)) (some p) := by
    rw [dyD, k_addL (by simp [dl]; omega)]
    simp [oD, List.map_map, Function.comp_def]
  have : fWalk (fBin kAdd (fLst (fCons (fCst .none) (fNil))) (fPk 5)) (RR nb (stsD s) (dyD s) x4 .un (.sh (.list [])) .un .un .un .un .un .un .un .un .un .un .un .un .un .un) (some p) = .ok ((none :: (srt (days s)).map some).map oD) (some p) := by
    generalize (none :: (srt (days s)).map some).map oD = OL at *
    generalize dyD s = DY at *
    generalize stsD s = S at *
    simp [z1, ad]
  rw [this, bind_ok]
  exact f1'
/-! statement 7, 8: the store -/
theorem cut_20 {α : Type} (xs : List α) : cutD xs none (some 20) = xs.take 20 := by
  show (xs.drop 0).take (min 20 xs.length - 0) = xs.take 20
  rw [List.drop_zero, Nat.sub_zero]
  by_cases h : xs.length ≤ 20
  · rw [Nat.min_eq_right h, List.take_length, List.take_of_length_le h]
  · rw [Nat.min_eq_left (by omega)]
theorem q7 {ns : List Int} {nb : Nat} {s : St} {x4 x8 x9 x10 : Sl} {ps : List Pr} (hp : ∀ p ∈ ps, okP s p) (hl : ps.length ≤ 90) {g : Gs} (D : Dr0 ns g) :
    ∃ (ps' : List Pr) (g' : Gs), (∀ p ∈ ps', okP s p) ∧ ps'.length ≤ 20 ∧ lw_7 (RR nb (stsD s) (dyD s) x4 .un (.sh (.list (ps.map prD))) x8 x9 x10 .un .un .un .un .un .un .un .un .un .un .un) g = .ok (.nx (RR nb (stsD s) (dyD s) x4 .un (.sh (.tuple (ps'.map prD))) x8 x9 x10 .un .un .un .un .un .un .un .un .un .un .un)) g' ∧ Dr0 ns g' := by
  have zz : 100 ≤ sizeLine := by decide
  obtain ⟨l, g2, l1, D2, l2⟩ := ev_lcsel (Dr0 ns) prD (fun q => [(23, prD q)]) prD (t := .nm 23) (fi := fWalk (fVar 7)) (fc := fBin (kEqX false) (fCall F__law_next 2 (L2.PL.gDr 1 (L2.PL.gCons (fCst (.int 2)) (L2.PL.gNil)))) (fCst (.int 0))) (fe := fVar 23) (vs := [23]) (ρ := RR nb (stsD s) (dyD s) x4 .un (.sh (.list (ps.map prD))) x8 x9 x10 .un .un .un .un .un .un .un .un .un .un .un) (l := ps) (g0 := g) (g := g)
    (by simp) D (by simp) (by
      intro a _ g D
      obtain ⟨v, g', e, D', _⟩ := d_next D (b := 2) (by decide)
      exact ⟨decide (v = 0), g', by simp [e], D'⟩) (by simp) (by omega)
  have e : kSlc (.list (l.map prD)) none (some 20) g2 = .ok (.list ((l.take 20).map prD)) g2 := by
    show Res.ok (PyData.list (cutD (l.map prD) none (some 20))) g2 = _
    rw [cut_20, List.map_take]
  refine ⟨l.take 20, g2, fun q hq => hp q (l1.subset (List.mem_of_mem_take hq)), by simp; omega, ?_, D2⟩
  generalize hL2 : (l.take 20).map prD = L2 at *
  generalize l.map prD = L at *
  simp [lw_7, l2, e, hL2]
theorem q8 {nb : Nat} {s : St} (h : Good s nb) {x4 x8 x9 x10 : Sl} {ps : List Pr} (hp : ∀ p ∈ ps, okP s p) (hl : ps.length ≤ 20) (p : Dw) : lw_8 (RR nb (stsD s) (dyD s) x4 .un (.sh (.tuple (ps.map prD))) x8 x9 x10 .un .un .un .un .un .un .un .un .un .un .un) (some p) = .ok (.nx (RR nb (stsD s) (dyD s) x4 .un (.sh (.tuple (ps.map prD))) x8 x9 x10 .un .un .un .un .un .un .un .un .un .un .un)) (some p) := by
  have zz : 100 ≤ sizeLine := by decide
  have a1 := v_store_of h hp hl p
  have a2 := v_is_store (ps.map (itP s nb)) (some p) (by simp; omega)
  rw [storeOk h hp hl] at a2
  have e1 := ev_lcy prD (fun q => [(8, oD q.1), (9, .int q.2)]) (fun q => itD (itP s nb q)) (t := .tp [.nm 8, .nm 9]) (fi := fWalk (fVar 7)) (fe := fTup (fCons (fVar 8) (fCons (fVar 9) (fCons (f1 kLen (fCall F__law_content 3 (L2.PL.gCons (fVar 3) (L2.PL.gCons (fVar 8) (L2.PL.gCons (fVar 9) (L2.PL.gNil)))))) (fNil))))) (vs := [8, 9]) (ρ := RR nb (stsD s) (dyD s) x4 .un (.sh (.tuple (ps.map prD))) x8 x9 x10 .un .un .un .un .un .un .un .un .un .un .un) (l := ps) (g := some p) (g0 := some p) (by simp) (by intro a _; simp [prD, bind_tp2]) (by
    intro q hq
    have hq := hp q hq
    have c1 := v__law_content h hq.1 hq.2.1 p
    have c2 : kLen (ctD (ctn s nb q.1 q.2)) (some p) = .ok (.int (ctn s nb q.1 q.2).length) (some p) := by simp
    have z3 : 3 ≤ sizeLine := by omega
    unfold itP itD
    generalize dyD s = DY at *
    generalize stsD s = S at *
    generalize PyData.tuple (ps.map prD) = PS at *
    generalize ctn s nb q.1 q.2 = C at *
    generalize ctD C = CD at *
    simp [c1, c2, z3]) (by omega)
  have e2 : ps.map (fun q => itD (itP s nb q)) = (ps.map (itP s nb)).map itD := by rw [List.map_map]; rfl
  rw [e2] at e1
  have e3 : kTuple (.list ((ps.map (itP s nb)).map itD)) (some p) = .ok (stD (ps.map (itP s nb))) (some p) := rfl
  have e4 : kEqX true (stD (ps.map (itP s nb))) (stD (ps.map (itP s nb))) (some p) = .ok (.bool false) (some p) := by
    have := k_eq (α := List It) (neg := true) (a := ps.map (itP s nb)) (b := ps.map (itP s nb)) (g := some p)
    rw [decide_eq_true rfl] at this
    exact this
  generalize stD (ps.map (itP s nb)) = ST at *
  generalize PyData.list ((ps.map (itP s nb)).map itD) = SL at *
  generalize dyD s = DY at *
  generalize stsD s = S at *
  generalize PyData.tuple (ps.map prD) = PS at *
  simp [lw_8, frzE, a1, a2, e1, e3, e4]
/-! statement 9: closest_base -/
theorem q9 {nb : Nat} {s : St} (h : Good s nb) {x4 x7 x8 x9 x10 x11 x12 x13 x14 x15 x16 x17 x18 x19 x20 x21 : Sl} {d : Int} (hd : d ∈ days s) (p : Dw) : ∃ x12', lw_9b (RR nb (stsD s) (dyD s) x4 (.sh (.int d)) x7 x8 x9 x10 x11 x12 x13 x14 x15 x16 x17 x18 x19 x20 x21) (some p) = .ok (.nx (RR nb (stsD s) (dyD s) x4 (.sh (.int d)) x7 x8 x9 x10 x11 x12' x13 x14 x15 x16 x17 x18 x19 x20 x21)) (some p) := by
  have hl := h.len
  have dl := dyLen (s := s)
  have zz : 100 ≤ sizeLine := by decide
  have a1 := v_closest h hd p
  have e1 := ev_lc PyData.int (fun o => [(11, .int o)]) (fun o => !decide (o = d)) (fun o => p2 (rw_ s nb d o)) (t := .nm 11) (fi := fWalk (fVar 5)) (fc := fBin (kEqX true) (fPk 11) (fPk 6)) (fe := fTup (fCons (f1 kLen (fCall F__law_content 3 (L2.PL.gCons (fVar 3) (L2.PL.gCons (fVar 11) (L2.PL.gCons (fVar 6) (L2.PL.gNil)))))) (fCons (fVar 11) (fNil)))) (vs := [11]) (ρ := RR nb (stsD s) (dyD s) x4 (.sh (.int d)) x7 x8 x9 x10 x11 x12 x13 x14 x15 x16 x17 x18 x19 x20 x21) (l := srt (days s)) (g := some p) (g0 := some p) (by simp) (by simp) (by simp) (by
      intro o ho q
      have c1 := v__law_content h (one := some o) (to := d) (fun x e => by cases e; exact srt_mem.mp ho) hd p
      have c2 : kLen (ctD (ctn s nb (some o) d)) (some p) = .ok (.int (ctn s nb (some o) d).length) (some p) := by simp
      simp only [oD] at c1
      generalize dyD s = DY at *
      generalize stsD s = S at *
      have z2 : 2 ≤ sizeLine := by omega
      unfold rw_ p2
      generalize ctn s nb (some o) d = C at *
      generalize ctD C = CD at *
      simp [c1, c2, z2]) (by rw [dl]; omega)
  have e2 : ((srt (days s)).filter fun o => !decide (o = d)).map (fun o => p2 (rw_ s nb d o)) = (((srt (days s)).filter fun o => !decide (o = d)).map (rw_ s nb d)).map p2 := by rw [List.map_map]; rfl
  rw [e2] at e1
  have mem : ∀ x, x ∈ ((srt (days s)).filter fun o => !decide (o = d)).map (rw_ s nb d) ↔ x ∈ rows s nb d := fun x => by
    unfold rows
    simp only [List.mem_map, List.mem_filter, srt_mem]
  generalize hR : ((srt (days s)).filter fun o => !decide (o = d)).map (rw_ s nb d) = R at *
  have cb : cbD R = cbD (rows s nb d) := by
    unfold cbD
    rw [mnL_ext mem]
    have : R = [] ↔ rows s nb d = [] := by
      rw [List.eq_nil_iff_forall_not_mem, List.eq_nil_iff_forall_not_mem]
      exact forall_congr' fun x => not_congr (mem x)
    by_cases q : R = []
    · rw [if_pos q, if_pos (this.mp q)]
    · rw [if_neg q, if_neg fun z => q (this.mpr z)]
  have e3 := ev_cb (ρ := RR nb (stsD s) (dyD s) x4 (.sh (.int d)) x7 x8 x9 x10 x11 (.sh (.list (R.map p2))) x13 x14 x15 x16 x17 x18 x19 x20 x21) (g := some p) (i := 12) (l := R) rfl
  rw [cb] at e3
  have e4 : kEqX true (cbD (rows s nb d)) (cbD (rows s nb d)) (some p) = .ok (.bool false) (some p) := by
    unfold cbD
    by_cases q : rows s nb d = []
    · rw [if_pos q]; kernel_rfl
    · rw [if_neg q]
      have := k_eq (α := List Int) (neg := true) (a := [(mnL (rows s nb d)).2, (mnL (rows s nb d)).1]) (b := [(mnL (rows s nb d)).2, (mnL (rows s nb d)).1]) (g := some p)
      rw [decide_eq_true rfl] at this
      exact this
  refine ⟨.sh (.list (R.map p2)), ?_⟩
  have fz : freezable (.list (R.map p2)) = true := rfl
  generalize cbD (rows s nb d) = CB at *
  generalize PyData.list (R.map p2) = RL at *
  generalize dyD s = DY at *
  generalize stsD s = S at *
  have r1 : lw_9b_1 [.un, .dr, .sh (.int nb), .sh S, x4, .sh DY, .sh (.int d), x7, x8, x9, x10, x11, x12, x13, x14, x15, x16, x17, x18, x19, x20, x21, .un, .un, .un] (some p) = .ok (.nx [.un, .dr, .sh (.int nb), .sh S, x4, .sh DY, .sh (.int d), x7, x8, x9, x10, x11, .sh RL, x13, x14, x15, x16, x17, x18, x19, x20, x21, .un, .un, .un]) (some p) := by
    simp [lw_9b_1, frzE, e1, fz]
  have r2 : lw_9b_2 [.un, .dr, .sh (.int nb), .sh S, x4, .sh DY, .sh (.int d), x7, x8, x9, x10, x11, .sh RL, x13, x14, x15, x16, x17, x18, x19, x20, x21, .un, .un, .un] (some p) = .ok (.nx [.un, .dr, .sh (.int nb), .sh S, x4, .sh DY, .sh (.int d), x7, x8, x9, x10, x11, .sh RL, x13, x14, x15, x16, x17, x18, x19, x20, x21, .un, .un, .un]) (some p) := by
    rw [lw_9b_2, s_fz, wOk_some, if_pos rfl, s_if, s_bin]
    show Res.bind (Res.bind (fCall F_closest_base 2 _ [.un, .dr, .sh (.int nb), .sh S, x4, .sh DY, .sh (.int d), x7, x8, x9, x10, x11, .sh RL, x13, x14, x15, x16, x17, x18, x19, x20, x21, .un, .un, .un] (some p)) _) _ = _
    have : fCall F_closest_base 2 (L2.PL.gCons (fVar 3) (L2.PL.gCons (fVar 6) (L2.PL.gNil))) [.un, .dr, .sh (.int nb), .sh S, x4, .sh DY, .sh (.int d), x7, x8, x9, x10, x11, .sh RL, x13, x14, x15, x16, x17, x18, x19, x20, x21, .un, .un, .un] (some p) = .ok CB (some p) := by simp [a1]
    rw [this, bind_ok]
    show Res.bind (Res.bind (fIte _ _ _ [.un, .dr, .sh (.int nb), .sh S, x4, .sh DY, .sh (.int d), x7, x8, x9, x10, x11, .sh RL, x13, x14, x15, x16, x17, x18, x19, x20, x21, .un, .un, .un] (some p)) _) _ = _
    rw [e3, bind_ok, e4]
    rfl
  show lw_9b [.un, .dr, .sh (.int nb), .sh S, x4, .sh DY, .sh (.int d), x7, x8, x9, x10, x11, x12, x13, x14, x15, x16, x17, x18, x19, x20, x21, .un, .un, .un] (some p) = .ok (.nx [.un, .dr, .sh (.int nb), .sh S, x4, .sh DY, .sh (.int d), x7, x8, x9, x10, x11, .sh RL, x13, x14, x15, x16, x17, x18, x19, x20, x21, .un, .un, .un]) (some p)
  rw [lw_9b, s_seq, r1]
  simp only [bind_ok]
  rw [r2]
theorem q9l {nb : Nat} {s : St} (h : Good s nb) {x4 x7 x8 x9 x10 : Sl} (p : Dw) : ∃ x6 x12, lw_9 (RR nb (stsD s) (dyD s) x4 .un x7 x8 x9 x10 .un .un .un .un .un .un .un .un .un .un .un) (some p) = .ok (.nx (RR nb (stsD s) (dyD s) x4 x6 x7 x8 x9 x10 .un x12 .un .un .un .un .un .un .un .un .un)) (some p) := by
  have key := loop_list (t := .nm 6) (body := lw_9b) PyData.int (fun pre ρ g => g = some p ∧ ∃ x6 x12, ρ = RR nb (stsD s) (dyD s) x4 x6 x7 x8 x9 x10 .un x12 .un .un .un .un .un .un .un .un .un) (srt (days s)) (ρ := RR nb (stsD s) (dyD s) x4 .un x7 x8 x9 x10 .un .un .un .un .un .un .un .un .un .un .un) (g := some p) ⟨rfl, _, _, rfl⟩ (by
    rintro pre d post e ρ g ⟨rfl, y6, y12, rfl⟩
    obtain ⟨z12, r⟩ := q9 h (x4 := x4) (x7 := x7) (x8 := x8) (x9 := x9) (x10 := x10) (x11 := .un) (x12 := y12) (x13 := .un) (x14 := .un) (x15 := .un) (x16 := .un) (x17 := .un) (x18 := .un) (x19 := .un) (x20 := .un) (x21 := .un) (d := d) (srt_mem.mp (by rw [e]; simp)) p
    exact ⟨[(6, .int d)], _, _, by simp, .inl r, rfl, _, _, rfl⟩)
  obtain ⟨ρ', g', f1', rfl, y6, y12, rfl⟩ := key
  refine ⟨y6, y12, ?_⟩
  rw [lw_9, s_for]
  have : fWalk (fVar 5) (RR nb (stsD s) (dyD s) x4 .un x7 x8 x9 x10 .un .un .un .un .un .un .un .un .un .un .un) (some p) = .ok ((srt (days s)).map .int) (some p) := rfl
  rw [this, bind_ok, f1']
end K03
set_option Elab.async false
set_option linter.all false
set_option maxRecDepth 100000
set_option maxHeartbeats 400000
set_option pp.maxSteps 400
namespace K03
open PySem L2.PL
theorem pickD {ns : List Int} {s : St} {nb : Nat} (h : Good s nb) {g : Gs} (D : Dr0 ns g) : ∃ o ∈ days s, ∃ g', F__law_pick [.dr, .sh (dyD s)] g = .ok (.int o) g' ∧ Dr0 ns g' := by
  obtain ⟨d, g', e, D', m⟩ := d_pick D (l := (srt (days s)).map .int) (by
    intro q
    have := congrArg List.length q
    rw [List.length_map, dyLen] at this
    exact h.ne (List.length_eq_zero_iff.mp (by simpa using this))) (w := dyD s) (.inl rfl)
  obtain ⟨o, ho, rfl⟩ := List.mem_map.mp m
  exact ⟨o, srt_mem.mp ho, g', e, D'⟩
theorem last_app {l : List Int} {x : Int} : lastI (l ++ [x]) = x := by unfold lastI; rw [List.getLastD_eq_getLast?]; simp
theorem lastI_mem {l : List Int} (h : l ≠ []) : lastI l ∈ l := by
  unfold lastI
  rw [List.getLastD_eq_getLast?, List.getLast?_eq_some_getLast h]
  exact List.getLast_mem h
theorem zip_app : ∀ {l : List Int} {x : Int} {p : Int × Int}, p ∈ (l ++ [x]).zip ((l ++ [x]).drop 1) → p ∈ l.zip (l.drop 1) ∨ (l ≠ [] ∧ p = (lastI l, x))
  | [], x, p, h => by simp at h
  | [a], x, p, h => by
    simp at h
    exact .inr ⟨by simp, by rw [h]; rfl⟩
  | a :: b :: l, x, p, h => by
    have e : (a :: b :: l ++ [x]).zip ((a :: b :: l ++ [x]).drop 1) = (a, b) :: ((b :: l ++ [x]).zip ((b :: l ++ [x]).drop 1)) := by simp
    rw [e] at h
    rcases List.mem_cons.mp h with q | q
    · left; rw [q]; simp
    · rcases zip_app q with z | ⟨_, z⟩
      · left
        have : (a :: b :: l).zip ((a :: b :: l).drop 1) = (a, b) :: ((b :: l).zip ((b :: l).drop 1)) := by simp
        rw [this]; exact List.mem_cons_of_mem _ z
      · right
        refine ⟨by simp, ?_⟩
        have : lastI (a :: b :: l) = lastI (b :: l) := by unfold lastI; simp
        rw [this]; exact z
theorem along_add {s : St} {al : List Int} {k : Nat} (h : Along s al) (hl : al.length < 20) {o : Int} (ho : o ∈ days s) (hn : o ≠ lastI al) : Along s (al ++ [o]) := by
  obtain ⟨h1, h2, h3, h4⟩ := h
  refine ⟨by simp, fun d hd => ?_, fun p hp => ?_, by simp; omega⟩
  · rcases List.mem_append.mp hd with q | q
    · exact h2 d q
    · simp at q; rw [q]; exact ho
  · rcases zip_app hp with q | ⟨_, q⟩
    · exact h3 p q
    · rw [q]; exact fun e => hn e.symm
variable {ns : List Int} {nb : Nat} {s : St} {x4 x6 x7 x8 x9 x10 x11 x12 x13 x14 x15 x16 x17 x18 x19 x20 x21 : Sl} {g : Gs}
abbrev alD (al : List Int) : PyData := .tuple (al.map .int)
theorem u1 (h : Good s nb) (D : Dr0 ns g) : ∃ (a : Int) (g' : Gs), a ∈ days s ∧ lw_10b_1 (RR nb (stsD s) (dyD s) x4 x6 x7 x8 x9 x10 x11 x12 x13 x14 x15 x16 x17 x18 x19 x20 x21) g = .ok (.nx (RR nb (stsD s) (dyD s) x4 x6 x7 x8 x9 x10 x11 x12 (.sh (alD [a])) x14 x15 x16 x17 x18 x19 x20 x21)) g' ∧ Dr0 ns g' := by
  obtain ⟨a, ha, g', e, D'⟩ := pickD h D
  have z1 : 1 ≤ sizeLine := by decide
  refine ⟨a, g', ha, ?_, D'⟩
  generalize dyD s = DY at *
  generalize stsD s = S at *
  simp [lw_10b_1, e, z1]
theorem u2 (h : Good s nb) {a : Int} (ha : a ∈ days s) (D : Dr0 ns g) : ∃ (al : List Int) (y14 y15 : Sl) (g' : Gs), Along s al ∧ lw_10b_2 (RR nb (stsD s) (dyD s) x4 x6 x7 x8 x9 x10 x11 x12 (.sh (alD [a])) x14 x15 x16 x17 x18 x19 x20 x21) g = .ok (.nx (RR nb (stsD s) (dyD s) x4 x6 x7 x8 x9 x10 x11 x12 (.sh (alD al)) y14 y15 x16 x17 x18 x19 x20 x21)) g' ∧ Dr0 ns g' := by
  have zz : 100 ≤ sizeLine := by decide
  obtain ⟨v, g1, e1, D1, v1, v2⟩ := d_next D (b := 5) (by decide)
  obtain ⟨n, hn⟩ : ∃ n : Nat, v = n := ⟨v.toNat, by omega⟩
  subst hn
  have key := loop_run (t := .nm 14) (body := lw_10b_2b) (fun k ρ g => Dr0 ns g ∧ ∃ al y14 y15, ρ = RR nb (stsD s) (dyD s) x4 x6 x7 x8 x9 x10 x11 x12 (.sh (alD al)) y14 y15 x16 x17 x18 x19 x20 x21 ∧ Along s al ∧ al.length ≤ 1 + k) (rngD 0 (n : Int)) 0 (RR nb (stsD s) (dyD s) x4 x6 x7 x8 x9 x10 x11 x12 (.sh (alD [a])) x14 x15 x16 x17 x18 x19 x20 x21) g1 ⟨D1, [a], _, _, rfl, ⟨by simp, by simpa using ha, by simp, by simp⟩, by simp⟩ (by
    rintro i ρ g d hd ⟨D, al, y14, y15, rfl, hal, hl⟩
    have hi : i < n := by
      rcases Nat.lt_or_ge i n with q | q
      · exact q
      · rw [rngD_nat, List.getElem?_eq_none (by simpa using q)] at hd; cases hd
    obtain ⟨o, ho, g', e, D'⟩ := pickD h D
    have k1 := k_last (g := g') hal.1
    have z1 : 1 ≤ sizeLine := by omega
    have z0 : 0 ≤ sizeLine := by omega
    by_cases q : o = lastI al
    · refine ⟨[(14, d)], RR nb (stsD s) (dyD s) x4 x6 x7 x8 x9 x10 x11 x12 (.sh (alD al)) (.sh d) (.sh (.int o)) x16 x17 x18 x19 x20 x21, g', by simp, .inl ?_, D', al, _, _, rfl, hal, by omega⟩
      have ad : kAdd (alD al) (.tuple []) g' = .ok (alD al) g' := by rw [alD, k_addT (by simp; omega), List.append_nil]
      have k1' : kAt (alD al) (.int (-1)) g' = .ok (.int o) g' := by rw [q]; exact k1
      generalize alD al = AL at *
      generalize dyD s = DY at *
      generalize stsD s = S at *
      simp [lw_10b_2b, lw_10b_2b_1, lw_10b_2b_2, e, k1', ad]
    · refine ⟨[(14, d)], RR nb (stsD s) (dyD s) x4 x6 x7 x8 x9 x10 x11 x12 (.sh (alD (al ++ [o]))) (.sh d) (.sh (.int o)) x16 x17 x18 x19 x20 x21, g', by simp, .inl ?_, D', al ++ [o], _, _, rfl, along_add (k := 0) hal (by omega) ho q, by simp; omega⟩
      have ad : kAdd (alD al) (.tuple [.int o]) g' = .ok (alD (al ++ [o])) g' := by rw [alD, k_addT (by simp; omega), alD, List.map_append]; rfl
      have k1' : kAt (alD al) (.int (-1)) g' = .ok (.int (lastI al)) g' := k1
      generalize alD (al ++ [o]) = AL2 at *
      generalize alD al = AL at *
      generalize dyD s = DY at *
      generalize stsD s = S at *
      generalize lastI al = la at *
      simp [lw_10b_2b, lw_10b_2b_1, lw_10b_2b_2, e, k1', ad, q, z1])
  obtain ⟨ρ', g', f1', D', al, y14, y15, rfl, hal, _⟩ := key
  refine ⟨al, y14, y15, g', hal, ?_, D'⟩
  rw [lw_10b_2, s_for]
  have : fRng1 (fCall F__law_next 2 (L2.PL.gDr 1 (L2.PL.gCons (fCst (.int 5)) (L2.PL.gNil)))) (RR nb (stsD s) (dyD s) x4 x6 x7 x8 x9 x10 x11 x12 (.sh (alD [a])) x14 x15 x16 x17 x18 x19 x20 x21) g = .ok (rngD 0 (n : Int)) g1 := by
    simp [e1, k_rng (n := n) (g := g1) (by omega)]
  rw [this, bind_ok, f1']
theorem u3 (h : Good s nb) {a : Int} {r : List Int} (ha : a ∈ days s) (p : Dw) : lw_10b_3 (RR nb (stsD s) (dyD s) x4 x6 x7 x8 x9 x10 x11 x12 (.sh (alD (a :: r))) x14 x15 x16 x17 x18 x19 x20 x21) (some p) = .ok (.nx (RR nb (stsD s) (dyD s) x4 x6 x7 x8 x9 x10 x11 x12 (.sh (alD (a :: r))) x14 x15 (.sh (ctD [])) (.sh (vD (gs s a))) x18 x19 x20 x21)) (some p) := by
  have z2 : 2 ≤ sizeLine := by decide
  have hm0 : kAt (alD (a :: r)) (.int 0) (some p) = .ok (.int a) (some p) := k_at0
  have e6 := k_state (s := s) (d := a) (g := some p) ha
  have c0 : ctD [] = .dict [] := rfl
  rw [c0]
  generalize alD (a :: r) = AL at *
  generalize dyD s = DY at *
  generalize stsD s = S at *
  generalize vD (gs s a) = V at *
  simp [lw_10b_3, hm0, e6, z2, bind_tp2]
theorem merge_dict {c d : Ct} (n : (c.map Prod.fst).Nodup) {g : Gs} : kDictP (.list ((cA c ++ cA d).map fun p => .tuple [.int p.1, p.2])) g = .ok (ctD (mergeC c d)) g := by
  rw [k_dictP]
  have : mergeA [] (cA c ++ cA d) = cA (mergeC c d) := by
    have e : mergeA [] (cA c ++ cA d) = mergeA (mergeA [] (cA c)) (cA d) := by unfold mergeA; rw [List.foldl_append]
    rw [e, mergeA_nil (by rw [cA_keys]; exact n), cA_merge]
  rw [this]
theorem u4 (h : Good s nb) {a : Int} {r : List Int} (ha : Along s (a :: r)) (p : Dw) : ∃ (c : Ct) (y8 y9 : Sl), Told s nb (a :: r) c ∧ lw_10b_4 (RR nb (stsD s) (dyD s) x4 x6 x7 x8 x9 x10 x11 x12 (.sh (alD (a :: r))) x14 x15 (.sh (ctD [])) (.sh (vD (gs s a))) x18 x19 x20 x21) (some p) = .ok (.nx (RR nb (stsD s) (dyD s) x4 x6 x7 y8 y9 x10 x11 x12 (.sh (alD (a :: r))) x14 x15 (.sh (ctD c)) (.sh (vD (gs s (lastI (a :: r))))) x18 x19 x20 x21)) (some p) := by
  have zz : 100 ≤ sizeLine := by decide
  have n5 := h.nb8
  obtain ⟨hne, hd, hz, hl⟩ := ha
  have key := walk_pre (body := lw_10b_4b) (t := .tp [.nm 8, .nm 9]) (fun pre ρ g => g = some p ∧ ∃ c y8 y9, ρ = RR nb (stsD s) (dyD s) x4 x6 x7 y8 y9 x10 x11 x12 (.sh (alD (a :: r))) x14 x15 (.sh (ctD c)) (.sh (vD (gs s (lastI pre)))) x18 x19 x20 x21 ∧ Told s nb pre c) (l := a :: r) ?_ r [] a (RR nb (stsD s) (dyD s) x4 x6 x7 x8 x9 x10 x11 x12 (.sh (alD (a :: r))) x14 x15 (.sh (ctD [])) (.sh (vD (gs s a))) x18 x19 x20 x21) (some p) rfl ⟨rfl, [], _, _, rfl, told_nil⟩
  · obtain ⟨ρ', g', f1', rfl, c, y8, y9, rfl, tc⟩ := key
    refine ⟨c, y8, y9, tc, ?_⟩
    have f0 := v_zipW (al := a :: r) (ρ := RR nb (stsD s) (dyD s) x4 x6 x7 x8 x9 x10 x11 x12 (.sh (alD (a :: r))) x14 x15 (.sh (ctD [])) (.sh (vD (gs s a))) x18 x19 x20 x21) (g := some p) (i := 13) rfl
    rw [lw_10b_4, s_for, f0, bind_ok]
    exact f1'
  · rintro pre x y post ρ g e ⟨rfl, c, y8, y9, rfl, tc⟩
    have hx : x ∈ a :: r := by rw [e]; simp
    have hy : y ∈ a :: r := by rw [e]; simp
    have c1 := v__law_content h (one := some x) (to := y) (fun o e => by cases e; exact hd x hx) (hd y hy) p
    have hc := ctn_ok h (one := some x) (hd y hy)
    have st := told_step h tc (hd y hy)
    have l1 : lastI (pre ++ [x]) = x := last_app
    have l2 : lastI (pre ++ [x, y]) = y := by rw [show pre ++ [x, y] = (pre ++ [x]) ++ [y] by simp]; exact last_app
    have c2 := v__law_put (goodV h (hd x hx)) hc (some p)
    rw [pt_ctn h (hd x hx) (hd y hy)] at c2
    refine ⟨[(8, .int x), (9, .int y)], RR nb (stsD s) (dyD s) x4 x6 x7 (.sh (.int x)) (.sh (.int y)) x10 x11 x12 (.sh (alD (a :: r))) x14 x15 (.sh (ctD (mergeC c (ctn s nb (some x) y)))) (.sh (vD (gs s y))) x18 x19 x20 x21, some p, by simp [bind_tp2], ?_, rfl, _, _, _, by rw [l2], st⟩
    rw [l1]
    simp only [oD] at c1
    have lc := tc.ok.len
    have ld := hc.len
    have m1 := merge_dict (c := c) (d := ctn s nb (some x) y) tc.ok.nd (g := some p)
    have ad : kAdd (.list ((cA c).map fun p => .tuple [.int p.1, p.2])) (.list ((cA (ctn s nb (some x) y)).map fun p => .tuple [.int p.1, p.2])) (some p) = .ok (.list ((cA c ++ cA (ctn s nb (some x) y)).map fun p => .tuple [.int p.1, p.2])) (some p) := by
      rw [k_addL (by simp; omega), List.map_append]
    have it1 := fun ρ (h16 : ρ[16]? = some (.sh (ctD c))) => ev_items (fa := fPk 16) (ρ := ρ) (l := cA c) (g := some p) (g1 := some p) (by rw [s_pk, h16])
    have it2 := fun ρ (hr : fCall F__law_content 3 (L2.PL.gCons (fVar 3) (L2.PL.gCons (fVar 8) (L2.PL.gCons (fVar 9) (L2.PL.gNil)))) ρ (some p) = .ok (ctD (ctn s nb (some x) y)) (some p)) => ev_items (fa := fCall F__law_content 3 (L2.PL.gCons (fVar 3) (L2.PL.gCons (fVar 8) (L2.PL.gCons (fVar 9) (L2.PL.gNil))))) (ρ := ρ) (l := cA (ctn s nb (some x) y)) (g := some p) (g1 := some p) hr
    have b1 : lw_10b_4b_1 (RR nb (stsD s) (dyD s) x4 x6 x7 (.sh (.int x)) (.sh (.int y)) x10 x11 x12 (.sh (alD (a :: r))) x14 x15 (.sh (ctD c)) (.sh (vD (gs s x))) x18 x19 x20 x21) (some p) = .ok (.nx (RR nb (stsD s) (dyD s) x4 x6 x7 (.sh (.int x)) (.sh (.int y)) x10 x11 x12 (.sh (alD (a :: r))) x14 x15 (.sh (ctD (mergeC c (ctn s nb (some x) y)))) (.sh (vD (gs s x))) x18 x19 x20 x21)) (some p) := by
      have i1 := it1 (RR nb (stsD s) (dyD s) x4 x6 x7 (.sh (.int x)) (.sh (.int y)) x10 x11 x12 (.sh (alD (a :: r))) x14 x15 (.sh (ctD c)) (.sh (vD (gs s x))) x18 x19 x20 x21) rfl
      have i2 := it2 (RR nb (stsD s) (dyD s) x4 x6 x7 (.sh (.int x)) (.sh (.int y)) x10 x11 x12 (.sh (alD (a :: r))) x14 x15 (.sh (ctD c)) (.sh (vD (gs s x))) x18 x19 x20 x21) (by
        generalize alD (a :: r) = AL at *
        generalize dyD s = DY at *
        generalize stsD s = S at *
        generalize vD (gs s x) = V at *
        generalize ctD (ctn s nb (some x) y) = C2 at *
        generalize ctD c = C at *
        simp [c1])
      generalize (PyData.list ((cA c ++ cA (ctn s nb (some x) y)).map fun p => .tuple [.int p.1, p.2])) = I3 at *
      generalize (PyData.list ((cA (ctn s nb (some x) y)).map fun p => .tuple [.int p.1, p.2])) = I2 at *
      generalize (PyData.list ((cA c).map fun p => .tuple [.int p.1, p.2])) = I1 at *
      generalize alD (a :: r) = AL at *
      generalize dyD s = DY at *
      generalize stsD s = S at *
      generalize vD (gs s x) = V at *
      generalize ctD (mergeC c (ctn s nb (some x) y)) = C3 at *
      generalize ctD c = C at *
      rw [lw_10b_4b_1, s_fz, wOk_some, if_pos rfl, s_set, s_tell, wOk_some, if_pos rfl, s_f1, s_bin]
      show Res.bind (Res.bind (Res.bind (fItems (fPk 16) (RR nb S DY x4 x6 x7 (.sh (.int x)) (.sh (.int y)) x10 x11 x12 (.sh AL) x14 x15 (.sh C) (.sh V) x18 x19 x20 x21) (some p)) fun u g1 => Res.bind (fItems (fCall F__law_content 3 (L2.PL.gCons (fVar 3) (L2.PL.gCons (fVar 8) (L2.PL.gCons (fVar 9) (L2.PL.gNil))))) (RR nb S DY x4 x6 x7 (.sh (.int x)) (.sh (.int y)) x10 x11 x12 (.sh AL) x14 x15 (.sh C) (.sh V) x18 x19 x20 x21) g1) fun v g2 => kAdd u v g2) kDictP) _ = _
      rw [i1, bind_ok, i2, bind_ok, ad, bind_ok, m1, bind_ok]
      rfl
    have b2 : lw_10b_4b_2 (RR nb (stsD s) (dyD s) x4 x6 x7 (.sh (.int x)) (.sh (.int y)) x10 x11 x12 (.sh (alD (a :: r))) x14 x15 (.sh (ctD (mergeC c (ctn s nb (some x) y)))) (.sh (vD (gs s x))) x18 x19 x20 x21) (some p) = .ok (.nx (RR nb (stsD s) (dyD s) x4 x6 x7 (.sh (.int x)) (.sh (.int y)) x10 x11 x12 (.sh (alD (a :: r))) x14 x15 (.sh (ctD (mergeC c (ctn s nb (some x) y)))) (.sh (vD (gs s y))) x18 x19 x20 x21)) (some p) := by
      generalize alD (a :: r) = AL at *
      generalize dyD s = DY at *
      generalize stsD s = S at *
      generalize vD (gs s x) = V at *
      generalize vD (gs s y) = V2 at *
      generalize ctD (mergeC c (ctn s nb (some x) y)) = C3 at *
      generalize ctD (ctn s nb (some x) y) = C2 at *
      simp [lw_10b_4b_2, frzE, c1, c2]
    show lw_10b_4b (RR nb (stsD s) (dyD s) x4 x6 x7 (.sh (.int x)) (.sh (.int y)) x10 x11 x12 (.sh (alD (a :: r))) x14 x15 (.sh (ctD c)) (.sh (vD (gs s x))) x18 x19 x20 x21) (some p) = _
    rw [lw_10b_4b, s_seq, b1]
    simp only [bind_ok]
    rw [b2]
theorem u5 (h : Good s nb) (D : Dr0 ns g) : ∃ (o : Int) (g' : Gs), o ∈ days s ∧ lw_10b_5 (RR nb (stsD s) (dyD s) x4 x6 x7 x8 x9 x10 x11 x12 x13 x14 x15 x16 x17 x18 x19 x20 x21) g = .ok (.nx (RR nb (stsD s) (dyD s) x4 x6 x7 x8 x9 x10 (.sh (.int o)) x12 x13 x14 x15 x16 x17 x18 x19 x20 x21)) g' ∧ Dr0 ns g' := by
  obtain ⟨a, ha, g', e, D'⟩ := pickD h D
  refine ⟨a, g', ha, ?_, D'⟩
  generalize dyD s = DY at *
  generalize stsD s = S at *
  simp [lw_10b_5, e]
/-- alike: what the content says nothing of is the same on the two days -/
def alk (s : St) (nb : Nat) (o la : Int) (c : Ct) : Bool := ((List.range nb).filter fun b : Nat => !decide ((b : Int) ∈ c.map Prod.fst)).all fun b => decide (vi (gs s o) b = vi (gs s la) b)
theorem u6 (h : Good s nb) {al : List Int} (ha : Along s al) {o : Int} (ho : o ∈ days s) {c : Ct} (p : Dw) : lw_10b_6 (RR nb (stsD s) (dyD s) x4 x6 x7 x8 x9 x10 (.sh (.int o)) x12 (.sh (alD al)) x14 x15 (.sh (ctD c)) x17 x18 x19 x20 x21) (some p) = .ok (.nx (RR nb (stsD s) (dyD s) x4 x6 x7 x8 x9 x10 (.sh (.int o)) x12 (.sh (alD al)) x14 x15 (.sh (ctD c)) x17 (.sh (.bool (alk s nb o (lastI al) c))) x19 x20 x21)) (some p) := by
  have zz : 100 ≤ sizeLine := by decide
  have n5 := h.nb8
  have hla := ha.2.1 _ (lastI_mem ha.1)
  have e1 := ev_lc (fun b : Nat => .int (b : Nat)) (fun b : Nat => [(22, .int (b : Nat))]) (fun b : Nat => !decide ((b : Int) ∈ c.map Prod.fst)) (fun b : Nat => .bool (decide (vi (gs s o) b = vi (gs s (lastI al)) b))) (t := .nm 22) (fi := fRng1 (fPk 2)) (fc := fBin (kInX true) (fPk 22) (fPk 16)) (fe := fBin (kEqX false) (fBin kAt (fBin kAt (fPk 3) (fPk 11)) (fPk 22)) (fBin kAt (fBin kAt (fPk 3) (fBin kAt (fPk 13) (fNeg (fCst (.int 1))))) (fPk 22))) (vs := [22]) (ρ := RR nb (stsD s) (dyD s) x4 x6 x7 x8 x9 x10 (.sh (.int o)) x12 (.sh (alD al)) x14 x15 (.sh (ctD c)) x17 x18 x19 x20 x21) (l := List.range nb) (g := some p) (g0 := some p) (by simp [k_rng (n := nb) (g := some p) (by omega), rngD_nat]) (by simp) (by
    intro b _
    have := k_inA (neg := true) (l := cA c) (k := (b : Int)) (g := some p)
    rw [cA_keys, show dA (cA c) = ctD c from rfl] at this
    generalize alD al = AL at *
    generalize dyD s = DY at *
    generalize stsD s = S at *
    generalize ctD c = C at *
    simp [this]) (by
    intro b hb _
    have hb' := List.mem_range.mp hb
    have k1 := k_state (s := s) (d := o) (g := some p) ho
    have k2 := k_vi (v := gs s o) (b := b) (g := some p) (by rw [gs_len h ho]; exact hb')
    have k3 := k_state (s := s) (d := lastI al) (g := some p) hla
    have k4 := k_vi (v := gs s (lastI al)) (b := b) (g := some p) (by rw [gs_len h hla]; exact hb')
    have k5 : kAt (alD al) (.int (-1)) (some p) = .ok (.int (lastI al)) (some p) := k_last ha.1
    generalize alD al = AL at *
    generalize dyD s = DY at *
    generalize stsD s = S at *
    generalize ctD c = C at *
    generalize vi (gs s o) b = i1 at *
    generalize vi (gs s (lastI al)) b = i2 at *
    generalize vD (gs s o) = V1 at *
    generalize vD (gs s (lastI al)) = V2 at *
    generalize lastI al = la at *
    simp [k1, k2, k3, k4, k5]) (by simp; omega)
  have e2 : kAll (.list (((List.range nb).filter fun b : Nat => !decide ((b : Int) ∈ c.map Prod.fst)).map fun b : Nat => .bool (decide (vi (gs s o) b = vi (gs s (lastI al)) b)))) (some p) = .ok (.bool (alk s nb o (lastI al) c)) (some p) := kAll_map _ _
  generalize PyData.list (((List.range nb).filter fun b : Nat => !decide ((b : Int) ∈ c.map Prod.fst)).map fun b : Nat => .bool (decide (vi (gs s o) b = vi (gs s (lastI al)) b))) = L at *
  generalize alk s nb o (lastI al) c = A at *
  generalize alD al = AL at *
  generalize dyD s = DY at *
  generalize stsD s = S at *
  generalize ctD c = C at *
  simp [lw_10b_6, e1, e2]
theorem keys_ext {c d : Ct} (h : ∀ j, gC c j = gC d j) (x : Int) : x ∈ c.map Prod.fst ↔ x ∈ d.map Prod.fst := by
  have h1 := gC_key (c := c) (j := x)
  have h2 := gC_key (c := d) (j := x)
  rw [h x] at h1
  have := h1.symm.trans h2
  simpa using this
theorem u7 (h : Good s nb) {al : List Int} (ha : Along s al) {c : Ct} (tc : Told s nb al c) (p : Dw) : lw_10b_7 (RR nb (stsD s) (dyD s) x4 x6 x7 x8 x9 x10 x11 x12 (.sh (alD al)) x14 x15 (.sh (ctD c)) (.sh (vD (gs s (lastI al)))) x18 x19 x20 x21) (some p) = .ok (.nx (RR nb (stsD s) (dyD s) x4 x6 x7 x8 x9 x10 x11 x12 (.sh (alD al)) x14 x15 (.sh (ctD c)) (.sh (vD (gs s (lastI al)))) x18 x19 x20 x21)) (some p) := by
  have hla := ha.2.1 _ (lastI_mem ha.1)
  have a1 := v_restored h ha p
  obtain ⟨f, a2, tf, as⟩ := v_folded_along h ha p
  rw [show PyData.tuple (al.map .int) = alD al from rfl] at a1 a2
  have e1 := k_eqC (neg := true) (a := f) (b := c) (g := some p) tf.ok.nd tc.ok.nd (told_get tf tc)
  have e2 : kList (ctD f) (some p) = .ok (.list ((f.map Prod.fst).map .int)) (some p) := k_keysC
  have ek : f.map Prod.fst = srt (c.map Prod.fst) := strict_ext as (srt_nodup tc.ok.nd) fun x => by rw [srt_mem]; exact keys_ext (told_get tf tc) x
  have e3 : kSorted (ctD c) (some p) = .ok (.list ((f.map Prod.fst).map .int)) (some p) := by rw [k_sortC, ek]
  have e4 := k_eqLL (neg := true) (a := f.map Prod.fst) (b := f.map Prod.fst) (g := some p)
  rw [decide_eq_true rfl] at e4
  have k5 : kAt (alD al) (.int (-1)) (some p) = .ok (.int (lastI al)) (some p) := k_last ha.1
  have k3 := k_state (s := s) (d := lastI al) (g := some p) hla
  have e7 := k_eqV (neg := true) (a := gs s (lastI al)) (b := gs s (lastI al)) (g := some p)
  rw [decide_eq_true rfl] at e7
  generalize (f.map Prod.fst).map PyData.int = KL at *
  generalize ctD f = CF at *
  generalize alD al = AL at *
  generalize dyD s = DY at *
  generalize stsD s = S at *
  generalize ctD c = C at *
  generalize vD (gs s (lastI al)) = V at *
  generalize lastI al = la at *
  simp [lw_10b_7, frzE, a1, a2, e1, e2, e3, e4, k5, k3, e7]
theorem alk_eq (h : Good s nb) {al : List Int} (ha : Along s al) {o : Int} (ho : o ∈ days s) {c : Ct} (tc : Told s nb al c) : decide (pt (gs s o) c = gs s (lastI al)) = alk s nb o (lastI al) c := by
  have hla := ha.2.1 _ (lastI_mem ha.1)
  have l1 := gs_len h ho
  have l2 := gs_len h hla
  rw [Bool.eq_iff_iff, decide_eq_true_eq]
  unfold alk
  rw [List.all_eq_true]
  constructor
  · intro e b hb
    obtain ⟨hb1, hb2⟩ := List.mem_filter.mp hb
    have hb' := List.mem_range.mp hb1
    have k := gC_key (c := c) (j := (b : Int))
    have hn : (b : Int) ∉ c.map Prod.fst := by simpa using hb2
    rw [decide_eq_false hn] at k
    have := pt_vi (v := gs s o) (c := c) (b := b) (by omega)
    rw [e] at this
    cases q : gC c (b : Int) with
    | some v => rw [q] at k; cases k
    | none => rw [q] at this; simp [this]
  · intro hall
    refine vi_ext (by rw [pt_len, l1, l2]) fun b hb => ?_
    rw [pt_len, l1] at hb
    rw [pt_vi (by omega), tc.get b hb]
    have k := gC_key (c := c) (j := (b : Int))
    rw [tc.get b hb] at k
    by_cases q : chg s al b = true
    · rw [if_pos q]; rfl
    · rw [if_neg q] at k ⊢
      have hn : (b : Int) ∉ c.map Prod.fst := by
        intro z; rw [decide_eq_true z] at k; cases k
      have := hall b (List.mem_filter.mpr ⟨List.mem_range.mpr hb, by simp only [decide_eq_false hn]; rfl⟩)
      simpa using this
theorem u8 (h : Good s nb) {al : List Int} (ha : Along s al) {o : Int} (ho : o ∈ days s) {c : Ct} (tc : Told s nb al c) (p : Dw) : lw_10b_8 (RR nb (stsD s) (dyD s) x4 x6 x7 x8 x9 x10 (.sh (.int o)) x12 (.sh (alD al)) x14 x15 (.sh (ctD c)) x17 (.sh (.bool (alk s nb o (lastI al) c))) x19 x20 x21) (some p) = .ok (.nx (RR nb (stsD s) (dyD s) x4 x6 x7 x8 x9 x10 (.sh (.int o)) x12 (.sh (alD al)) x14 x15 (.sh (ctD c)) x17 (.sh (.bool (alk s nb o (lastI al) c))) x19 x20 x21)) (some p) := by
  have hla := ha.2.1 _ (lastI_mem ha.1)
  have a1 := v_wrongly h ha ho tc p
  rw [show PyData.tuple (al.map .int) = alD al from rfl] at a1
  have a2 := v__law_put (goodV h ho) tc.ok (some p)
  have k1 := k_state (s := s) (d := o) (g := some p) ho
  have k3 := k_state (s := s) (d := lastI al) (g := some p) hla
  have k5 : kAt (alD al) (.int (-1)) (some p) = .ok (.int (lastI al)) (some p) := k_last ha.1
  have e1 := k_eqV (neg := true) (a := pt (gs s o) c) (b := pt (gs s o) c) (g := some p)
  rw [decide_eq_true rfl] at e1
  have e2 := k_eqV (neg := false) (a := pt (gs s o) c) (b := gs s (lastI al)) (g := some p)
  rw [alk_eq h ha ho tc] at e2
  generalize alk s nb o (lastI al) c = A at *
  generalize alD al = AL at *
  generalize dyD s = DY at *
  generalize stsD s = S at *
  generalize ctD c = C at *
  generalize vD (pt (gs s o) c) = V0 at *
  generalize vD (gs s (lastI al)) = V at *
  generalize vD (gs s o) = V1 at *
  generalize lastI al = la at *
  simp [lw_10b_8, frzE, a1, a2, k1, k3, k5, e1, e2]
end K03
set_option Elab.async false
set_option linter.all false
set_option maxRecDepth 100000
set_option maxHeartbeats 400000
namespace K03
open PySem L2.PL
/-! refusals -/
def kd (i : Int) (v : PyData) : PyData := .dict [(.int i, v)]
abbrev bs1 : List PyData := [.none, .dict [], .dict [(.int 0, .tuple [])], .dict [(.int 0, .tuple [.int 10])], .dict [(.int 0, .tuple [.int 1]), (.int 1, .tuple [.int 1, .int 2])], .dict [(.int 31, .tuple [.int 1])], .dict [(.int 0, .list [.int 1])], .dict [(.int 0, .tuple (repD 9 [.int 1]))], .dict ((List.range 13).map fun i => (.int (i : Nat), .tuple [.int 1]))]
theorem bs1_bad : ∀ b ∈ bs1, ∀ p : Dw, F_is_states [.sh b] (some p) = .ok (.bool false) (some p) := by
  intro b hb g
  simp only [bs1, List.mem_cons, List.not_mem_nil, or_false] at hb
  rcases hb with rfl | rfl | rfl | rfl | rfl | rfl | rfl | rfl | rfl <;> kernel_rfl
theorem bs1_sh : (bs1.all shOk) = true := by decide +kernel
abbrev rb1 : FnS := (fSeq (fIf (fCall F_is_states 1 (L2.PL.gCons (fVar 2) (L2.PL.gNil))) (fRet (fCst (.bool false))) (fSkip))
  (fSeq (fIf (fNot (fRefu (fCall F_content_of 3 (L2.PL.gCons (fVar 2) (L2.PL.gCons (fCst .none) (L2.PL.gCons (fCst .none) (L2.PL.gNil))))) (fVar 2))) (fRet (fCst (.bool false))) (fSkip))
  (fSeq (fIf (fNot (fRefu (fCall F_store_of 2 (L2.PL.gCons (fVar 2) (L2.PL.gCons (fCst .none) (L2.PL.gNil)))) (fVar 2))) (fRet (fCst (.bool false))) (fSkip))
  (fSeq (fIf (fNot (fRefu (fCall F_restored 2 (L2.PL.gCons (fVar 2) (L2.PL.gCons (fCst .none) (L2.PL.gNil)))) (fVar 2))) (fRet (fCst (.bool false))) (fSkip))
  (fSeq (fIf (fNot (fRefu (fCall F_ever_changed 1 (L2.PL.gCons (fVar 2) (L2.PL.gNil))) (fVar 2))) (fRet (fCst (.bool false))) (fSkip))
  (fIf (fNot (fRefu (fCall F_closest_base 2 (L2.PL.gCons (fVar 2) (L2.PL.gCons (fCst .none) (L2.PL.gNil)))) (fVar 2))) (fRet (fCst (.bool false))) (fSkip)))))))
theorem v_rb1 {s0 s1 : Sl} {b : PyData} (hb : ∀ p : Dw, F_is_states [.sh b] (some p) = .ok (.bool false) (some p)) (hs : shOk b = true) (p : Dw) : rb1 [s0, s1, .sh b] (some p) = .ok (.nx [s0, s1, .sh b]) (some p) := by
  have hc : F_check_states [.sh b] (some p) = .bad b (some p) := by simp [F_check_states, b_check_states, hb]
  have e1 : F_content_of [.sh b, .sh .none, .sh .none] (some p) = .bad b (some p) := by simp [F_content_of, b_content_of, hc]
  have e2 : F_store_of [.sh b, .sh .none] (some p) = .bad b (some p) := by simp [F_store_of, b_store_of, hc]
  have e3 : F_restored [.sh b, .sh .none] (some p) = .bad b (some p) := by simp [F_restored, b_restored, hc]
  have e4 : F_ever_changed [.sh b] (some p) = .bad b (some p) := by simp [F_ever_changed, b_ever_changed, hc]
  have e5 : F_closest_base [.sh b, .sh .none] (some p) = .bad b (some p) := by simp [F_closest_base, b_closest_base, hc]
  simp [hb, e1, e2, e3, e4, e5, refu_same hs]
/-- a thing that is no day of the states -/
def noDay (s : St) (b : PyData) : Prop := fromB b 0 30 = false ∨ ∃ i : Int, b = .int i ∧ i ∉ days s
theorem cond_noDay {s : St} {b : PyData} (h : noDay s b) {i : Nat} {ρ : L2.PL.Env} (h0 : ρ[0]? = some (.sh (stsD s))) (hi : ρ[i]? = some (.sh b)) (g : Gs) : fOr (fNot (fCall F_is_day 1 (L2.PL.gCons (fVar i) (L2.PL.gNil)))) (fBin (kInX true) (fPk i) (fPk 0)) ρ g = .ok (.bool true) g := by
  rcases h with h | ⟨d, rfl, hd⟩
  · simp [hi, v_is_day, h]
  · have := k_inS (neg := true) (s := s) (d := d) (g := g)
    rw [decide_eq_false hd] at this
    generalize stsD s = S at *
    simp [hi, h0, v_is_day, this]
theorem far {s : St} {nb : Nat} (h : Good s nb) {i : Int} (hi : ¬ (0 ≤ i ∧ i ≤ 8)) : i ∉ days s := fun q => by
  obtain ⟨p, hp, rfl⟩ := List.mem_map.mp q
  exact hi (h.day p hp)
theorem bad_one {s : St} {nb : Nat} (h : Good s nb) {b : PyData} (hb : noDay s b) (hn : isNonD b = false) (x : PyData) (p : Dw) : F_content_of [.sh (stsD s), .sh b, .sh x] (some p) = .bad b (some p) := by
  have f9 := v_check_states h p
  have c := cond_noDay hb (ρ := [.sh (stsD s), .sh b, .sh x, .un, .un]) (i := 1) rfl rfl (some p)
  rw [show F_content_of [.sh (stsD s), .sh b, .sh x] (some p) = runF b_content_of 2 [.sh (stsD s), .sh b, .sh x] (some p) from rfl]
  generalize stsD s = S at *
  simp only [s_runF, b_content_of, s_seq, s_exp, s_set, s_ret, s_if, s_and]
  simp [f9, hn]
  simp at c
  rw [c]; rfl
theorem bad_to {s : St} {nb : Nat} (h : Good s nb) {b : PyData} (hb : noDay s b) (p : Dw) : F_content_of [.sh (stsD s), .sh .none, .sh b] (some p) = .bad b (some p) := by
  have f9 := v_check_states h p
  have c := cond_noDay hb (ρ := [.sh (stsD s), .sh .none, .sh b, .un, .un]) (i := 2) rfl rfl (some p)
  rw [show F_content_of [.sh (stsD s), .sh .none, .sh b] (some p) = runF b_content_of 2 [.sh (stsD s), .sh .none, .sh b] (some p) from rfl]
  generalize stsD s = S at *
  simp only [s_runF, b_content_of, s_seq, s_exp, s_set, s_ret, s_if, s_and]
  simp [f9]
  simp at c
  rw [c]; rfl
theorem bad_cb {s : St} {nb : Nat} (h : Good s nb) {b : PyData} (hb : noDay s b) (p : Dw) : F_closest_base [.sh (stsD s), .sh b] (some p) = .bad b (some p) := by
  have f9 := v_check_states h p
  have c := cond_noDay hb (ρ := [.sh (stsD s), .sh b, .un, .un]) (i := 1) rfl rfl (some p)
  rw [show F_closest_base [.sh (stsD s), .sh b] (some p) = runF b_closest_base 2 [.sh (stsD s), .sh b] (some p) from rfl]
  generalize stsD s = S at *
  simp only [s_runF, b_closest_base, s_seq, s_exp, s_set, s_ret, s_if, s_and]
  simp [f9]
  simp at c
  rw [c]; rfl
theorem bad_wm {s : St} {nb : Nat} (h : Good s nb) {b : PyData} (hb : noDay s b) {d : Int} (hd : d ∈ days s) (p : Dw) : F_wrongly_made [.sh (stsD s), .sh (.tuple [.int d]), .sh b] (some p) = .bad b (some p) := by
  obtain ⟨f, e1, tf, _⟩ := v_folded_along h (al := [d]) ⟨by simp, by simpa using hd, by simp, by simp⟩ p
  rw [show PyData.tuple ([d].map PyData.int) = .tuple [.int d] from rfl] at e1
  have c := cond_noDay hb (ρ := [.sh (stsD s), .sh (.tuple [.int d]), .sh b, .sh (ctD f)]) (i := 2) rfl rfl (some p)
  rw [show F_wrongly_made [.sh (stsD s), .sh (.tuple [.int d]), .sh b] (some p) = runF b_wrongly_made 1 [.sh (stsD s), .sh (.tuple [.int d]), .sh b] (some p) from rfl]
  generalize stsD s = S at *
  generalize ctD f = CF at *
  simp only [s_runF, b_wrongly_made, s_seq, s_exp, s_set, s_ret, s_if, s_and]
  simp [e1]
  simp at c
  rw [c]; rfl
abbrev rb2 : FnS := fIf (fNot (fRefu (fCall F_content_of 3 (L2.PL.gCons (fVar 0) (L2.PL.gCons (fVar 2) (L2.PL.gCons (fCst .none) (L2.PL.gNil))))) (fVar 2))) (fRet (fCst (.bool false))) (fSkip)
theorem v_rb2 {s : St} {nb : Nat} (h : Good s nb) {b : PyData} {s1 : Sl} (hb : b ∈ [PyData.int 29, .int (-1), .bool true]) (p : Dw) : rb2 [.sh (stsD s), s1, .sh b] (some p) = .ok (.nx [.sh (stsD s), s1, .sh b]) (some p) := by
  simp only [List.mem_cons, List.not_mem_nil, or_false] at hb
  have hs : shOk b = true := by rcases hb with rfl | rfl | rfl <;> decide +kernel
  have hn : isNonD b = false := by rcases hb with rfl | rfl | rfl <;> rfl
  have hd : noDay s b := by
    rcases hb with rfl | rfl | rfl
    · exact .inr ⟨_, rfl, far h (by omega)⟩
    · exact .inl rfl
    · exact .inl rfl
  simp [bad_one h hd hn .none p, refu_same hs]
abbrev rb3 : FnS := (fSeq (fIf (fNot (fRefu (fCall F_content_of 3 (L2.PL.gCons (fVar 0) (L2.PL.gCons (fCst .none) (L2.PL.gCons (fVar 2) (L2.PL.gNil))))) (fVar 2))) (fRet (fCst (.bool false))) (fSkip))
  (fSeq (fIf (fNot (fRefu (fCall F_closest_base 2 (L2.PL.gCons (fVar 0) (L2.PL.gCons (fVar 2) (L2.PL.gNil)))) (fVar 2))) (fRet (fCst (.bool false))) (fSkip))
  (fIf (fNot (fRefu (fCall F_wrongly_made 3 (L2.PL.gCons (fVar 0) (L2.PL.gCons (fTup (fCons (fBin kAt (f1 kSorted (fPk 0)) (fCst (.int 0))) (fNil))) (L2.PL.gCons (fVar 2) (L2.PL.gNil))))) (fVar 2))) (fRet (fCst (.bool false))) (fSkip))))
theorem d_first {s : St} {nb : Nat} (h : Good s nb) : ∃ d ∈ days s, ∀ g, ∃ L, kSorted (stsD s) g = .ok L g ∧ kAt L (.int 0) g = .ok (.int d) g := by
  have hk : ∀ g, kSorted (stsD s) g = .ok (.list ((srt (days s)).map .int)) g := fun g => by
    have := k_sortedA (l := sA s) (g := g)
    rwa [sA_keys] at this
  cases q : srt (days s) with
  | nil =>
    have : (srt (days s)).length = (days s).length := (List.mergeSort_perm (days s) fun a b => decide (a ≤ b)).length_eq
    rw [q] at this
    have h0 : s.length = 0 := by simpa using this.symm
    exact absurd (List.length_eq_zero_iff.mp h0) h.ne
  | cons d l =>
    refine ⟨d, srt_mem.mp (by rw [q]; exact List.mem_cons_self), fun g => ⟨_, hk g, ?_⟩⟩
    rw [q]
    exact k_atL (i := 0) rfl
theorem v_rb3 {s : St} {nb : Nat} (h : Good s nb) {b : PyData} {s1 : Sl} (hb : b ∈ [PyData.none, .int 29]) (p : Dw) : rb3 [.sh (stsD s), s1, .sh b] (some p) = .ok (.nx [.sh (stsD s), s1, .sh b]) (some p) := by
  simp only [List.mem_cons, List.not_mem_nil, or_false] at hb
  have hs : shOk b = true := by rcases hb with rfl | rfl <;> decide +kernel
  have hd : noDay s b := by
    rcases hb with rfl | rfl
    · exact .inl rfl
    · exact .inr ⟨_, rfl, far h (by omega)⟩
  obtain ⟨d, d1, d2⟩ := d_first h
  obtain ⟨L, d3, d4⟩ := d2 (some p)
  have a1 := bad_to h hd p
  have a2 := bad_cb h hd p
  have a3 := bad_wm h hd d1 p
  have z1 : 1 ≤ sizeLine := by decide
  generalize stsD s = S at *
  simp [a1, a2, a3, d3, d4, z1, refu_same hs]
abbrev bs5 : List PyData := [.none, .list [], .dict [(.int 8, .int 1)], .dict [(.int 0, .int 10)]]
theorem bs5_bad : ∀ b ∈ bs5, ∀ p : Dw, F_is_content [.sh b] (some p) = .ok (.bool false) (some p) := by
  intro b hb g
  simp only [bs5, List.mem_cons, List.not_mem_nil, or_false] at hb
  rcases hb with rfl | rfl | rfl | rfl <;> kernel_rfl
theorem bs5_sh : (bs5.all shOk) = true := by decide +kernel
abbrev rb5 : FnS := (fSeq (fIf (fNot (fRefu (fCall F_folded 2 (L2.PL.gCons (fVar 2) (L2.PL.gCons (fCst .none) (L2.PL.gNil)))) (fVar 2))) (fRet (fCst (.bool false))) (fSkip))
  (fSeq (fIf (fNot (fRefu (fCall F_folded 2 (L2.PL.gCons (fTell (fNewD)) (L2.PL.gCons (fVar 2) (L2.PL.gNil)))) (fVar 2))) (fRet (fCst (.bool false))) (fSkip))
  (fIf (fNot (fRefu (fCall F_behind 2 (L2.PL.gCons (fTup (fCons (fCst (.int 1)) (fNil))) (L2.PL.gCons (fVar 2) (L2.PL.gNil)))) (fVar 2))) (fRet (fCst (.bool false))) (fSkip))))
theorem v_rb5 {s0 s1 : Sl} {b : PyData} (hb : ∀ p : Dw, F_is_content [.sh b] (some p) = .ok (.bool false) (some p)) (hs : shOk b = true) (p : Dw) : rb5 [s0, s1, .sh b] (some p) = .ok (.nx [s0, s1, .sh b]) (some p) := by
  have z1 : 1 ≤ sizeLine := by decide
  have z2 : 2 ≤ sizeLine := by decide
  have e0 : F_is_content [.sh (.dict [])] (some p) = .ok (.bool true) (some p) := by kernel_rfl
  have e9 : F_is_versions [.sh (.tuple [.int 1])] (some p) = .ok (.bool true) (some p) := by kernel_rfl
  have e1 : F_folded [.sh b, .sh .none] (some p) = .bad b (some p) := by simp [F_folded, b_folded, hb, z2, loopF]
  have e2 : F_folded [.sh (.dict []), .sh b] (some p) = .bad b (some p) := by simp [F_folded, b_folded, hb, z2, loopF, e0]
  have e3 : F_behind [.sh (.tuple [.int 1]), .sh b] (some p) = .bad b (some p) := by simp [F_behind, b_behind, hb, e9]
  simp [e1, e2, e3, z1, refu_same hs]
end K03
set_option Elab.async false
set_option linter.all false
set_option maxRecDepth 100000
set_option maxHeartbeats 400000
set_option pp.maxSteps 400
namespace K03
open PySem L2.PL
def shB (d : PyData) : Bool := reprOk d && d.showable && d.leavesShort 8 && decide (d.weight ≤ 2 ^ 20)
theorem shOk_of {d : PyData} (h : shB d = true) : shOk d = true := by
  unfold shB at h
  rw [Bool.and_eq_true, Bool.and_eq_true, Bool.and_eq_true] at h
  unfold shOk
  rw [h.1.1.1, h.1.1.2, decide_eq_true (PyData.shown_fits (B := 8) (by decide) (by decide) h.1.2 (of_decide_eq_true h.2))]
  rfl
abbrev bs6 (d : Int) : List PyData := [.none, .list [], .tuple [.tuple [.int d, .int d]], .tuple [.tuple [.none, .int 29]], .tuple [.tuple [.int 29, .int d]], .tuple (repD 21 [.tuple [.none, .int d]]), .tuple [.tuple [.int d]]]
theorem bs6_sh {d : Int} (h : 0 ≤ d ∧ d ≤ 8) : ((bs6 d).all shB) = true := by
  have : ((List.range 9).all fun n => (bs6 (n : Int)).all shB) = true := by decide +kernel
  have := List.all_eq_true.mp this d.toNat (List.mem_range.mpr (by omega))
  rwa [show ((d.toNat : Nat) : Int) = d by omega] at this
abbrev rb6 : FnS := fIf (fNot (fRefu (fCall F_store_of 2 (L2.PL.gCons (fVar 0) (L2.PL.gCons (fVar 2) (L2.PL.gNil)))) (fVar 2))) (fRet (fCst (.bool false))) (fSkip)
@[simp] theorem s_star' {fa : Fn} {fs : FnL} {ρ : L2.PL.Env} {g : Gs} : fStar fa fs ρ g = (fa ρ g).bind fun x g1 => match itemsD x with
  | some xs => (fs ρ g1).bind fun ys g2 => .ok (xs ++ ys) g2
  | none => .no := id rfl
@[simp] theorem items_t' {xs : List PyData} : itemsD (.tuple xs) = some xs := id rfl
theorem v_rb6 {s : St} {nb : Nat} (h : Good s nb) {b : PyData} {s1 : Sl} {d : Int} (hd : d ∈ days s) (hb : b ∈ bs6 d) (p : Dw) : rb6 [.sh (stsD s), s1, .sh b] (some p) = .ok (.nx [.sh (stsD s), s1, .sh b]) (some p) := by
  obtain ⟨q, hq, e⟩ := List.mem_map.mp hd
  have d8 := h.day q hq
  rw [e] at d8
  have hs : shOk b = true := shOk_of (List.all_eq_true.mp (bs6_sh d8) b hb)
  have f9 := v_check_states h p
  have z3 : 3 ≤ sizeLine := by decide
  have n29 : (29 : Int) ∉ days s := far h (by omega)
  have i1 := k_inS (neg := true) (s := s) (d := d) (g := some p)
  have i2 := k_inS (neg := true) (s := s) (d := 29) (g := some p)
  rw [decide_eq_true hd] at i1
  rw [decide_eq_false n29] at i2
  have e1 : F_store_of [.sh (stsD s), .sh b] (some p) = .bad b (some p) := by
    simp only [bs6, List.mem_cons, List.not_mem_nil, or_false] at hb
    rcases hb with rfl | rfl | rfl | rfl | rfl | rfl | rfl
    · generalize stsD s = S at *
      simp [F_store_of, b_store_of, f9, isTup]
    · generalize stsD s = S at *
      simp [F_store_of, b_store_of, f9, isTup]
    · have it := v_is_item ⟨some d, d, 0⟩ (some p)
      have : okI ⟨some d, d, 0⟩ = false := by simp [okI]
      rw [this] at it
      unfold itD oD at it
      simp only [] at it
      generalize stsD s = S at *
      simp [F_store_of, b_store_of, f9, isTup, loopF, v_is_many, z3, it]
    · have it := v_is_item ⟨none, 29, 0⟩ (some p)
      have : okI ⟨none, 29, 0⟩ = true := by simp [okI]
      rw [this] at it
      unfold itD oD at it
      simp only [] at it
      generalize stsD s = S at *
      simp [F_store_of, b_store_of, f9, isTup, loopF, v_is_many, z3, it, i2]
    · have it := v_is_item ⟨some 29, d, 0⟩ (some p)
      have : okI ⟨some 29, d, 0⟩ = true := by simp [okI]; omega
      rw [this] at it
      unfold itD oD at it
      simp only [] at it
      generalize stsD s = S at *
      simp [F_store_of, b_store_of, f9, isTup, loopF, v_is_many, z3, it, i1, i2]
    · generalize stsD s = S at *
      have l21 : (20 : Int) < ((repD 21 [PyData.tuple [.none, .int d]]).length : Int) := by
        have : (repD 21 [PyData.tuple [.none, .int d]]).length = 21 := rfl
        omega
      generalize repD 21 [PyData.tuple [.none, .int d]] = R at *
      simp [F_store_of, b_store_of, f9, isTup, l21]
    · generalize stsD s = S at *
      simp [F_store_of, b_store_of, f9, isTup, loopF, v_is_many]
  simp [e1, refu_same hs]
abbrev bs7 (d : Int) : List PyData := [.none, .tuple [], .tuple [.int d, .int d], .tuple [.int 29], .list [.int d]]
theorem bs7_sh {d : Int} (h : 0 ≤ d ∧ d ≤ 8) : ((bs7 d).all shB) = true := by
  have : ((List.range 9).all fun n => (bs7 (n : Int)).all shB) = true := by decide +kernel
  have := List.all_eq_true.mp this d.toNat (List.mem_range.mpr (by omega))
  rwa [show ((d.toNat : Nat) : Int) = d by omega] at this
abbrev rb7 : FnS := (fSeq (fIf (fNot (fRefu (fCall F_restored 2 (L2.PL.gCons (fVar 0) (L2.PL.gCons (fVar 2) (L2.PL.gNil)))) (fVar 2))) (fRet (fCst (.bool false))) (fSkip))
  (fIf (fNot (fRefu (fCall F_folded_along 2 (L2.PL.gCons (fVar 0) (L2.PL.gCons (fVar 2) (L2.PL.gNil)))) (fVar 2))) (fRet (fCst (.bool false))) (fSkip)))
theorem v_rb7 {s : St} {nb : Nat} (h : Good s nb) {b : PyData} {s1 : Sl} {d : Int} (hd : d ∈ days s) (hb : b ∈ bs7 d) (p : Dw) : rb7 [.sh (stsD s), s1, .sh b] (some p) = .ok (.nx [.sh (stsD s), s1, .sh b]) (some p) := by
  obtain ⟨q, hq, e⟩ := List.mem_map.mp hd
  have d8 := h.day q hq
  rw [e] at d8
  have hs : shOk b = true := shOk_of (List.all_eq_true.mp (bs7_sh d8) b hb)
  have f9 := v_check_states h p
  have zz : 100 ≤ sizeLine := by decide
  have n29 : (29 : Int) ∉ days s := far h (by omega)
  have lst : ∀ al : List Int, al ≠ [] → al.length ≤ 20 → (∃ B : Int → Bool, (∀ k ∈ al, fAnd (fCall F_is_day 1 (L2.PL.gCons (fVar 5) (L2.PL.gNil))) (fBin (kInX false) (fPk 5) (fPk 0)) [.sh (stsD s), .sh (.tuple (al.map .int)), .un, .un, .un, .sh (.int k)] (some p) = .ok (.bool (B k)) (some p)) ∧ (al.all B = false ∨ (al.zip (al.drop 1)).any (fun p => decide (p.1 = p.2)) = true)) → F_restored [.sh (stsD s), .sh (.tuple (al.map .int))] (some p) = .bad (.tuple (al.map .int)) (some p) := by
    rintro al hne hl ⟨B, hB, hx⟩
    have e1 := ev_lcy PyData.int (fun k => [(5, .int k)]) (fun k => .bool (B k)) (t := .nm 5) (fi := fWalk (fVar 1)) (fe := fAnd (fCall F_is_day 1 (L2.PL.gCons (fVar 5) (L2.PL.gNil))) (fBin (kInX false) (fPk 5) (fPk 0))) (vs := [5]) (ρ := [.sh (stsD s), .sh (.tuple (al.map .int)), .un, .un, .un, .un]) (l := al) (g := some p) (g0 := some p) (by simp) (by simp) (fun k hk => hB k hk) (by omega)
    have e2 : kAll (.list (al.map fun k => .bool (B k))) (some p) = .ok (.bool (al.all B)) (some p) := kAll_map _ _
    have e3 := ev_lcy (fun p : Int × Int => .tuple [.int p.1, .int p.2]) (fun p => [(2, .int p.1), (3, .int p.2)]) (fun p => .bool (decide (p.1 = p.2))) (t := .tp [.nm 2, .nm 3]) (fi := fZip (fVar 1) (fSlc (fPk 1) (some (fCst (.int 1))) none)) (fe := fBin (kEqX false) (fPk 2) (fPk 3)) (vs := [2, 3]) (ρ := [.sh (stsD s), .sh (.tuple (al.map .int)), .un, .un, .un, .un]) (l := al.zip (al.drop 1)) (g := some p) (g0 := some p) (v_zipW rfl) (by simp [bind_tp2]) (by simp) (by simp; omega)
    have e4 : kAny (.list ((al.zip (al.drop 1)).map fun p => .bool (decide (p.1 = p.2)))) (some p) = .ok (.bool ((al.zip (al.drop 1)).any fun p => decide (p.1 = p.2))) (some p) := kAny_map (fun p : Int × Int => decide (p.1 = p.2)) _
    have e5 : kEqX false (.tuple (al.map .int)) (.tuple []) (some p) = .ok (.bool false) (some p) := by rw [k_eqT0]; simp [hne]
    have isT : isTup (.tuple (al.map PyData.int)) = true := rfl
    generalize PyData.list ((al.zip (al.drop 1)).map fun p => .bool (decide (p.1 = p.2))) = L2 at *
    generalize PyData.list (al.map fun k => .bool (B k)) = L1 at *
    generalize (al.zip (al.drop 1)).any (fun p => decide (p.1 = p.2)) = A2 at *
    generalize al.all B = A1 at *
    rw [show F_restored [.sh (stsD s), .sh (.tuple (al.map .int))] (some p) = runF b_restored 4 [.sh (stsD s), .sh (.tuple (al.map .int))] (some p) from rfl]
    generalize PyData.tuple (al.map PyData.int) = T at *
    generalize stsD s = S at *
    simp only [s_runF, b_restored, s_seq, s_exp, s_if, s_for]
    rcases hx with rfl | rfl
    · simp [f9, isT, e1, e2, e5]
    · cases A1 with
      | true => simp [f9, isT, e1, e2, e3, e4, e5]
      | false => simp [f9, isT, e1, e2, e5]
  have e1 : F_restored [.sh (stsD s), .sh b] (some p) = .bad b (some p) := by
    simp only [bs7, List.mem_cons, List.not_mem_nil, or_false] at hb
    rcases hb with rfl | rfl | rfl | rfl | rfl
    · generalize stsD s = S at *
      simp [F_restored, b_restored, f9, isTup]
    · have z0 : 0 ≤ sizeLine := Nat.zero_le _
      generalize stsD s = S at *
      simp [F_restored, b_restored, f9, isTup]
    · refine lst [d, d] (by simp) (by simp) ⟨fun k => fromB (.int k) 0 30 && decide (k ∈ days s), ?_, .inr (by simp)⟩
      intro k _
      have := k_inS (neg := false) (s := s) (d := k) (g := some p)
      generalize stsD s = S at *
      simp [v_is_day, this]
    · refine lst [29] (by simp) (by simp) ⟨fun k => fromB (.int k) 0 30 && decide (k ∈ days s), ?_, .inl (by simp [n29])⟩
      intro k _
      have := k_inS (neg := false) (s := s) (d := k) (g := some p)
      generalize stsD s = S at *
      simp [v_is_day, this]
    · generalize stsD s = S at *
      simp [F_restored, b_restored, f9, isTup]
  have e2 : F_folded_along [.sh (stsD s), .sh b] (some p) = .bad b (some p) := by simp [F_folded_along, b_folded_along, e1]
  simp [e1, e2, refu_same hs]
theorem loop_id {l : List PyData} {body : FnS} {s : St} {p : Dw} (s1 x : Sl) (h : ∀ b ∈ l, body [.sh (stsD s), s1, .sh b] (some p) = .ok (.nx [.sh (stsD s), s1, .sh b]) (some p)) : ∃ y, loopF (.nm 2) body l [.sh (stsD s), s1, x] (some p) = .ok (.nx [.sh (stsD s), s1, y]) (some p) := by
  have key := loop_list (t := .nm 2) (body := body) id (fun pre ρ g2 => g2 = some p ∧ ∃ x, ρ = [.sh (stsD s), s1, x]) l (ρ := [.sh (stsD s), s1, x]) (g := some p) ⟨rfl, x, rfl⟩ fun pre b post hp ρ g2 ⟨e1, y, e2⟩ => by
    subst e1 e2
    exact ⟨[(2, b)], _, _, by simp, .inl (h b (by rw [hp]; simp)), rfl, .sh b, rfl⟩
  obtain ⟨ρ', g', e, rfl, y, rfl⟩ := key
  exact ⟨y, by simpa using e⟩
theorem rr1_list (s0 s1 s2 : Sl) (p : Dw) : fWalk (fTup (fCons (fCst .none) (fCons (fTell (fNewD)) (fCons (fTell (fDisp [(fCst (.int 0), fTup (fNil))])) (fCons (fTell (fDisp [(fCst (.int 0), fTup (fCons (fCst (.int 10)) (fNil)))])) (fCons (fTell (fDisp [(fCst (.int 0), fTup (fCons (fCst (.int 1)) (fNil))), (fCst (.int 1), fTup (fCons (fCst (.int 1)) (fCons (fCst (.int 2)) (fNil))))])) (fCons (fTell (fDisp [(fCst (.int 31), fTup (fCons (fCst (.int 1)) (fNil)))])) (fCons (fTell (fDisp [(fCst (.int 0), fLstO (fLst (fCons (fCst (.int 1)) (fNil))))])) (fCons (fTell (fDisp [(fCst (.int 0), fBin kMulX (fTup (fCons (fCst (.int 1)) (fNil))) (fCst (.int 9)))])) (fCons (fTell (f1 kDictP (fLc (fRng1 (fCst (.int 13))) (.nm 1) (fYes) (fTup (fCons (fVar 1) (fCons (fTup (fCons (fCst (.int 1)) (fNil))) (fNil)))) [1]))) (fNil))))))))))) [s0, .un, s2] (some p) = .ok bs1 (some p) := by
  kernel_rfl
theorem rr5_list (s0 s1 s2 : Sl) (p : Dw) : fWalk (fTup (fCons (fCst .none) (fCons (fLstO (fLst (fNil))) (fCons (fTell (fDisp [(fCst (.int 8), fCst (.int 1))])) (fCons (fTell (fDisp [(fCst (.int 0), fCst (.int 10))])) (fNil)))))) [s0, s1, s2] (some p) = .ok bs5 (some p) := by
  kernel_rfl
theorem rr6_list (s0 s2 : Sl) (d : Int) (p : Dw) : fWalk (fTup (fCons (fCst .none) (fCons (fLstO (fLst (fNil))) (fCons (fTup (fCons (fTup (fCons (fVar 1) (fCons (fVar 1) (fNil)))) (fNil))) (fCons (fTup (fCons (fTup (fCons (fCst .none) (fCons (fCst (.int 29)) (fNil)))) (fNil))) (fCons (fTup (fCons (fTup (fCons (fCst (.int 29)) (fCons (fVar 1) (fNil)))) (fNil))) (fCons (fBin kMulX (fTup (fCons (fTup (fCons (fCst .none) (fCons (fVar 1) (fNil)))) (fNil))) (fCst (.int 21))) (fCons (fTup (fCons (fTup (fCons (fVar 1) (fNil))) (fNil))) (fNil))))))))) [s0, .sh (.int d), s2] (some p) = .ok (bs6 d) (some p) := by
  kernel_rfl
theorem rr7_list (s0 s2 : Sl) (d : Int) (p : Dw) : fWalk (fTup (fCons (fCst .none) (fCons (fTup (fNil)) (fCons (fTup (fCons (fVar 1) (fCons (fVar 1) (fNil)))) (fCons (fTup (fCons (fCst (.int 29)) (fNil))) (fCons (fLstO (fLst (fCons (fVar 1) (fNil)))) (fNil))))))) [s0, .sh (.int d), s2] (some p) = .ok (bs7 d) (some p) := by
  kernel_rfl
theorem v_refused {s : St} {nb : Nat} (h : Good s nb) (p : Dw) : F__law_refused_right [.sh (stsD s)] (some p) = .ok (.bool true) (some p) := by
  have zz : 100 ≤ sizeLine := by decide
  obtain ⟨d, d1, d2⟩ := d_first h
  obtain ⟨L, d3, d4⟩ := d2 (some p)
  obtain ⟨q, hq, e⟩ := List.mem_map.mp d1
  have d8 := h.day q hq
  rw [e] at d8
  obtain ⟨y1, l1⟩ := loop_id (s := s) (p := p) .un .un (fun b hb => v_rb1 (bs1_bad b hb) (List.all_eq_true.mp bs1_sh b hb) p)
  obtain ⟨y2, l2⟩ := loop_id (s := s) (p := p) .un y1 (fun b hb => v_rb2 h hb p)
  obtain ⟨y3, l3⟩ := loop_id (s := s) (p := p) .un y2 (fun b hb => v_rb3 h hb p)
  obtain ⟨y5, l5⟩ := loop_id (s := s) (p := p) (.sh (.int d)) y3 (fun b hb => v_rb5 (bs5_bad b hb) (List.all_eq_true.mp bs5_sh b hb) p)
  obtain ⟨y6, l6⟩ := loop_id (s := s) (p := p) (.sh (.int d)) y5 (fun b hb => v_rb6 h d1 hb p)
  obtain ⟨y7, l7⟩ := loop_id (s := s) (p := p) (.sh (.int d)) y6 (fun b hb => v_rb7 h d1 hb p)
  have g1 := rr1_list (.sh (stsD s)) .un .un p
  have g5 := rr5_list (.sh (stsD s)) (.sh (.int d)) y3 p
  have g6 := rr6_list (.sh (stsD s)) y5 d p
  have g7 := rr7_list (.sh (stsD s)) y6 d p
  have z3 : 3 ≤ sizeLine := by omega
  have z2 : 2 ≤ sizeLine := by omega
  have z1 : 1 ≤ sizeLine := by omega
  have r8 : fRefu (fCall F_behind 2 (L2.PL.gCons (fTup (fNil)) (L2.PL.gCons (fCst .none) (L2.PL.gNil)))) (fTup (fNil)) [.sh (stsD s), .sh (.int d), y7] (some p) = .ok (.bool true) (some p) := by
    kernel_rfl
  have r9 : fRefu (fCall F_behind 2 (L2.PL.gCons (fTup (fCons (fCst (.int 1)) (fNil))) (L2.PL.gCons (fTell (fDisp [(fCst (.int 1), fCst (.int 1))])) (L2.PL.gNil)))) (fTell (fDisp [(fCst (.int 1), fCst (.int 1))])) [.sh (stsD s), .sh (.int d), y7] (some p) = .ok (.bool true) (some p) := by
    kernel_rfl
  rw [show F__law_refused_right [.sh (stsD s)] (some p) = runF b__law_refused_right 2 [.sh (stsD s)] (some p) from rfl]
  rw [s_runF, b__law_refused_right]
  show Res.bind (fSeq _ _ [.sh (stsD s), .un, .un] (some p)) _ = _
  rw [s_seq, s_for, g1, bind_ok, l1]
  simp only [bind_ok]
  rw [s_seq, s_for, show fWalk (fTup (fCons (fCst (.int 29)) (fCons (fNeg (fCst (.int 1))) (fCons (fCst (.bool true)) (fNil))))) [.sh (stsD s), .un, y1] (some p) = .ok [PyData.int 29, .int (-1), .bool true] (some p) by kernel_rfl, bind_ok, l2]
  simp only [bind_ok]
  rw [s_seq, s_for, show fWalk (fTup (fCons (fCst .none) (fCons (fCst (.int 29)) (fNil)))) [.sh (stsD s), .un, y2] (some p) = .ok [PyData.none, .int 29] (some p) by kernel_rfl, bind_ok, l3]
  simp only [bind_ok]
  have r4 : fSet 1 (fBin kAt (f1 kSorted (fPk 0)) (fCst (.int 0))) [.sh (stsD s), .un, y3] (some p) = .ok (.nx [.sh (stsD s), .sh (.int d), y3]) (some p) := by
    generalize stsD s = S at *
    simp [d3, d4]
  rw [s_seq, r4]
  simp only [bind_ok]
  rw [s_seq, s_for, g5, bind_ok, l5]
  simp only [bind_ok]
  rw [s_seq, s_for, g6, bind_ok, l6]
  simp only [bind_ok]
  rw [s_seq, s_for, g7, bind_ok, l7]
  simp only [bind_ok]
  rw [s_seq, s_if, s_not, r8]
  simp only [bind_ok, Bool.not_true, tst_f, s_skip]
  rw [s_ret, r9]
  rfl
end K03
set_option Elab.async false
set_option linter.all false
set_option maxRecDepth 100000
set_option maxHeartbeats 400000
set_option pp.maxSteps 400
namespace K03
open PySem L2.PL
variable {ns : List Int} {nb : Nat} {s : St} {x4 x6 x7 x8 x9 x10 x11 x12 x13 x14 x15 x16 x17 x18 x19 x20 x21 : Sl} {g : Gs}
/-- a drawn content -/
theorem v_side (h : Good s nb) {z : PyData} (D : Dr0 ns g) : ∃ (c : Ct) (g' : Gs), fTell (f1 kDictP (fLc (fRng1 (fCall F__law_next 2 (L2.PL.gDr 1 (L2.PL.gCons (fCst (.int 4)) (L2.PL.gNil))))) (.nm 14) (fYes) (fTup (fCons (fCall F__law_next 2 (L2.PL.gDr 1 (L2.PL.gCons (fVar 2) (L2.PL.gNil)))) (fCons (fCall F__law_next 2 (L2.PL.gDr 1 (L2.PL.gCons (fCst (.int 4)) (L2.PL.gNil)))) (fNil)))) [14])) [.un, .dr, .sh (.int nb), .sh (stsD s), x4, .sh (dyD s), x6, x7, x8, x9, x10, x11, x12, x13, x14, x15, x16, x17, x18, x19, x20, x21, .un, .un, .sh z] g = .ok (ctD c) g' ∧ Dr0 ns g' ∧ OkC c nb := by
  have zz : 100 ≤ sizeLine := by decide
  have n1 := h.nb1
  obtain ⟨c0, hc0, rfl⟩ := D
  obtain ⟨v, g1, e1, D1, v1, v2⟩ := d_next (ns := ns) (g := some (ns.map .int, c0)) ⟨c0, hc0, rfl⟩ (b := 4) (by decide)
  obtain ⟨n, hn⟩ : ∃ n : Nat, v = n := ⟨v.toNat, by omega⟩
  subst hn
  generalize stsD s = S at *
  generalize dyD s = DY at *
  obtain ⟨w, g2, l1, l2, D2, l3⟩ := ev_lcdrw (Dr0 ns) PyData.int (fun n => [(14, .int n)]) (fun q : Int × Int => .tuple [.int q.1, .int q.2]) (fun q => (0 ≤ q.1 ∧ q.1 < nb) ∧ 0 ≤ q.2 ∧ q.2 ≤ 9) (t := .nm 14) (fi := fRng1 (fCall F__law_next 2 (L2.PL.gDr 1 (L2.PL.gCons (fCst (.int 4)) (L2.PL.gNil))))) (fe := fTup (fCons (fCall F__law_next 2 (L2.PL.gDr 1 (L2.PL.gCons (fVar 2) (L2.PL.gNil)))) (fCons (fCall F__law_next 2 (L2.PL.gDr 1 (L2.PL.gCons (fCst (.int 4)) (L2.PL.gNil)))) (fNil)))) (vs := [14]) (ρ := [.un, .dr, .sh (.int nb), .sh S, x4, .sh DY, x6, x7, x8, x9, x10, x11, x12, x13, x14, x15, x16, x17, x18, x19, x20, x21, .un, .un, .sh z]) (l := (List.range n).map Int.ofNat) (g0 := some (ns.map .int, c0)) (g := g1)
        (by rw [← rng_all2]; simp [e1, k_rng (n := n) (g := g1) (by omega)]) D1 (by simp) (by
          intro a _ g D
          obtain ⟨v, g', e, D', b1, b2⟩ := d_next D (b := (nb : Int)) (by omega)
          obtain ⟨u, g'', e', D'', b3, b4⟩ := d_next D' (b := 4) (by decide)
          have z2 : 2 ≤ sizeLine := by omega
          exact ⟨(v, u), g'', by simp [e, e', z2], D'', ⟨b1, b2⟩, b3, by omega⟩) (by simp; omega)
  refine ⟨mergeC [] w, g2, ?_, D2, merge_ok ⟨List.nodup_nil, by simp, by simp⟩ (fun q hq => (l2 q hq).1) fun q hq => (l2 q hq).2⟩
  have e2 : w.map (fun q : Int × Int => PyData.tuple [.int q.1, .int q.2]) = (cA w).map fun p => .tuple [.int p.1, p.2] := by unfold cA; rw [List.map_map]; rfl
  have e3 : kDictP (.list (w.map fun q : Int × Int => PyData.tuple [.int q.1, .int q.2])) g2 = .ok (ctD (mergeC [] w)) g2 := by
    rw [e2, k_dictP]
    have := cA_merge (b := w) (a := [])
    show Res.ok (dA (mergeA [] (cA w))) g2 = Res.ok (dA (cA (mergeC [] w))) g2
    rw [this]; rfl
  rw [s_tell, wOk_some, if_pos rfl, s_f1, l3, bind_ok, e3]
theorem u9 (h : Good s nb) (D : Dr0 ns g) : ∃ (a b : Ct) (g' : Gs), lw_10b_9 (RR nb (stsD s) (dyD s) x4 x6 x7 x8 x9 x10 x11 x12 x13 x14 x15 x16 x17 x18 x19 x20 x21) g = .ok (.nx (RR nb (stsD s) (dyD s) x4 x6 x7 x8 x9 x10 x11 x12 x13 x14 x15 x16 x17 x18 (.sh (ctD a)) (.sh (ctD b)) x21)) g' ∧ Dr0 ns g' ∧ OkC a nb ∧ OkC b nb := by
  have zz : 100 ≤ sizeLine := by decide
  obtain ⟨w, g2, l1, l2, D2, l3⟩ := ev_lcdrw (Dr0 ns) PyData.int (fun n => [(24, .int n)]) ctD (fun c => OkC c nb) (t := .nm 24) (fi := fRng1 (fCst (.int 2))) (fe := fTell (f1 kDictP (fLc (fRng1 (fCall F__law_next 2 (L2.PL.gDr 1 (L2.PL.gCons (fCst (.int 4)) (L2.PL.gNil))))) (.nm 14) (fYes) (fTup (fCons (fCall F__law_next 2 (L2.PL.gDr 1 (L2.PL.gCons (fVar 2) (L2.PL.gNil)))) (fCons (fCall F__law_next 2 (L2.PL.gDr 1 (L2.PL.gCons (fCst (.int 4)) (L2.PL.gNil)))) (fNil)))) [14]))) (vs := [24]) (ρ := RR nb (stsD s) (dyD s) x4 x6 x7 x8 x9 x10 x11 x12 x13 x14 x15 x16 x17 x18 x19 x20 x21) (l := (List.range 2).map Int.ofNat) (g0 := g) (g := g)
        (by rw [← rng_all2]; rw [s_rng1, s_cst, bind_ok, show (2 : Int) = ((2 : Nat) : Int) from rfl, k_rng (n := 2) (by decide)]) D (by simp) (by
          intro a _ g D
          obtain ⟨c, g', e, D', ok⟩ := v_side h (z := .int a) (x4 := x4) (x6 := x6) (x7 := x7) (x8 := x8) (x9 := x9) (x10 := x10) (x11 := x11) (x12 := x12) (x13 := x13) (x14 := x14) (x15 := x15) (x16 := x16) (x17 := x17) (x18 := x18) (x19 := x19) (x20 := x20) (x21 := x21) D
          exact ⟨c, g', e, D', ok⟩) (by simp; omega)
  match w, l1, l2, l3 with
  | [a, b], _, l2, l3 =>
    refine ⟨a, b, g2, ?_, D2, l2 a (by simp), l2 b (by simp)⟩
    simp only [List.map_cons, List.map_nil] at l3
    generalize ctD a = A at *
    generalize ctD b = B at *
    generalize stsD s = S at *
    generalize dyD s = DY at *
    rw [lw_10b_9, fUnl, s_lstO, l3, bind_ok]
    rfl
theorem u10 {a b : Ct} (ha : OkC a nb) (hb : OkC b nb) (n5 : nb ≤ 5) (p : Dw) : lw_10b_10 (RR nb (stsD s) (dyD s) x4 x6 x7 x8 x9 x10 x11 x12 x13 x14 x15 x16 x17 x18 (.sh (ctD a)) (.sh (ctD b)) x21) (some p) = .ok (.nx (RR nb (stsD s) (dyD s) x4 x6 x7 x8 x9 x10 x11 x12 x13 x14 x15 x16 x17 x18 (.sh (ctD a)) (.sh (ctD b)) (.sh (ctD (mergeC a b))))) (some p) := by
  have zz : 100 ≤ sizeLine := by decide
  have la := ha.len
  have lb := hb.len
  have m1 := merge_dict (c := a) (d := b) ha.nd (g := some p)
  have ad : kAdd (.list ((cA a).map fun p => .tuple [.int p.1, p.2])) (.list ((cA b).map fun p => .tuple [.int p.1, p.2])) (some p) = .ok (.list ((cA a ++ cA b).map fun p => .tuple [.int p.1, p.2])) (some p) := by
    rw [k_addL (by simp; omega), List.map_append]
  have i1 := ev_items (fa := fPk 19) (ρ := RR nb (stsD s) (dyD s) x4 x6 x7 x8 x9 x10 x11 x12 x13 x14 x15 x16 x17 x18 (.sh (ctD a)) (.sh (ctD b)) x21) (l := cA a) (g := some p) (g1 := some p) rfl
  have i2 := ev_items (fa := fPk 20) (ρ := RR nb (stsD s) (dyD s) x4 x6 x7 x8 x9 x10 x11 x12 x13 x14 x15 x16 x17 x18 (.sh (ctD a)) (.sh (ctD b)) x21) (l := cA b) (g := some p) (g1 := some p) rfl
  rw [lw_10b_10, s_set, s_tell, wOk_some, if_pos rfl, s_f1, s_bin, i1, bind_ok, i2, bind_ok, ad, bind_ok, m1, bind_ok]
  rfl
theorem u11 (h : Good s nb) {a b : Ct} (ha : OkC a nb) (hb : OkC b nb) {o : Int} (ho : o ∈ days s) (p : Dw) : lw_10b_11_t (RR nb (stsD s) (dyD s) x4 x6 x7 x8 x9 x10 (.sh (.int o)) x12 x13 x14 x15 x16 x17 x18 (.sh (ctD a)) (.sh (ctD b)) (.sh (ctD (mergeC a b)))) (some p) = .ok (.bool false) (some p) := by
  have n5 := h.nb8
  have hm := merge_ok ha hb.key hb.val
  have hf := fold_ok hm
  have a1 := v_folded (by omega) ha hb p
  have e1 := k_eqC (neg := true) (a := fold a b) (b := mergeC a b) (g := some p) hf.nd hm.nd (fold_get hm)
  have e2 : kList (ctD (fold a b)) (some p) = .ok (.list (((fold a b).map Prod.fst).map .int)) (some p) := k_keysC
  have e3 : kSorted (ctD (mergeC a b)) (some p) = .ok (.list (((fold a b).map Prod.fst).map .int)) (some p) := by rw [k_sortC, fold_keys]
  have e4 := k_eqLL (neg := true) (a := (fold a b).map Prod.fst) (b := (fold a b).map Prod.fst) (g := some p)
  rw [decide_eq_true rfl] at e4
  have k1 := k_state (s := s) (d := o) (g := some p) ho
  have gv := goodV h ho
  have gl := gs_len h ho
  have b1 := v_behind gv gl ha (some p)
  have b2 := v_behind (pt_ok gv ha) (by rw [pt_len, gl]) hb (some p)
  have b3 := v_behind gv gl hf (some p)
  have b4 := v__law_put gv ha (some p)
  have eq1 : pt (pt (gs s o) a) b = pt (gs s o) (fold a b) := by
    refine vi_ext (by rw [pt_len, pt_len, pt_len]) fun i hi => ?_
    rw [pt_len, pt_len] at hi
    rw [pt_vi (by rw [pt_len]; exact hi), pt_vi hi, pt_vi hi, fold_get hm, mergeC_get hb.nd]
    cases gC b (i : Int) <;> rfl
  rw [eq1] at b2
  have e5 := k_eqV (neg := true) (a := pt (gs s o) (fold a b)) (b := pt (gs s o) (fold a b)) (g := some p)
  rw [decide_eq_true rfl] at e5
  have e6 := k_eqV (neg := true) (a := pt (gs s o) a) (b := pt (gs s o) a) (g := some p)
  rw [decide_eq_true rfl] at e6
  generalize ((fold a b).map Prod.fst).map PyData.int = KL at *
  generalize vD (pt (gs s o) (fold a b)) = V3 at *
  generalize vD (pt (gs s o) a) = V2 at *
  generalize vD (gs s o) = V1 at *
  generalize ctD (fold a b) = CF at *
  generalize ctD (mergeC a b) = CM at *
  generalize ctD a = CA at *
  generalize ctD b = CB at *
  generalize stsD s = S at *
  generalize dyD s = DY at *
  simp [lw_10b_11_t, a1, e1, e2, e3, e4, k1, b1, b2, b3, b4, e5, e6]
theorem q10 (h : Good s nb) (D : Dr0 ns g) : ∃ (y8 y9 y11 y13 y14 y15 y16 y17 y18 y19 y20 y21 : Sl) (g' : Gs), lw_10b (RR nb (stsD s) (dyD s) x4 x6 x7 x8 x9 x10 x11 x12 x13 x14 x15 x16 x17 x18 x19 x20 x21) g = .ok (.nx (RR nb (stsD s) (dyD s) x4 x6 x7 y8 y9 x10 y11 x12 y13 y14 y15 y16 y17 y18 y19 y20 y21)) g' ∧ Dr0 ns g' := by
  obtain ⟨a0, g1, ha0, r1, D1⟩ := u1 (x4 := x4) (x6 := x6) (x7 := x7) (x8 := x8) (x9 := x9) (x10 := x10) (x11 := x11) (x12 := x12) (x13 := x13) (x14 := x14) (x15 := x15) (x16 := x16) (x17 := x17) (x18 := x18) (x19 := x19) (x20 := x20) (x21 := x21) h D
  obtain ⟨al, y14, y15, g2, hal, r2, D2⟩ := u2 (x4 := x4) (x6 := x6) (x7 := x7) (x8 := x8) (x9 := x9) (x10 := x10) (x11 := x11) (x12 := x12) (x14 := x14) (x15 := x15) (x16 := x16) (x17 := x17) (x18 := x18) (x19 := x19) (x20 := x20) (x21 := x21) h ha0 D1
  cases al with
  | nil => exact absurd rfl hal.1
  | cons a r =>
    have hda : a ∈ days s := hal.2.1 a List.mem_cons_self
    obtain ⟨c2, hc2, rfl⟩ := D2
    have r3 := u3 (x4 := x4) (x6 := x6) (x7 := x7) (x8 := x8) (x9 := x9) (x10 := x10) (x11 := x11) (x12 := x12) (x14 := y14) (x15 := y15) (x16 := x16) (x17 := x17) (x18 := x18) (x19 := x19) (x20 := x20) (x21 := x21) h (r := r) hda (ns.map .int, c2)
    obtain ⟨c, y8, y9, tc, r4⟩ := u4 (x4 := x4) (x6 := x6) (x7 := x7) (x8 := x8) (x9 := x9) (x10 := x10) (x11 := x11) (x12 := x12) (x14 := y14) (x15 := y15) (x18 := x18) (x19 := x19) (x20 := x20) (x21 := x21) h hal (ns.map .int, c2)
    obtain ⟨o, g5, ho, r5, D5⟩ := u5 (ns := ns) (g := some (ns.map .int, c2)) (x4 := x4) (x6 := x6) (x7 := x7) (x8 := y8) (x9 := y9) (x10 := x10) (x11 := x11) (x12 := x12) (x13 := .sh (alD (a :: r))) (x14 := y14) (x15 := y15) (x16 := .sh (ctD c)) (x17 := .sh (vD (gs s (lastI (a :: r))))) (x18 := x18) (x19 := x19) (x20 := x20) (x21 := x21) h ⟨c2, hc2, rfl⟩
    obtain ⟨c5, hc5, rfl⟩ := D5
    have r6 := u6 (x4 := x4) (x6 := x6) (x7 := x7) (x8 := y8) (x9 := y9) (x10 := x10) (x12 := x12) (x14 := y14) (x15 := y15) (x17 := .sh (vD (gs s (lastI (a :: r))))) (x18 := x18) (x19 := x19) (x20 := x20) (x21 := x21) h hal ho (c := c) (ns.map .int, c5)
    have r7 := u7 (x4 := x4) (x6 := x6) (x7 := x7) (x8 := y8) (x9 := y9) (x10 := x10) (x11 := .sh (.int o)) (x12 := x12) (x14 := y14) (x15 := y15) (x18 := .sh (.bool (alk s nb o (lastI (a :: r)) c))) (x19 := x19) (x20 := x20) (x21 := x21) h hal tc (ns.map .int, c5)
    have r8 := u8 (x4 := x4) (x6 := x6) (x7 := x7) (x8 := y8) (x9 := y9) (x10 := x10) (x12 := x12) (x14 := y14) (x15 := y15) (x17 := .sh (vD (gs s (lastI (a :: r))))) (x19 := x19) (x20 := x20) (x21 := x21) h hal ho tc (ns.map .int, c5)
    obtain ⟨ca, cb, g9, r9, D9, oa, ob⟩ := u9 (ns := ns) (g := some (ns.map .int, c5)) (x4 := x4) (x6 := x6) (x7 := x7) (x8 := y8) (x9 := y9) (x10 := x10) (x11 := .sh (.int o)) (x12 := x12) (x13 := .sh (alD (a :: r))) (x14 := y14) (x15 := y15) (x16 := .sh (ctD c)) (x17 := .sh (vD (gs s (lastI (a :: r))))) (x18 := .sh (.bool (alk s nb o (lastI (a :: r)) c))) (x19 := x19) (x20 := x20) (x21 := x21) h ⟨c5, hc5, rfl⟩
    obtain ⟨c9, hc9, rfl⟩ := D9
    have r10 := u10 (s := s) (x4 := x4) (x6 := x6) (x7 := x7) (x8 := y8) (x9 := y9) (x10 := x10) (x11 := .sh (.int o)) (x12 := x12) (x13 := .sh (alD (a :: r))) (x14 := y14) (x15 := y15) (x16 := .sh (ctD c)) (x17 := .sh (vD (gs s (lastI (a :: r))))) (x18 := .sh (.bool (alk s nb o (lastI (a :: r)) c))) (x21 := x21) oa ob h.nb8 (ns.map .int, c9)
    have r11 := u11 (x4 := x4) (x6 := x6) (x7 := x7) (x8 := y8) (x9 := y9) (x10 := x10) (x12 := x12) (x13 := .sh (alD (a :: r))) (x14 := y14) (x15 := y15) (x16 := .sh (ctD c)) (x17 := .sh (vD (gs s (lastI (a :: r))))) (x18 := .sh (.bool (alk s nb o (lastI (a :: r)) c))) h oa ob ho (ns.map .int, c9)
    refine ⟨y8, y9, .sh (.int o), .sh (alD (a :: r)), y14, y15, .sh (ctD c), .sh (vD (gs s (lastI (a :: r)))), .sh (.bool (alk s nb o (lastI (a :: r)) c)), .sh (ctD ca), .sh (ctD cb), .sh (ctD (mergeC ca cb)), some (ns.map .int, c9), ?_, ⟨c9, hc9, rfl⟩⟩
    rw [lw_10b, s_seq, r1]
    simp only [bind_ok]
    rw [s_seq, r2]
    simp only [bind_ok]
    rw [s_seq, r3]
    simp only [bind_ok]
    rw [s_seq, r4]
    simp only [bind_ok]
    rw [s_seq, r5]
    simp only [bind_ok]
    rw [s_seq, r6]
    simp only [bind_ok]
    rw [s_seq, r7]
    simp only [bind_ok]
    rw [s_seq, r8]
    simp only [bind_ok]
    rw [s_seq, r9]
    simp only [bind_ok]
    rw [s_seq, r10]
    simp only [bind_ok]
    rw [lw_10b_11, s_if, r11]
    rfl
theorem q10l (h : Good s nb) (D : Dr0 ns g) : ∃ (y4 y8 y9 y11 y13 y14 y15 y16 y17 y18 y19 y20 y21 : Sl) (g' : Gs), lw_10 (RR nb (stsD s) (dyD s) x4 x6 x7 x8 x9 x10 x11 x12 x13 x14 x15 x16 x17 x18 x19 x20 x21) g = .ok (.nx (RR nb (stsD s) (dyD s) y4 x6 x7 y8 y9 x10 y11 x12 y13 y14 y15 y16 y17 y18 y19 y20 y21)) g' ∧ Dr0 ns g' := by
  have key := loop_run (t := .nm 4) (body := lw_10b) (fun _ ρ g => Dr0 ns g ∧ ∃ y4 y8 y9 y11 y13 y14 y15 y16 y17 y18 y19 y20 y21, ρ = RR nb (stsD s) (dyD s) y4 x6 x7 y8 y9 x10 y11 x12 y13 y14 y15 y16 y17 y18 y19 y20 y21) (rngD 0 ((5 : Nat) : Int)) 0 (RR nb (stsD s) (dyD s) x4 x6 x7 x8 x9 x10 x11 x12 x13 x14 x15 x16 x17 x18 x19 x20 x21) g ⟨D, _, _, _, _, _, _, _, _, _, _, _, _, _, rfl⟩ (by
    rintro i ρ g d _ ⟨D, y4, y8, y9, y11, y13, y14, y15, y16, y17, y18, y19, y20, y21, rfl⟩
    obtain ⟨z8, z9, z11, z13, z14, z15, z16, z17, z18, z19, z20, z21, g', e, D'⟩ := q10 (x4 := .sh d) (x6 := x6) (x7 := x7) (x8 := y8) (x9 := y9) (x10 := x10) (x11 := y11) (x12 := x12) (x13 := y13) (x14 := y14) (x15 := y15) (x16 := y16) (x17 := y17) (x18 := y18) (x19 := y19) (x20 := y20) (x21 := y21) h D
    exact ⟨[(4, d)], _, g', by simp, .inl e, D', _, _, _, _, _, _, _, _, _, _, _, _, _, rfl⟩)
  obtain ⟨ρ', g', e3, D', y4, y8, y9, y11, y13, y14, y15, y16, y17, y18, y19, y20, y21, rfl⟩ := key
  refine ⟨y4, y8, y9, y11, y13, y14, y15, y16, y17, y18, y19, y20, y21, g', ?_, D'⟩
  rw [lw_10, s_for, s_rng1, s_cst, bind_ok]
  rw [show (5 : Int) = ((5 : Nat) : Int) from rfl, k_rng (n := 5) (g := g) (by decide), bind_ok, e3]
theorem math (ns : List Int) (hl : ns.length ≤ 63) : ∃ g', b_law ((List.replicate (1 + 24) Sl.un).set 1 .dr) (some (ns.map PyData.int, 0)) = .ok (.rt (.bool true)) g' := by
  have D0 : Dr0 ns (some (ns.map .int, 0)) := ⟨0, by decide, rfl⟩
  have zz : 0 ≤ sizeLine := Nat.zero_le _
  obtain ⟨nb, g1, r1, D1, n1, n2⟩ := q1 D0
  obtain ⟨s, x4, g2, r2, D2, h⟩ := q2 n1 n2 D1
  obtain ⟨c2, hc2, rfl⟩ := D2
  have r3 := q3 (nb := nb) (s := s) (x4 := x4) (g := some (ns.map .int, c2))
  have r4 := q4 h (x4 := x4) (ns.map .int, c2)
  have r5 : lw_5 (E1 nb (.sh (stsD s)) x4 (.sh (dyD s))) (some (ns.map .int, c2)) = .ok (.nx (RR nb (stsD s) (dyD s) x4 .un (.sh (.list [])) .un .un .un .un .un .un .un .un .un .un .un .un .un .un)) (some (ns.map .int, c2)) := by
    generalize stsD s = S at *
    generalize dyD s = DY at *
    simp [lw_5]
  obtain ⟨ps, x8, x9, x10, p1, p2, r6⟩ := q6l h (x4 := x4) (ns.map .int, c2)
  obtain ⟨qs, g7, q1', q2', r7, D7⟩ := q7 (ns := ns) (nb := nb) (s := s) (x4 := x4) (x8 := x8) (x9 := x9) (x10 := x10) p1 p2 (g := some (ns.map .int, c2)) ⟨c2, hc2, rfl⟩
  obtain ⟨c7, hc7, rfl⟩ := D7
  have r8 := q8 h (x4 := x4) (x8 := x8) (x9 := x9) (x10 := x10) q1' q2' (ns.map .int, c7)
  obtain ⟨x6, x12, r9⟩ := q9l h (x4 := x4) (x7 := .sh (.tuple (qs.map prD))) (x8 := x8) (x9 := x9) (x10 := x10) (ns.map .int, c7)
  obtain ⟨y4, y8, y9, y11, y13, y14, y15, y16, y17, y18, y19, y20, y21, g10, r10, D10⟩ := q10l (ns := ns) (g := some (ns.map .int, c7)) (x4 := x4) (x6 := x6) (x7 := .sh (.tuple (qs.map prD))) (x8 := x8) (x9 := x9) (x10 := x10) (x11 := .un) (x12 := x12) (x13 := .un) (x14 := .un) (x15 := .un) (x16 := .un) (x17 := .un) (x18 := .un) (x19 := .un) (x20 := .un) (x21 := .un) h ⟨c7, hc7, rfl⟩
  obtain ⟨c10, hc10, rfl⟩ := D10
  have r11 := v_refused h (ns.map .int, c10)
  refine ⟨some (ns.map .int, c10), ?_⟩
  rw [lw_eq, lw, s_seq, r1]
  simp only [bind_ok]
  rw [s_seq, r2]
  simp only [bind_ok]
  rw [s_seq, r3]
  simp only [bind_ok]
  rw [s_seq, r4]
  simp only [bind_ok]
  rw [s_seq, r5]
  simp only [bind_ok]
  rw [s_seq, r6]
  simp only [bind_ok]
  rw [s_seq, r7]
  simp only [bind_ok]
  rw [s_seq, r8]
  simp only [bind_ok]
  rw [s_seq, r9]
  simp only [bind_ok]
  rw [s_seq, r10]
  simp only [bind_ok]
  generalize stsD s = S at *
  generalize dyD s = DY at *
  simp [lw_11, frzE, r11]
end K03
set_option Elab.async false
set_option linter.all false
set_option maxRecDepth 100000
set_option maxHeartbeats 0
set_option pp.maxSteps 300
namespace K03
open PySem PySem.Spec PyProof.Rows L2 L2.PL He
theorem lawAt (w : World) (mg : Str → Option Value) (fa : Addr) (h : Heap) (Y : hk.says w h) (G : h.Ns mainGlobals mg) (hmg : mg "law" = some (.ref fa)) : ∃ K : PySem.W.Frag, K.In h ∧ LawAtG PySem.Challenge.rw_chainsback_k03_whole_blocks w K 13 63 "script" mg fa h := by
  obtain ⟨K, X, c⟩ := Y
  obtain ⟨fd, F⟩ := c.d.def_ 26 (d := dd "law" st_law) rfl
  have gl := glo_ok X G (c.d.fact 26 (f := .glo "law") rfl)
  have e := hmg.symm.trans gl
  cases e
  have b := FunD.bindsA (ps := ["script"]) F fun _ _ _ _ _ _ us hl => match us, hl with | [_], _ => rfl
  refine ⟨K, X, fd, htf.map (cT K), spLaw K (lamT K) (badC K) 24 1 b_law, ?_, ?_, ?_, fun s u => b s [u] rfl, ?_, ?_⟩
  · intro p hp
    obtain ⟨q, hq, rfl⟩ := List.mem_map.mp hp
    exact (c.tabs q hq).2.2
  · intro p hp
    obtain ⟨q, hq, rfl⟩ := List.mem_map.mp hp
    exact (c.tabs q hq).2.1
  · intro p hp
    obtain ⟨q, hq, rfl⟩ := List.mem_map.mp hp
    exact PySem.W.codeHd_of_K X (c.tabs q hq).1
  · intro H a ns hl _ hH _ hS
    refine ⟨a, ns, rfl, hl, hS, fun p hp => ?_, math ns hl, fun _ => rfl⟩
    obtain ⟨q, hq, rfl⟩ := List.mem_map.mp hp
    exact LamX.TabS.nil (hH _ (List.mem_map.mpr ⟨q, hq, rfl⟩))
  · intro base KB GB tb
    obtain ⟨f2, fd2, L, hm2, _, oc, od, osl, lk⟩ := ok_law (w := w) (evOf X G c fun p hp => tb _ (List.mem_map.mpr ⟨p, hp, rfl⟩))
    have e2 := gl.symm.trans hm2
    cases e2
    obtain ⟨oc', od', _, _, _, _, _, _, _, osl', e3, lk', _⟩ := F.ex
    have e4 := lk.symm.trans lk'
    cases e4
    exact L
end K03
set_option Elab.async false
set_option linter.all false
set_option maxRecDepth 100000
set_option maxHeartbeats 0
open PySem PySem.W PySem.Calls PyProof.Rows
theorem PySem.Challenge.cw_chainsback_k03_whole_blocks_holds : PySem.Challenge.rw_chainsback_k03_whole_blocks.Holds := by
  w_on; o_law
  refine HandSHeadRun.head_any (r := K03.R) (q := view K03.R.prog [39]) (H := K03.hk) (ob := K03.ob) (M := 4000) (loose := K03.loose) (d := HandSHeadRun.topDef K03.R.prog 39) (kwd := []) K03.ob_eq
    (by kernel_rfl) (fun s => by kernel_rfl) K03.run (by kernel_rfl) (by kernel_rfl) (by kernel_rfl) (by rfl) (by first | assumption | decide +kernel) (by decide +kernel) ⟨rfl, rfl, rfl, rfl, rfl, by decide +kernel⟩ ?hw ?hc
  case hw => w_witness2
  case hc =>
    refine L2.PL.walkGE (l := PySem.Challenge.rw_chainsback_k03_whole_blocks) (n := 63) (k := 13) (x := "script") rfl (by decide) (by kernel_rfl) ⟨rfl, by decide, by decide⟩ ?F
    intro w mg fa h Y G hmg0
    have hmg : mg ("law" : PySem.Str) = some (.ref fa) := by
      have e : (HandSHeadRun.topDef K03.R.prog 39).name = ("law" : PySem.Str) := by kernel_rfl
      rw [← e]
      exact hmg0
    exact K03.lawAt w mg fa h Y G hmg
