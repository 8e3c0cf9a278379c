import PyProof.Rows.All
import Wide.All
import OpenK.AllK
import Wide.FinOn
import HandS.ForMost
import HandS.Walk
import HandS.Zip
import HandS.Style
import HandS.NoneIn
import HandS.TupAny
import HandS.Deep
import HandS.IsInst
import HandS.Property
import HandS.Defaults
import HandS.MakeKwOnly
import HandS.HeadHook2
import OpenK.KMeth
import OpenK.KOps
import KE.DatumOrd
import KE.SortData
import KE.GoesEnum
import HandS.SortKw
import HandS.TupLen
import HandS.DictComp
import HandS.Codes
import PySem.Challenge.RW_quietdoors_k37_whole_papers_of_others
import KE.KStateDown
import HandS.Head0
import HandS.Head1
import HandS.Head2
import HandS.HeadEnd
import HandS.HeadHook1
import HandS.HeadHook4
import Lean
set_option Elab.async false
set_option maxRecDepth 100000
set_option linter.all false
set_option maxHeartbeats 4000000
/-! Quietdoors: the core. Data D, what value in what heap IS a datum (Is), and judgements over a context of data. -/
namespace Q
open PySem PySem.Spec PyProof.Rows L2

/-! ### data -/
/-- a letter: outward?, its number -/
structure Lt where
  o : Bool
  k : Nat
  deriving DecidableEq
def wd (b : Bool) : Str := if b = true then "out" else "back"
structure BoxR where
  low : Int
  high : Int
  rest : Int
  both : Bool
def BoxR.sees (B : BoxR) : Str := if B.both = true then "both" else "out"
structure RowR where
  boxes : List BoxR
  links : List (Int × Int)
structure TalkR where
  out : List Int
  back : List Int
  loss : Int
inductive D where
  | non | bl (b : Bool) | int (i : Int) | str (s : Str) | ty (n : String)
  | tup (ds : List D) | lst (ds : List D) | dct (kvs : List (Lt × D))
  | box (B : BoxR) | row (R : RowR) | talk (T : TalkR) | adr (a : Addr) | nev
def ltD (l : Lt) : D := .tup [.str (wd l.o), .int (l.k : Int)]
def prD (p : Int × Int) : D := .tup [.int p.1, .int p.2]
def ltK (l : Lt) : List Key := [.inr (wd l.o), .inl (l.k : Int)]
/-- the parts of a box as its dict holds them -/
def partsK (B : BoxR) : List (Key × V) := [(.inr "low", .int B.low), (.inr "high", .int B.high), (.inr "rest", .int B.rest), (.inr "sees", .str B.sees)]

mutual
inductive Is (K : PySem.W.Frag) (H : Hp) : V → D → Prop
  | non : Is K H .non .non
  | bl (b : Bool) : Is K H (.bl b) (.bl b)
  | int (i : Int) : Is K H (.int i) (.int i)
  | str (x : Str) : Is K H (.str x) (.str x)
  | ty (n : String) : Is K H (.ty n) (.ty n)
  | adr (a : Addr) : Is K H (.ref a) (.adr a)
  | tup {a : Addr} {xs : List V} {ds : List D} : H a = some (.tup xs) → IsL K H xs ds → Is K H (.ref a) (.tup ds)
  | lst {a : Addr} {o : Obj} {xs : List V} {ds : List D} : H a = some (.frz o (.lst xs)) → IsL K H xs ds → Is K H (.ref a) (.lst ds)
  | dct {a : Addr} {o : Obj} {raw : List (List Key × V)} {kvs : List (Lt × D)} : H a = some (.frz o (.dT raw)) → IsK K H raw kvs → Is K H (.ref a) (.dct kvs)
  | box {a dx p : Addr} {o : Obj} {B : BoxR} : H a = some (.ins (He.ga K "Box") dx [("kept_parts", .ref p)]) → H p = some (.frz o (.dK (partsK B))) → Is K H (.ref a) (.box B)
  | row {a dx : Addr} {vb vl : V} {R : RowR} : H a = some (.ins (He.ga K "Row") dx [("kept_boxes", vb), ("kept_links", vl)]) → Is K H vb (.tup (R.boxes.map .box)) → Is K H vl (.tup (R.links.map prD)) → Is K H (.ref a) (.row R)
  | talk {a dx : Addr} {vo vb : V} {T : TalkR} : H a = some (.ins (He.ga K "Talk") dx [("kept_out", vo), ("kept_back", vb), ("kept_losses", .int T.loss)]) → Is K H vo (.tup (T.out.map .int)) → Is K H vb (.tup (T.back.map .int)) → Is K H (.ref a) (.talk T)
inductive IsL (K : PySem.W.Frag) (H : Hp) : List V → List D → Prop
  | nil : IsL K H [] []
  | cons {v : V} {d : D} {vs : List V} {ds : List D} : Is K H v d → IsL K H vs ds → IsL K H (v :: vs) (d :: ds)
inductive IsK (K : PySem.W.Frag) (H : Hp) : List (List Key × V) → List (Lt × D) → Prop
  | nil : IsK K H [] []
  | cons {l : Lt} {v : V} {d : D} {raw : List (List Key × V)} {kvs : List (Lt × D)} : Is K H v d → IsK K H raw kvs → IsK K H ((ltK l, v) :: raw) ((l, d) :: kvs)
end

/-! ### heaps: all stays; what never changes stays -/
def Im : HO → Prop
  | .tup _ => True
  | .frz _ _ => True
  | .ins _ _ fs => (fs.lookup ("kept_parts" : Str)).isSome = true ∨ (fs.lookup ("kept_links" : Str)).isSome = true ∨ (fs.lookup ("kept_losses" : Str)).isSome = true
  | _ => False
def Ex (H H' : Hp) : Prop := ∀ a o, H a = some o → H' a = some o
def ExI (H H' : Hp) : Prop := ∀ a o, H a = some o → Im o → H' a = some o
theorem Ex.refl (H : Hp) : Ex H H := fun _ _ h => h
theorem Ex.trans {H H1 H2 : Hp} (a : Ex H H1) (b : Ex H1 H2) : Ex H H2 := fun x o h => b x o (a x o h)
theorem ExI.refl (H : Hp) : ExI H H := fun _ _ h _ => h
theorem ExI.trans {H H1 H2 : Hp} (a : ExI H H1) (b : ExI H1 H2) : ExI H H2 := fun x o h i => b x o (a x o h i) i
theorem Ex.i {H H' : Hp} (e : Ex H H') : ExI H H' := fun a o h _ => e a o h
theorem Ex.new {H : Hp} {p : Addr} {o : HO} (h : H p = none) : Ex H (upd H p o) := fun a u e => by
  rw [upd_ne (ne_of_none e h)]
  exact e
theorem Ex.mut {H H' : Hp} {p : Addr} {o : HO} (e : Ex H H') (h : H p = none) : Ex H (upd H' p o) := fun a u ha => by
  rw [upd_ne (ne_of_none ha h)]
  exact e a u ha
theorem Ex.none {H H' : Hp} {p : Addr} (e : Ex H H') (h : H' p = none) : H p = none := by
  cases h1 : H p with
  | none => rfl
  | some o =>
    rw [e p o h1] at h
    cases h
/-- a change of a thing that is not of the lasting kind -/
theorem ExI.upd {H : Hp} {p : Addr} {u o : HO} (h : H p = some u) (hu : ¬ Im u) : ExI H (upd H p o) := fun a w e i => by
  have hne : a ≠ p := fun q => by
    rw [q, h] at e
    exact hu (Option.some.inj e ▸ i)
  rw [upd_ne hne]
  exact e

section
variable {K : PySem.W.Frag} {H H' : Hp}
theorem im_tup {xs : List V} : Im (.tup xs) := True.intro
theorem im_frz {o : Obj} {u : HO} : Im (.frz o u) := True.intro
theorem im_box {C dx : Addr} {v : V} : Im (.ins C dx [(("kept_parts" : Str), v)]) := Or.inl rfl
theorem im_row {C dx : Addr} {v u : V} : Im (.ins C dx [(("kept_boxes" : Str), v), (("kept_links" : Str), u)]) := Or.inr (Or.inl (by
  rw [List.lookup_cons, show (("kept_links" : Str) == ("kept_boxes" : Str)) = false by decide +kernel]
  rfl))
theorem im_talk {C dx : Addr} {v u x : V} : Im (.ins C dx [(("kept_out" : Str), v), (("kept_back" : Str), u), (("kept_losses" : Str), x)]) := Or.inr (Or.inr (by
  rw [List.lookup_cons, show (("kept_losses" : Str) == ("kept_out" : Str)) = false by decide +kernel]
  show (List.lookup ("kept_losses" : Str) [(("kept_back" : Str), u), (("kept_losses" : Str), x)]).isSome = true
  rw [List.lookup_cons, show (("kept_losses" : Str) == ("kept_back" : Str)) = false by decide +kernel]
  rfl))
mutual
theorem Is.mono (e : ExI H H') : ∀ {v : V} {d : D}, Is K H v d → Is K H' v d
  | _, _, .non => .non
  | _, _, .bl b => .bl b
  | _, _, .int i => .int i
  | _, _, .str x => .str x
  | _, _, .ty n => .ty n
  | _, _, .adr a => .adr a
  | _, _, .tup h l => .tup (e _ _ h im_tup) (IsL.mono e l)
  | _, _, .lst h l => .lst (e _ _ h im_frz) (IsL.mono e l)
  | _, _, .dct h l => .dct (e _ _ h im_frz) (IsK.mono e l)
  | _, _, .box h p => .box (e _ _ h im_box) (e _ _ p im_frz)
  | _, _, .row h b l => .row (e _ _ h im_row) (Is.mono e b) (Is.mono e l)
  | _, _, .talk h b l => .talk (e _ _ h im_talk) (Is.mono e b) (Is.mono e l)
theorem IsL.mono (e : ExI H H') : ∀ {vs : List V} {ds : List D}, IsL K H vs ds → IsL K H' vs ds
  | _, _, .nil => .nil
  | _, _, .cons h r => .cons (Is.mono e h) (IsL.mono e r)
theorem IsK.mono (e : ExI H H') : ∀ {raw : List (List Key × V)} {kvs : List (Lt × D)}, IsK K H raw kvs → IsK K H' raw kvs
  | _, _, .nil => .nil
  | _, _, .cons h r => .cons (Is.mono e h) (IsK.mono e r)
end
end
end Q
/-! Quietdoors: judgements over a context of data. -/
namespace Q
open PySem PySem.Spec PyProof.Rows L2

/-! ### what a datum's value is like -/
section
variable {K : PySem.W.Frag} {H H' : Hp} {v : V} {xs : List V} {ds : List D}
theorem Is.ex {d : D} (h : Is K H v d) (e : Ex H H') : Is K H' v d := h.mono e.i
theorem IsL.ex (h : IsL K H xs ds) (e : Ex H H') : IsL K H' xs ds := h.mono e.i
theorem Is.int_v {i : Int} (h : Is K H v (.int i)) : v = .int i := by cases h; rfl
theorem Is.bl_v {b : Bool} (h : Is K H v (.bl b)) : v = .bl b := by cases h; rfl
theorem Is.str_v {s : Str} (h : Is K H v (.str s)) : v = .str s := by cases h; rfl
theorem Is.non_v (h : Is K H v .non) : v = .non := by cases h; rfl
theorem Is.ty_v {n : String} (h : Is K H v (.ty n)) : v = .ty n := by cases h; rfl
theorem Is.tup_v (h : Is K H v (.tup ds)) : ∃ a xs, v = .ref a ∧ H a = some (.tup xs) ∧ IsL K H xs ds := by
  cases h with
  | tup h l => exact ⟨_, _, rfl, h, l⟩
theorem Is.lst_v (h : Is K H v (.lst ds)) : ∃ a o xs, v = .ref a ∧ H a = some (.frz o (.lst xs)) ∧ IsL K H xs ds := by
  cases h with
  | lst h l => exact ⟨_, _, _, rfl, h, l⟩
theorem Is.dct_v {kvs : List (Lt × D)} (h : Is K H v (.dct kvs)) : ∃ a o raw, v = .ref a ∧ H a = some (.frz o (.dT raw)) ∧ IsK K H raw kvs := by
  cases h with
  | dct h l => exact ⟨_, _, _, rfl, h, l⟩
theorem IsL.length : ∀ {xs : List V} {ds : List D}, IsL K H xs ds → xs.length = ds.length
  | _, _, .nil => rfl
  | _, _, .cons _ r => congrArg Nat.succ r.length
theorem IsL.get : ∀ {xs : List V} {ds : List D} {i : Nat} {d : D}, IsL K H xs ds → ds[i]? = some d → ∃ v, xs[i]? = some v ∧ Is K H v d
  | _, _, _, _, .nil, e => by simp at e
  | _, _, 0, _, .cons h _, e => by
    have e1 := Option.some.inj e
    exact ⟨_, rfl, e1 ▸ h⟩
  | _, _, i + 1, d, .cons _ r, e => by
    obtain ⟨v, h1, h2⟩ := IsL.get (i := i) (d := d) r (by simpa using e)
    exact ⟨v, by simpa using h1, h2⟩
theorem IsL.getV : ∀ {xs : List V} {ds : List D} {i : Nat} {v : V}, IsL K H xs ds → xs[i]? = some v → ∃ d, ds[i]? = some d ∧ Is K H v d
  | _, _, _, _, .nil, e => by simp at e
  | _, _, 0, _, .cons h _, e => by
    have e1 := Option.some.inj e
    exact ⟨_, rfl, e1 ▸ h⟩
  | _, _, i + 1, v, .cons _ r, e => by
    obtain ⟨d, h1, h2⟩ := IsL.getV (i := i) (v := v) r (by simpa using e)
    exact ⟨d, by simpa using h1, h2⟩
theorem IsL.app : ∀ {xs ys : List V} {ds es : List D}, IsL K H xs ds → IsL K H ys es → IsL K H (xs ++ ys) (ds ++ es)
  | _, _, _, _, .nil, s => s
  | _, _, _, _, .cons h r, s => .cons h (r.app s)
theorem IsL.one {d : D} (h : Is K H v d) : IsL K H [v] [d] := .cons h .nil
theorem IsL.tk : ∀ {xs : List V} {ds : List D} (n : Nat), IsL K H xs ds → IsL K H (xs.take n) (ds.take n)
  | _, _, 0, _ => .nil
  | _, _, _ + 1, .nil => .nil
  | _, _, n + 1, .cons h r => .cons h (r.tk n)
theorem IsL.dp : ∀ {xs : List V} {ds : List D} (n : Nat), IsL K H xs ds → IsL K H (xs.drop n) (ds.drop n)
  | _, _, 0, r => r
  | _, _, _ + 1, .nil => .nil
  | _, _, n + 1, .cons _ r => r.dp n
theorem IsL.rev : ∀ {xs : List V} {ds : List D}, IsL K H xs ds → IsL K H xs.reverse ds.reverse
  | _, _, .nil => .nil
  | _, _, .cons h r => by
    rw [List.reverse_cons, List.reverse_cons]
    exact r.rev.app (.one h)
theorem IsL.ints : ∀ {xs : List V} {ns : List Int}, IsL K H xs (ns.map .int) → xs = ns.map V.int
  | _, [], .nil => rfl
  | _, n :: ns, .cons h r => by
    rw [h.int_v, r.ints]
    rfl
theorem IsL.bls : ∀ {xs : List V} {ns : List Bool}, IsL K H xs (ns.map .bl) → xs = ns.map V.bl
  | _, [], .nil => rfl
  | _, n :: ns, .cons h r => by
    rw [h.bl_v, r.bls]
    rfl
theorem IsL.of_ints : ∀ {ns : List Int}, IsL K H (ns.map V.int) (ns.map .int)
  | [] => .nil
  | n :: ns => .cons (.int n) IsL.of_ints
theorem IsK.length : ∀ {raw : List (List Key × V)} {kvs : List (Lt × D)}, IsK K H raw kvs → raw.length = kvs.length
  | _, _, .nil => rfl
  | _, _, .cons _ r => congrArg Nat.succ r.length
end

/-! ### contexts -/
inductive En where
  | no | da (d : D) | own (ds : List D) | ownT (kvs : List (Lt × D))
def SatE (K : PySem.W.Frag) (H0 H : Hp) (o : Option V) : En → Prop
  | .no => True
  | .da d => ∃ v, o = some v ∧ Is K H v d
  | .own ds => ∃ l xs, o = some (.ref l) ∧ H0 l = none ∧ H l = some (.lst xs) ∧ IsL K H xs ds
  | .ownT kvs => ∃ l raw, o = some (.ref l) ∧ H0 l = none ∧ H l = some (.dT raw) ∧ IsK K H raw kvs
inductive Sat (K : PySem.W.Frag) (H0 H : Hp) : List En → L2.St → Prop
  | nil : Sat K H0 H [] []
  | cons {e : En} {o : Option V} {Γ : List En} {σ : L2.St} : SatE K H0 H o e → Sat K H0 H Γ σ → Sat K H0 H (e :: Γ) (o :: σ)
section
variable {K : PySem.W.Frag} {H0 H H' : Hp}
theorem SatE.ex {o : Option V} {en : En} (h : SatE K H0 H o en) (e : Ex H H') : SatE K H0 H' o en := by
  cases en with
  | no => exact True.intro
  | da d =>
    obtain ⟨v, h1, h2⟩ := h
    exact ⟨v, h1, h2.ex e⟩
  | own ds =>
    obtain ⟨l, xs, h1, h2, h3, h4⟩ := h
    exact ⟨l, xs, h1, h2, e _ _ h3, h4.ex e⟩
  | ownT ds =>
    obtain ⟨l, xs, h1, h2, h3, h4⟩ := h
    exact ⟨l, xs, h1, h2, e _ _ h3, h4.mono e.i⟩
theorem Sat.ex : ∀ {Γ : List En} {σ : L2.St}, Sat K H0 H Γ σ → Ex H H' → Sat K H0 H' Γ σ
  | _, _, .nil, _ => .nil
  | _, _, .cons h r, e => .cons (h.ex e) (r.ex e)
theorem Sat.get : ∀ {Γ : List En} {σ : L2.St} {i : Nat} {en : En}, Sat K H0 H Γ σ → Γ[i]? = some en → ∃ o, σ[i]? = some o ∧ SatE K H0 H o en
  | _, _, _, _, .nil, e => by simp at e
  | _, _, 0, _, .cons h _, e => by
    have e1 := Option.some.inj e
    exact ⟨_, rfl, e1 ▸ h⟩
  | _, _, i + 1, en, .cons _ r, e => by
    obtain ⟨v, h1, h2⟩ := Sat.get (i := i) (en := en) r (by simpa using e)
    exact ⟨v, by simpa using h1, h2⟩
theorem Sat.put : ∀ {Γ : List En} {σ : L2.St} {i : Nat} {en : En} {o : Option V}, Sat K H0 H Γ σ → SatE K H0 H o en → Sat K H0 H (Γ.set i en) (σ.set i o)
  | _, _, _, _, _, .nil, _ => .nil
  | _, _, 0, _, _, .cons _ r, s => .cons s r
  | _, _, i + 1, _, _, .cons h r, s => .cons h (r.put s)
/-- the entry is forgotten -/
theorem Sat.drop1 : ∀ {Γ : List En} {σ : L2.St} {i : Nat}, Sat K H0 H Γ σ → Sat K H0 H (Γ.set i .no) σ
  | _, _, _, .nil => .nil
  | _, _, 0, .cons _ r => .cons True.intro r
  | _, _, i + 1, .cons h r => .cons h r.drop1
/-- the entry is told anew, the slot stays -/
theorem Sat.tell : ∀ {Γ : List En} {σ : L2.St} {i : Nat} {en : En} {o : Option V}, Sat K H0 H Γ σ → σ[i]? = some o → SatE K H0 H o en → Sat K H0 H (Γ.set i en) σ
  | _, _, _, _, _, .nil, e, _ => by simp at e
  | _, _, 0, _, _, .cons _ r, e, s => by
    have e1 := Option.some.inj e
    exact .cons (e1 ▸ s) r
  | _, _, i + 1, _, _, .cons h r, e, s => .cons h (r.tell (by simpa using e) s)
/-- no list of ours is open -/
def noOwn : List En → Bool
  | [] => true
  | .no :: r => noOwn r
  | .da _ :: r => noOwn r
  | _ :: _ => false
theorem Sat.exi : ∀ {Γ : List En} {σ : L2.St}, noOwn Γ = true → Sat K H0 H Γ σ → ExI H H' → Sat K H0 H' Γ σ
  | _, _, _, .nil, _ => .nil
  | .no :: _, _, n, .cons _ r, e => .cons True.intro (Sat.exi n r e)
  | .da _ :: _, _, n, .cons h r, e => by
    obtain ⟨v, h1, h2⟩ := h
    exact .cons ⟨v, h1, h2.mono e⟩ (Sat.exi n r e)
/-- weaker: entries forgotten -/
inductive Sub : List En → List En → Prop
  | nil : Sub [] []
  | no {e : En} {Γ Γ' : List En} : Sub Γ Γ' → Sub (e :: Γ) (.no :: Γ')
  | eq {e : En} {Γ Γ' : List En} : Sub Γ Γ' → Sub (e :: Γ) (e :: Γ')
theorem Sat.sub : ∀ {Γ Γ' : List En} {σ : L2.St}, Sub Γ Γ' → Sat K H0 H Γ σ → Sat K H0 H Γ' σ
  | _, _, _, .nil, .nil => .nil
  | _, _, _, .no s, .cons _ r => .cons True.intro (Sat.sub s r)
  | _, _, _, .eq s, .cons h r => .cons h (Sat.sub s r)
theorem Sub.refl : ∀ Γ : List En, Sub Γ Γ
  | [] => .nil
  | _ :: r => .eq (Sub.refl r)
end

/-! ### judgements -/
section
variable (K : PySem.W.Frag)
/-- in the context the reading gives the datum -/
def HE (Γ : List En) (te : TE) (d : D) : Prop := ∀ H0 σ H, Sat K H0 H Γ σ → ∀ Q : VK, (∀ v H', Ex H H' → Is K H' v d → Q v H') → te σ H Q
/-- a new list, a new dict, still open -/
def HL (Γ : List En) (te : TE) (ds : List D) : Prop := ∀ H0 σ H, Sat K H0 H Γ σ → ∀ Q : VK, (∀ p xs H', H p = none → Ex H H' → H' p = some (.lst xs) → IsL K H' xs ds → Q (.ref p) H') → te σ H Q
def HD (Γ : List En) (te : TE) (kvs : List (Lt × D)) : Prop := ∀ H0 σ H, Sat K H0 H Γ σ → ∀ Q : VK, (∀ p raw H', H p = none → Ex H H' → H' p = some (.dT raw) → IsK K H' raw kvs → Q (.ref p) H') → te σ H Q
def HT (Γ : List En) (tt : TT) (b : Bool) : Prop := ∀ H0 σ H, Sat K H0 H Γ σ → ∀ Q : Bool → Hp → Prop, (∀ H', Ex H H' → Q b H') → tt σ H Q
def HA (Γ : List En) (ta : TA) (ds : List D) : Prop := ∀ H0 σ H, Sat K H0 H Γ σ → ∀ Q : List V → Hp → Prop, (∀ vs H', Ex H H' → IsL K H' vs ds → Q vs H') → ta σ H Q
def HO (Γ : List En) (to : TO) (o : Option Int) : Prop := ∀ H0 σ H, Sat K H0 H Γ σ → ∀ Q : Option Int → Hp → Prop, (∀ H', Ex H H' → Q o H') → to σ H Q
/-- operations by data: two places, a call -/
def RR (r : R2) (x y z : D) : Prop := ∀ H v w, Is K H v x → Is K H w y → ∀ Q : VK, (∀ u H', Ex H H' → Is K H' u z → Q u H') → r v w H Q
def RC (r : List V → Hp → VK → Prop) (ds : List D) (z : D) : Prop := ∀ H vs, IsL K H vs ds → ∀ Q : VK, (∀ u H', Ex H H' → Is K H' u z → Q u H') → r vs H Q
def RCL (r : List V → Hp → VK → Prop) (ds : List D) (zs : List D) : Prop := ∀ H vs, IsL K H vs ds → ∀ Q : VK, (∀ p xs H', H p = none → Ex H H' → H' p = some (.lst xs) → IsL K H' xs zs → Q (.ref p) H') → r vs H Q
/-- a walk over data: while what never changes stays -/
abbrev WD (J : It) (ds : List D) (H1 : Hp) : Prop := Walk J ds.length (fun H => ExI H1 H) (fun i H x H' => Ex H H' ∧ ∃ d, ds[i]? = some d ∧ Is K H' x d)
def HI (Γ : List En) (ti : TI) (ds : List D) : Prop := ∀ H0 σ H, Sat K H0 H Γ σ → ∀ R : It → Hp → Prop, (∀ J H1, Ex H H1 → WD K J ds H1 → R J H1) → ti σ H R
/-- a target takes a datum; ss: the slots it stores -/
def HG (Γ : List En) (g : TG) (d : D) (Γ' : List En) (ss : List Nat) : Prop := ∀ H0 σ H v, Sat K H0 H Γ σ → Is K H v d → ∀ Q : L2.St → Hp → Prop, (∀ σ', Sat K H0 H Γ' σ' → (∀ vs : List Nat, (∀ i ∈ ss, i ∈ vs) → wipe σ' vs = wipe σ vs) → Q σ' H) → g v σ H Q
def HGs (Γ : List En) (g : TGs) (ds : List D) (Γ' : List En) (ss : List Nat) : Prop := ∀ H0 σ H xs, Sat K H0 H Γ σ → IsL K H xs ds → ∀ Q : L2.St → Hp → Prop, (∀ σ', Sat K H0 H Γ' σ' → (∀ vs : List Nat, (∀ i ∈ ss, i ∈ vs) → wipe σ' vs = wipe σ vs) → Q σ' H) → g xs σ H Q
/-- a statement: it hands back r, or (then chi) goes on in the context behind -/
def HS (Γ : List En) (ts : TS) (r : D) (chi : Prop) (Γ' : List En) : Prop := ∀ H0 σ H (E : Ends), Ex H0 H → Sat K H0 H Γ σ → (∀ v H', Ex H0 H' → Is K H' v r → E.rt v H') → (chi → ∀ σ' H', Ex H0 H' → ExI H H' → Sat K H0 H' Γ' σ' → E.nx σ' H') → ts E σ H
/-- a promise by data -/
def SpR (rel : List D → D → Prop) : Sp := fun vs H Q _ => ∃ ds r, rel ds r ∧ IsL K H vs ds ∧ ∀ v H', Ex H H' → Is K H' v r → Q v H'
end
end Q
/-! Quietdoors: rules of the judgements, by readings. -/
namespace Q
open PySem PySem.Spec PyProof.Rows L2

theorem small_line {n : Nat} (h : n ≤ 100000) : n ≤ sizeLine := Nat.le_trans h (by rw [sizeLine_eq]; decide)
theorem small_lt {n : Nat} (h : n ≤ 100000) : n < sizeLine := Nat.lt_of_le_of_lt h (by rw [sizeLine_eq]; decide)
section
variable {K : PySem.W.Frag} {Γ Γ1 Γ' : List En} {ta tb te : TE} {t u : TT} {x y z d : D}

/-! ### expressions -/
theorem he_var {i : Nat} (h : Γ[i]? = some (.da d)) : HE K Γ (tVar i) d := fun H0 σ H s Q q => by
  obtain ⟨o, h1, v, h2, h3⟩ := s.get h
  subst h2
  exact ⟨v, h1, q v H (Ex.refl H) h3⟩
theorem he_int {i : Int} : HE K Γ (tC (.int i)) (.int i) := fun H0 σ H _ Q q => q _ H (Ex.refl H) (.int i)
theorem he_bl {b : Bool} : HE K Γ (tC (.bl b)) (.bl b) := fun H0 σ H _ Q q => q _ H (Ex.refl H) (.bl b)
theorem he_non : HE K Γ (tC .non) .non := fun H0 σ H _ Q q => q _ H (Ex.refl H) .non
theorem he_str {x : Str} : HE K Γ (tC (.str x)) (.str x) := fun H0 σ H _ Q q => q _ H (Ex.refl H) (.str x)
theorem he_ty {n : String} : HE K Γ (tC (.ty n)) (.ty n) := fun H0 σ H _ Q q => q _ H (Ex.refl H) (.ty n)
theorem HE.to (h : HE K Γ te x) (e : x = y) : HE K Γ te y := e ▸ h
theorem HT.to {a b : Bool} (h : HT K Γ t a) (e : a = b) : HT K Γ t b := e ▸ h
theorem he_op {r : R2} (ha : HE K Γ ta x) (hb : HE K Γ tb y) (hr : RR K r x y z) : HE K Γ (tOp r ta tb) z := fun H0 σ H s Q q =>
  ha H0 σ H s _ fun v H1 e1 i1 => hb H0 σ H1 (s.ex e1) _ fun w H2 e2 i2 => hr H2 v w (i1.ex e2) i2 Q fun u H3 e3 i3 => q u H3 ((e1.trans e2).trans e3) i3
theorem he_un {r : V → Hp → VK → Prop} (ha : HE K Γ ta x) (hr : ∀ H v, Is K H v x → ∀ Q : VK, (∀ u H', Ex H H' → Is K H' u z → Q u H') → r v H Q) : HE K Γ (tUn r ta) z := fun H0 σ H s Q q =>
  ha H0 σ H s _ fun v H1 e1 i1 => hr H1 v i1 Q fun u H2 e2 i2 => q u H2 (e1.trans e2) i2
theorem he_if {b : Bool} (h : HT K Γ t b) (h1 : b = true → HE K Γ ta z) (h2 : b = false → HE K Γ tb z) : HE K Γ (tIf t ta tb) z := fun H0 σ H s Q q => h H0 σ H s _ fun H1 e1 => by
  cases b with
  | true =>
    show ta σ H1 Q
    exact h1 rfl H0 σ H1 (s.ex e1) Q fun v H2 e2 i2 => q v H2 (e1.trans e2) i2
  | false =>
    show tb σ H1 Q
    exact h2 rfl H0 σ H1 (s.ex e1) Q fun v H2 e2 i2 => q v H2 (e1.trans e2) i2
theorem he_and {a b : Bool} (h1 : HE K Γ ta (.bl a)) (h2 : a = true → HE K Γ tb (.bl b)) : HE K Γ (tAndV ta tb) (.bl (a && b)) := fun H0 σ H s Q q => h1 H0 σ H s _ fun v H1 e1 i1 => ⟨a, i1.bl_v, by
  cases a with
  | true =>
    show tb σ H1 Q
    exact h2 rfl H0 σ H1 (s.ex e1) Q fun v H2 e2 i2 => q v H2 (e1.trans e2) i2
  | false =>
    show Q (.bl false) H1
    exact q _ H1 e1 (.bl false)⟩
theorem he_or {a b : Bool} (h1 : HE K Γ ta (.bl a)) (h2 : a = false → HE K Γ tb (.bl b)) : HE K Γ (tOrV ta tb) (.bl (a || b)) := fun H0 σ H s Q q => h1 H0 σ H s _ fun v H1 e1 i1 => ⟨a, i1.bl_v, by
  cases a with
  | true =>
    show Q (.bl true) H1
    exact q _ H1 e1 (.bl true)
  | false =>
    show tb σ H1 Q
    exact h2 rfl H0 σ H1 (s.ex e1) Q fun v H2 e2 i2 => q v H2 (e1.trans e2) i2⟩
theorem he_not {a : Bool} (h1 : HE K Γ ta (.bl a)) : HE K Γ (tNotV ta) (.bl (!a)) := fun H0 σ H s Q q => h1 H0 σ H s _ fun v H1 e1 i1 => ⟨a, i1.bl_v, q _ H1 e1 (.bl _)⟩
theorem he_isN : HE K Γ ta .non → HE K Γ (tIsN ta) (.bl true) := fun h H0 σ H s Q q => h H0 σ H s _ fun v H1 e1 i1 => by
  rw [i1.non_v]
  exact q _ H1 e1 (.bl true)
/-! ### arguments, displays -/
theorem ha_nil : HA K Γ tNil [] := fun H0 σ H _ Q q => q [] H (Ex.refl H) .nil
theorem ha_cons {tr : TA} {ds : List D} (h : HE K Γ ta x) (hr : HA K Γ tr ds) : HA K Γ (tCons ta tr) (x :: ds) := fun H0 σ H s Q q =>
  h H0 σ H s _ fun v H1 e1 i1 => hr H0 σ H1 (s.ex e1) _ fun vs H2 e2 i2 => q _ H2 (e1.trans e2) (.cons (i1.ex e2) i2)
theorem he_tup {tr : TA} {ds : List D} (h : HA K Γ tr ds) (hl : ds.length ≤ 100000) : HE K Γ (tTup tr) (.tup ds) := fun H0 σ H s Q q =>
  h H0 σ H s _ fun vs H1 e1 i1 => ⟨small_line (i1.length ▸ hl), fun p hp => q _ _ (e1.trans (Ex.new hp)) (.tup upd_same (i1.ex (Ex.new hp)))⟩
theorem hl_lst {tr : TA} {ds : List D} (h : HA K Γ tr ds) (hl : ds.length ≤ 100000) : HL K Γ (tLst tr) ds := fun H0 σ H s Q q =>
  h H0 σ H s _ fun vs H1 e1 i1 => ⟨small_line (i1.length ▸ hl), fun p hp => q p vs _ (e1.none hp) (e1.trans (Ex.new hp)) upd_same (i1.ex (Ex.new hp))⟩
theorem HL.to {ds es : List D} (h : HL K Γ te ds) (e : ds = es) : HL K Γ te es := e ▸ h
theorem HA.to {tr : TA} {ds es : List D} (h : HA K Γ tr ds) (e : ds = es) : HA K Γ tr es := e ▸ h
/-- what was just made is locked for ever -/
def tFrz (te : TE) : TE := fun σ H Q => te σ H fun v H1 => ∃ a u, v = .ref a ∧ H1 a = some u ∧ Mut (some u) ∧ ∀ od, Q v (upd H1 a (.frz od u))
theorem he_frz {ds : List D} (h : HL K Γ te ds) : HE K Γ (tFrz te) (.lst ds) := fun H0 σ H s Q q =>
  h H0 σ H s _ fun p xs H1 hp e1 h1 i1 => ⟨p, _, rfl, h1, True.intro, fun od => q _ _ (e1.mut hp) (.lst upd_same (i1.mono (ExI.upd h1 (fun z => z))))⟩
theorem he_frzD {kvs : List (Lt × D)} (h : HD K Γ te kvs) : HE K Γ (tFrz te) (.dct kvs) := fun H0 σ H s Q q =>
  h H0 σ H s _ fun p xs H1 hp e1 h1 i1 => ⟨p, _, rfl, h1, True.intro, fun od => q _ _ (e1.mut hp) (.dct upd_same (i1.mono (ExI.upd h1 (fun z => z))))⟩
/-! ### tests -/
theorem ht_test {b : Bool} (h : HE K Γ te (.bl b)) : HT K Γ (tTest te) b := fun H0 σ H s Q q => h H0 σ H s _ fun v H1 e1 i1 => ⟨b, i1.bl_v, q H1 e1⟩
theorem ht_B {b : Bool} (h : HE K Γ te (.bl b)) : HT K Γ (tB te) b := fun H0 σ H s Q q => h H0 σ H s _ fun v H1 e1 i1 => ⟨b, i1.bl_v, q H1 e1⟩
theorem ht_and {a b : Bool} (h1 : HT K Γ t a) (h2 : a = true → HT K Γ u b) : HT K Γ (tAnd t u) (a && b) := fun H0 σ H s Q q => h1 H0 σ H s _ fun H1 e1 => by
  cases a with
  | true =>
    show u σ H1 Q
    exact h2 rfl H0 σ H1 (s.ex e1) Q fun H2 e2 => q H2 (e1.trans e2)
  | false =>
    show Q false H1
    exact q H1 e1
theorem ht_or {a b : Bool} (h1 : HT K Γ t a) (h2 : a = false → HT K Γ u b) : HT K Γ (tOr t u) (a || b) := fun H0 σ H s Q q => h1 H0 σ H s _ fun H1 e1 => by
  cases a with
  | true =>
    show Q true H1
    exact q H1 e1
  | false =>
    show u σ H1 Q
    exact h2 rfl H0 σ H1 (s.ex e1) Q fun H2 e2 => q H2 (e1.trans e2)
theorem ht_not {a : Bool} (h1 : HT K Γ t a) : HT K Γ (tNot t) (!a) := fun H0 σ H s Q q => h1 H0 σ H s _ fun H1 e1 => q H1 e1
theorem ht_yes : HT K Γ tYes true := fun H0 σ H s Q q => q H (Ex.refl H)
/-! ### calls -/
theorem he_cb {r : List V → Hp → VK → Prop} {tr : TA} {ds : List D} (h : HA K Γ tr ds) (hr : RC K r ds z) : HE K Γ (tCB r tr) z := fun H0 σ H s Q q =>
  h H0 σ H s _ fun vs H1 e1 i1 => hr H1 vs i1 Q fun u H2 e2 i2 => q u H2 (e1.trans e2) i2
theorem hl_cb {r : List V → Hp → VK → Prop} {tr : TA} {ds zs : List D} (h : HA K Γ tr ds) (hr : RCL K r ds zs) : HL K Γ (tCB r tr) zs := fun H0 σ H s Q q =>
  h H0 σ H s _ fun vs H1 e1 i1 => hr H1 vs i1 Q fun p xs H2 hp e2 h2 i2 => q p xs H2 (e1.none hp) (e1.trans e2) h2 i2
theorem he_call {rel : List D → D → Prop} {tr : TA} {ds : List D} {E : XK} (h : HA K Γ tr ds) (hr : rel ds z) : HE K Γ (tCall (SpR K rel) [] E tr) z := fun H0 σ H s Q q =>
  h H0 σ H s _ fun vs H1 e1 i1 => ⟨ds, z, hr, by rw [List.append_nil]; exact i1, fun v H2 e2 i2 => q v H2 (e1.trans e2) i2⟩
/-- the class, the attributes of an own object -/
def clsD : D → Option Str
  | .box _ => some "Box"
  | .row _ => some "Row"
  | .talk _ => some "Talk"
  | _ => none
def notFld (m : Str) : D → Bool
  | .box _ => !(m == ("kept_parts" : Str))
  | .row _ => !(m == ("kept_boxes" : Str)) && !(m == ("kept_links" : Str))
  | .talk _ => !(m == ("kept_out" : Str)) && !(m == ("kept_back" : Str)) && !(m == ("kept_losses" : Str))
  | _ => false
theorem lookup_skip {m f : Str} {v : V} {r : List (Str × V)} (h : (!(m == f)) = true) : List.lookup m ((f, v) :: r) = List.lookup m r := by
  rw [List.lookup_cons]
  cases q : (m == f) with
  | true =>
    rw [q] at h
    cases h
  | false => rfl
theorem Is.ins {H : Hp} {v : V} {c m : Str} (h : Is K H v d) (hc : clsD d = some c) : ∃ a dx fs, v = .ref a ∧ H a = some (.ins (He.ga K c) dx fs) ∧ (notFld m d = true → fs.lookup m = none) := by
  cases h with
  | box h p =>
    cases hc
    exact ⟨_, _, _, rfl, h, fun n => by rw [lookup_skip n]; rfl⟩
  | row h b l =>
    cases hc
    refine ⟨_, _, _, rfl, h, fun n => ?_⟩
    obtain ⟨n1, n2⟩ := Bool.and_eq_true_iff.mp n
    rw [lookup_skip n1, lookup_skip n2]
    rfl
  | talk h b l =>
    cases hc
    refine ⟨_, _, _, rfl, h, fun n => ?_⟩
    obtain ⟨n1, n3⟩ := Bool.and_eq_true_iff.mp n
    obtain ⟨n1, n2⟩ := Bool.and_eq_true_iff.mp n1
    rw [lookup_skip n1, lookup_skip n2, lookup_skip n3]
    rfl
  | _ => cases hc
theorem he_meth {c m : Str} {rel : List D → D → Prop} {tr : TA} {ds : List D} {E : XK} (ho : HE K Γ te d) (hc : clsD d = some c) (hm : notFld m d = true) (h : HA K Γ tr ds) (hr : rel (d :: ds) z) : HE K Γ (tMeth (He.ga K c) m (SpR K rel) [] E te tr) z := fun H0 σ H s Q q =>
  ho H0 σ H s _ fun v H1 e1 i1 => by
    obtain ⟨a, dx, fs, ev, ha, hf⟩ := i1.ins (m := m) hc
    exact ⟨a, dx, fs, ev, ha, hf hm, h H0 σ H1 (s.ex e1) _ fun vs H2 e2 i2 => ⟨d :: ds, z, hr, .cons (i1.ex e2) (by rw [List.append_nil]; exact i2), fun w H3 e3 i3 => q w H3 ((e1.trans e2).trans e3) i3⟩⟩
theorem he_prop {c : Str} {rel : List D → D → Prop} {E : XK} (ho : HE K Γ te d) (hc : clsD d = some c) (hr : rel [d] z) : HE K Γ (tProp (He.ga K c) (SpR K rel) [] E te) z := fun H0 σ H s Q q =>
  ho H0 σ H s _ fun v H1 e1 i1 => by
    obtain ⟨a, dx, fs, ev, ha, hf⟩ := i1.ins (m := "low") hc
    exact ⟨a, dx, fs, ev, ha, [d], z, hr, .cons (ev ▸ i1) .nil, fun w H2 e2 i2 => q w H2 (e1.trans e2) i2⟩
/-! ### slices -/
theorem ho_none : HO K Γ tNoPart none := fun H0 σ H _ Q q => q H (Ex.refl H)
theorem ho_some {i : Int} (h : HE K Γ te (.int i)) : HO K Γ (tPart te) (some i) := fun H0 σ H s Q q => h H0 σ H s _ fun v H1 e1 i1 => ⟨i, i1.int_v, q H1 e1⟩
def cutD {α : Type} (ds : List α) (lo hi : Option Int) : List α := (ds.drop (HT.sIx ds.length 0 lo)).take (HT.sIx ds.length ds.length hi - HT.sIx ds.length 0 lo)
theorem cut_is {H : Hp} {xs : List V} {ds : List D} {lo hi : Option Int} (h : IsL K H xs ds) : IsL K H (cutV xs lo hi) (cutD ds lo hi) := by
  unfold cutV cutD
  rw [h.length]
  exact (h.dp _).tk _
theorem he_slT {tl th : TO} {ds : List D} {lo hi : Option Int} (h : HE K Γ te (.tup ds)) (h1 : HO K Γ tl lo) (h2 : HO K Γ th hi) : HE K Γ (tSl (rSlA K) te tl th) (.tup (cutD ds lo hi)) := fun H0 σ H s Q q =>
  h H0 σ H s _ fun v H1 e1 i1 => h1 H0 σ H1 (s.ex e1) _ fun H2 e2 => h2 H0 σ H2 ((s.ex e1).ex e2) _ fun H3 e3 => by
    obtain ⟨a, xs, ev, ha, il⟩ := (i1.ex (e2.trans e3)).tup_v
    refine ⟨a, xs, ev, SqT.of ha, fun w => ?_, fun _ p hp => ?_⟩
    · refine q _ H3 ((e1.trans e2).trans e3) (.tup ha ?_)
      have e : cutV xs lo hi = xs := by
        unfold cutV
        rw [w.1, w.2]
        simp
      rw [← e]
      exact cut_is il
    · exact q _ _ (((e1.trans e2).trans e3).trans (Ex.new hp)) (.tup upd_same (cut_is (il.ex (Ex.new hp))))
theorem hl_slL {tl th : TO} {ds : List D} {lo hi : Option Int} (h : HE K Γ te (.lst ds)) (h1 : HO K Γ tl lo) (h2 : HO K Γ th hi) : HL K Γ (tSl (rSlL K) te tl th) (cutD ds lo hi) := fun H0 σ H s Q q =>
  h H0 σ H s _ fun v H1 e1 i1 => h1 H0 σ H1 (s.ex e1) _ fun H2 e2 => h2 H0 σ H2 ((s.ex e1).ex e2) _ fun H3 e3 => by
    obtain ⟨a, o, xs, ev, ha, il⟩ := (i1.ex (e2.trans e3)).lst_v
    exact ⟨a, xs, ev, .inl (.inr ⟨o, ha⟩), fun p hp => q p _ _ (((e1.trans e2).trans e3).none hp) (((e1.trans e2).trans e3).trans (Ex.new hp)) upd_same (cut_is (il.ex (Ex.new hp)))⟩
/-! ### operations by data -/
theorem rr_I0 {g : Int → Int → V} {i j : Int} (hg : ∀ H, Is K H (g i j) z) : RR K (rI0 g) (.int i) (.int j) z := fun H v w a b Q q => ⟨i, j, a.int_v, b.int_v, q _ H (Ex.refl H) (hg H)⟩
theorem rr_I {C : Int → Int → Prop} {g : Int → Int → V} {i j : Int} (hc : C i j) (hg : ∀ H, Is K H (g i j) z) : RR K (rI C g) (.int i) (.int j) z := fun H v w a b Q q => ⟨i, j, a.int_v, b.int_v, hc, q _ H (Ex.refl H) (hg H)⟩
theorem rr_eqI {i j : Int} : RR K rEq (.int i) (.int j) (.bl (decide (i = j))) := fun H v w a b Q q => by
  rw [a.int_v, b.int_v]
  refine ⟨rfl, q _ H (Ex.refl H) ?_⟩
  have e : decide (V.int i = V.int j) = decide (i = j) := decide_eq_decide.mpr ⟨fun z => V.int.inj z, fun z => by rw [z]⟩
  rw [e]
  exact .bl _
theorem rr_neI {i j : Int} : RR K rNe (.int i) (.int j) (.bl (!decide (i = j))) := fun H v w a b Q q => by
  rw [a.int_v, b.int_v]
  refine ⟨rfl, q _ H (Ex.refl H) ?_⟩
  have e : decide (V.int i = V.int j) = decide (i = j) := decide_eq_decide.mpr ⟨fun z => V.int.inj z, fun z => by rw [z]⟩
  rw [e]
  exact .bl _
theorem rr_eqS {i j : Str} : RR K rEq (.str i) (.str j) (.bl (decide (i = j))) := fun H v w a b Q q => by
  rw [a.str_v, b.str_v]
  refine ⟨rfl, q _ H (Ex.refl H) ?_⟩
  have e : decide (V.str i = V.str j) = decide (i = j) := decide_eq_decide.mpr ⟨fun z => V.str.inj z, fun z => by rw [z]⟩
  rw [e]
  exact .bl _
theorem rr_neS {i j : Str} : RR K rNe (.str i) (.str j) (.bl (!decide (i = j))) := fun H v w a b Q q => by
  rw [a.str_v, b.str_v]
  refine ⟨rfl, q _ H (Ex.refl H) ?_⟩
  have e : decide (V.str i = V.str j) = decide (i = j) := decide_eq_decide.mpr ⟨fun z => V.str.inj z, fun z => by rw [z]⟩
  rw [e]
  exact .bl _
theorem atI_is {H : Hp} {xs : List V} {ds : List D} {i : Int} {d : D} (h : IsL K H xs ds) (e : atI ds i = some d) : ∃ v, atI xs i = some v ∧ Is K H v d := by
  unfold atI at e ⊢
  rw [h.length]
  cases q : ixN ds.length i with
  | none =>
    rw [q] at e
    cases e
  | some j =>
    rw [q] at e
    exact h.get e
theorem rr_ixT {ds : List D} {i : Int} (e : atI ds i = some d) : RR K (rIxT K) (.tup ds) (.int i) d := fun H v w a b Q q => by
  obtain ⟨p, xs, ev, hp, il⟩ := a.tup_v
  obtain ⟨u, h1, h2⟩ := atI_is il e
  exact ⟨p, xs, i, u, ev, b.int_v, SqT.of hp, h1, q u H (Ex.refl H) h2⟩
theorem rr_ixL {ds : List D} {i : Int} (e : atI ds i = some d) : RR K (rIxL K) (.lst ds) (.int i) d := fun H v w a b Q q => by
  obtain ⟨p, o, xs, ev, hp, il⟩ := a.lst_v
  obtain ⟨u, h1, h2⟩ := atI_is il e
  exact ⟨p, xs, i, u, ev, b.int_v, .inl (.inr ⟨o, hp⟩), h1, q u H (Ex.refl H) h2⟩
theorem at0 {α : Type} {a : α} {r : List α} : atI (a :: r) 0 = some a := atI_nat (j := 0) rfl
theorem at1 {α : Type} {a b : α} {r : List α} : atI (a :: b :: r) 1 = some b := atI_nat (j := 1) rfl
theorem at2 {α : Type} {a b c : α} {r : List α} : atI (a :: b :: c :: r) 2 = some c := atI_nat (j := 2) rfl
theorem at3 {α : Type} {a b c d : α} {r : List α} : atI (a :: b :: c :: d :: r) 3 = some d := atI_nat (j := 3) rfl
theorem atN {α : Type} {l : List α} {i : Int} {j : Nat} {a : α} (hi : i = (j : Int)) (h : l[j]? = some a) : atI l i = some a := by
  rw [hi]
  exact atI_nat h
/-! ### targets -/
theorem wipe_set {σ : L2.St} {i : Nat} {o : Option V} : ∀ {vs : List Nat}, i ∈ vs → wipe (σ.set i o) vs = wipe σ vs
  | [], h => by cases h
  | v :: vs, h => by
    unfold wipe
    by_cases hi : i ∈ vs
    · rw [wipe_set hi]
    · have e : v = i := by
        rcases List.mem_cons.mp h with e | e
        · exact e.symm
        · exact absurd e hi
      subst e
      have hc : ∀ (vs : List Nat), v ∉ vs → wipe (σ.set v o) vs = (wipe σ vs).set v o := fun vs => by
        induction vs with
        | nil => intro _; rfl
        | cons w ws ih =>
          intro hn
          have h1 : w ≠ v := fun q => hn (by rw [q]; exact List.mem_cons_self)
          unfold wipe
          rw [ih fun q => hn (List.mem_cons_of_mem _ q), List.set_comm _ _ h1]
      rw [hc vs hi, List.set_set]
theorem hg_name {i : Nat} : HG K Γ (gName i) d (Γ.set i (.da d)) [i] := fun H0 σ H v s h Q q => q _ (s.put ⟨v, rfl, h⟩) fun vs hv => wipe_set (hv i List.mem_cons_self)
theorem hgs_nil : HGs K Γ gNil [] Γ [] := fun H0 σ H xs s h Q q => by
  cases h
  exact ⟨rfl, q σ s fun _ _ => rfl⟩
theorem hgs_cons {g : TG} {gs : TGs} {ds : List D} {ss ss' : List Nat} (h1 : HG K Γ g d Γ1 ss) (h2 : HGs K Γ1 gs ds Γ' ss') : HGs K Γ (gCons g gs) (d :: ds) Γ' (ss ++ ss') := fun H0 σ H xs s h Q q => by
  cases h with
  | cons hv hr =>
    refine ⟨_, _, rfl, h1 H0 σ H _ s hv _ fun σ1 s1 w1 => ?_⟩
    exact h2 H0 σ1 H _ s1 hr _ fun σ2 s2 w2 => q σ2 s2 fun vs hv => (w2 vs fun i hi => hv i (List.mem_append_right _ hi)).trans (w1 vs fun i hi => hv i (List.mem_append_left _ hi))
theorem hg_tup {gs : TGs} {ds : List D} {n : Nat} {ss : List Nat} (h : HGs K Γ gs ds Γ' ss) (hn : ds.length = n) : HG K Γ (gTup K n gs) (.tup ds) Γ' ss := fun H0 σ H v s hv Q q => by
  obtain ⟨a, xs, ev, ha, il⟩ := hv.tup_v
  exact ⟨a, xs, ev, SqT.of ha, il.length.trans hn, h H0 σ H xs s il _ q⟩
theorem hg_unl {gs : TGs} {ds : List D} {n : Nat} {ss : List Nat} (h : HGs K Γ gs ds Γ' ss) (hn : ds.length = n) : HG K Γ (gUnl K n gs) (.lst ds) Γ' ss := fun H0 σ H v s hv Q q => by
  obtain ⟨a, o, xs, ev, ha, il⟩ := hv.lst_v
  exact ⟨a, xs, ev, .inl (.inr ⟨o, ha⟩), il.length.trans hn, h H0 σ H xs s il _ q⟩
/-! ### what is walked -/
theorem hi_tup {ds : List D} (h : HE K Γ te (.tup ds)) : HI K Γ (iTup K te) ds := fun H0 σ H s R q => h H0 σ H s _ fun v H1 e1 i1 => by
  obtain ⟨a, xs, ev, ha, il⟩ := i1.tup_v
  refine ⟨a, ev, ⟨xs, SqT.of ha⟩, q _ H1 e1 ?_⟩
  have w := walk_tup (K := K) (a := a) (xs := xs)
  rw [il.length] at w
  refine w.mono (fun H2 g => SqT.of (g _ _ ha im_tup)) fun i H2 x H3 _ g y => ?_
  obtain ⟨e, hx⟩ := y
  subst e
  obtain ⟨d, hd, hi⟩ := (il.mono g).getV hx
  exact ⟨Ex.refl _, d, hd, hi⟩
theorem hi_list {ds : List D} (h : HE K Γ te (.lst ds)) : HI K Γ (iList K te) ds := fun H0 σ H s R q => h H0 σ H s _ fun v H1 e1 i1 => by
  obtain ⟨a, o, xs, ev, ha, il⟩ := i1.lst_v
  refine ⟨a, ev, ⟨xs, .inl (.inr ⟨o, ha⟩)⟩, q _ H1 e1 ?_⟩
  have w := walk_list (K := K) (a := a) (xs := xs)
  rw [il.length] at w
  refine w.mono (fun H2 g => .inl (.inr ⟨o, g _ _ ha im_frz⟩)) fun i H2 x H3 _ g y => ?_
  obtain ⟨e, hx⟩ := y
  subst e
  obtain ⟨d, hd, hi⟩ := (il.mono g).getV hx
  exact ⟨Ex.refl _, d, hd, hi⟩
theorem wd_range {lo : Int} {n : Nat} {H1 : Hp} : WD K (Itr lo n) ((List.range n).map fun i => .int (lo + (i : Nat))) H1 := by
  have w := walk_range (lo := lo) (n := n)
  have el : ((List.range n).map fun i => D.int (lo + (i : Nat))).length = n := by simp
  unfold WD
  rw [el]
  refine w.mono (fun _ _ => True.intro) fun i H2 x H3 hi g y => ?_
  obtain ⟨e, hx⟩ := y
  subst e hx
  exact ⟨Ex.refl _, .int (lo + (i : Nat)), by simp [hi], .int _⟩
theorem hi_range1 {tr : TA} {n : Int} (h : HA K Γ tr [.int n]) (h0 : 0 ≤ n) (hn : n ≤ 100000) : HI K Γ (iRng1 tr) ((List.range n.toNat).map fun i => .int ((i : Nat) : Int)) := fun H0 σ H s R q => h H0 σ H s _ fun vs H1 e1 i1 => by
  cases i1 with
  | cons hv hr =>
    cases hr
    refine ⟨n, by rw [hv.int_v], by omega, by omega, q _ H1 e1 ?_⟩
    have e : ((List.range n.toNat).map fun i => D.int ((i : Nat) : Int)) = (List.range n.toNat).map fun i => D.int (0 + (i : Nat)) := by simp
    rw [e]
    exact wd_range
theorem keyV {l : Lt} : (ltK l).map kV = [.str (wd l.o), .int (l.k : Int)] := rfl
theorem Is.lt {H : Hp} {a : Addr} {l : Lt} (h : H a = some (.tup ((ltK l).map kV))) : Is K H (.ref a) (ltD l) := .tup h (.cons (.str _) (.cons (.int _) .nil))
theorem IsK.getV : ∀ {H : Hp} {raw : List (List Key × V)} {kvs : List (Lt × D)} {i : Nat} {k : List Key} {v : V}, IsK K H raw kvs → raw[i]? = some (k, v) → ∃ l d, kvs[i]? = some (l, d) ∧ k = ltK l ∧ Is K H v d
  | _, _, _, _, _, _, .nil, e => by simp at e
  | _, _, _, 0, _, _, .cons h _, e => by
    have e1 := Option.some.inj e
    injection e1 with e2 e3
    exact ⟨_, _, rfl, e2.symm, e3 ▸ h⟩
  | _, _, _, i + 1, k, v, .cons _ r, e => by
    obtain ⟨l, d, h1, h2⟩ := IsK.getV (i := i) (k := k) (v := v) r (by simpa using e)
    exact ⟨l, d, by simpa using h1, h2⟩
theorem hi_keys {kvs : List (Lt × D)} (h : HE K Γ te (.dct kvs)) : HI K Γ (iKeys te) (kvs.map fun p => ltD p.1) := fun H0 σ H s R q => h H0 σ H s _ fun v H1 e1 i1 => by
  obtain ⟨a, o, raw, ev, ha, ik⟩ := i1.dct_v
  refine ⟨a, o, ev, .inr ⟨raw, ha, q _ H1 e1 ?_⟩⟩
  have w := walk_keysT (d := a) (o := o) (kvs := raw)
  have el : (kvs.map fun p => ltD p.1).length = raw.length := by rw [List.length_map, ik.length]
  unfold WD
  rw [el]
  refine w.mono (fun H2 g => g _ _ ha im_frz) fun i H2 x H3 _ g y => ?_
  obtain ⟨e, k, v2, p, hk, hx, hp⟩ := y
  subst e hx
  obtain ⟨l, d, hl, ek, _⟩ := ik.getV hk
  subst ek
  exact ⟨Ex.refl _, ltD l, by rw [List.getElem?_map, hl]; rfl, Is.lt hp⟩
end
end Q
/-! Quietdoors: comprehensions, statements, loops. -/
namespace Q
open PySem PySem.Spec PyProof.Rows L2
section
variable {K : PySem.W.Frag} {Γ Γ1 Γ2 Γ' : List En} {ta tb te : TE} {t u : TT} {x y z d r : D} {chi chi' : Prop} {ts tu tw : TS}

def wipeG (Γ : List En) : List Nat → List En
  | [] => Γ
  | v :: vs => (wipeG Γ vs).set v .no
theorem Sat.wipe {H0 H : Hp} {σ : L2.St} (s : Sat K H0 H Γ σ) : ∀ vs : List Nat, Sat K H0 H (wipeG Γ vs) (L2.wipe σ vs)
  | [] => s
  | v :: vs => (s.wipe vs).put (en := .no) True.intro
/-- [te for x in xs if tt] -/
theorem hl_lc {α : Type} (xs : List α) (enc : α → D) (f : α → Bool) (v : α → D) {wi : TI} {g : TG} {tt : TT} {vs : List Nat} (hi : HI K Γ wi (xs.map enc)) (hz : xs.length ≤ 100000)
    (hb : ∀ a ∈ xs, ∃ (G1 : List En) (ss : List Nat), HG K (wipeG Γ vs) g (enc a) G1 ss ∧ (∀ i ∈ ss, i ∈ vs) ∧ HT K G1 tt (f a) ∧ (f a = true → HE K G1 te (v a))) :
    HL K Γ (tLc wi g tt te vs) ((xs.filter f).map v) := fun H0 σ H s Q q => hi H0 σ H s _ fun J H1 e1 w => fun Dl hD => by
  have given : ∀ i a, xs[i]? = some a → ((xs.take (i + 1)).filter f).map v = ((xs.take i).filter f).map v ++ (if f a = true then [v a] else []) := fun i a h => by
    have hi : i < xs.length := (List.getElem?_eq_some_iff.mp h).1
    have e : xs[i] = a := (List.getElem?_eq_some_iff.mp h).2
    rw [List.take_succ_eq_append_getElem hi, List.filter_append, List.map_append, e]
    by_cases hf : f a = true
    · rw [if_pos hf, List.filter_cons, if_pos hf]
      rfl
    · rw [if_neg hf, List.filter_cons, if_neg hf]
      rfl
  have el : (xs.map enc).length = xs.length := List.length_map _
  refine lc_it w (Qd := fun H' => Q (.ref Dl) H') (fun i H2 => Ex H1 H2 ∧ ∃ acc, H2 Dl = some (.lst acc) ∧ IsL K H2 acc (((xs.take i).filter f).map v)) ⟨Ex.new hD, [], upd_same, by simpa using IsL.nil⟩ (fun i H2 _ p => p.1.i) (fun i a H2 H3 hi p y => ?_) fun H2 p => ?_
  · obtain ⟨p1, acc, p2, p3⟩ := p
    obtain ⟨e3, d, hd, hid⟩ := y
    rw [List.getElem?_map] at hd
    cases hx : xs[i]? with
    | none =>
      rw [hx] at hd
      cases hd
    | some b =>
      rw [hx] at hd
      have ed : enc b = d := Option.some.inj hd
      subst ed
      obtain ⟨G1, ss, hg, hss, ht, he⟩ := hb b (List.mem_of_getElem? hx)
      have s3 : Sat K H0 H3 (wipeG Γ vs) (L2.wipe σ vs) := ((s.ex e1).ex (p1.trans e3)).wipe vs
      refine hg H0 _ H3 a s3 hid _ fun σ2 s2 w2 => ⟨?_, ?_⟩
      · rw [w2 vs hss]
        exact L2_wipe_wipe σ vs
      · refine ht H0 σ2 H3 s2 _ fun H4 e4 => ?_
        have hg2 := given i b hx
        cases hf : f b with
        | true =>
          rw [hf] at hg2
          show te σ2 H4 _
          refine he hf H0 σ2 H4 (s2.ex e4) _ fun u H5 e5 iu => ⟨acc, e5 _ _ (e4 _ _ (e3 _ _ p2)), ?_, ?_, acc ++ [u], upd_same, ?_⟩
          · have h1 := p3.length
            have h2 : ((((xs.take i).filter f).map v)).length ≤ xs.length := by
              rw [List.length_map]
              exact Nat.le_trans (List.length_filter_le _ _) (by rw [List.length_take]; exact Nat.min_le_right _ _)
            exact small_lt (by omega)
          · exact (p1.trans (e3.trans (e4.trans e5))).mut hD
          · have h5 : H5 Dl = some (.lst acc) := e5 _ _ (e4 _ _ (e3 _ _ p2))
            rw [hg2]
            exact ((p3.ex (e3.trans (e4.trans e5))).app (.one iu)).mono (ExI.upd h5 fun z => z)
        | false =>
          rw [hf] at hg2
          show Ex H1 H4 ∧ _
          refine ⟨p1.trans (e3.trans e4), acc, e4 _ _ (e3 _ _ p2), ?_⟩
          rw [hg2]
          simpa using p3.ex (e3.trans e4)
  · obtain ⟨p1, acc, p2, p3⟩ := p
    rw [el, List.take_length] at p3
    exact q Dl acc H2 (e1.none hD) (e1.trans p1) p2 p3
where
  L2_wipe_wipe (σ : L2.St) : ∀ vs : List Nat, L2.wipe (L2.wipe σ vs) vs = L2.wipe σ vs := fun vs => by
    have h : ∀ (us ws : List Nat) (σ : L2.St), (∀ i ∈ us, i ∈ ws) → L2.wipe (L2.wipe σ us) ws = L2.wipe σ ws := fun us => by
      induction us with
      | nil => intro ws σ _; rfl
      | cons w us ih =>
        intro ws σ hs
        show L2.wipe ((L2.wipe σ us).set w none) ws = L2.wipe σ ws
        rw [wipe_set (hs w List.mem_cons_self)]
        exact ih ws σ fun i hi => hs i (List.mem_cons_of_mem _ hi)
    exact h vs vs σ fun _ h => h
/-- .. without an if -/
theorem hl_lcY {α : Type} (xs : List α) (enc : α → D) (v : α → D) {wi : TI} {g : TG} {vs : List Nat} (hi : HI K Γ wi (xs.map enc)) (hz : xs.length ≤ 100000)
    (hb : ∀ a ∈ xs, ∃ (G1 : List En) (ss : List Nat), HG K (wipeG Γ vs) g (enc a) G1 ss ∧ (∀ i ∈ ss, i ∈ vs) ∧ HE K G1 te (v a)) : HL K Γ (tLc wi g tYes te vs) (xs.map v) := by
  have h := hl_lc (te := te) xs enc (fun _ => true) v (tt := tYes) hi hz fun a ha => by
    obtain ⟨G1, ss, h1, h2, h3⟩ := hb a ha
    exact ⟨G1, ss, h1, h2, ht_yes, fun _ => h3⟩
  rw [List.filter_eq_self.mpr fun _ _ => rfl] at h
  exact h

/-! ### statements -/
theorem hs_set {i : Nat} (h : HE K Γ te d) : HS K Γ (tAsg te (gName i)) r True (Γ.set i (.da d)) := fun H0 σ H E e0 s hr hn =>
  h H0 σ H s _ fun v H1 e1 i1 => hn True.intro _ H1 (e0.trans e1) e1.i ((s.ex e1).put ⟨v, rfl, i1⟩)
theorem hs_setG {g : TG} {ss : List Nat} (h : HE K Γ te d) (hg : HG K Γ g d Γ' ss) : HS K Γ (tAsg te g) r True Γ' := fun H0 σ H E e0 s hr hn =>
  h H0 σ H s _ fun v H1 e1 i1 => hg H0 σ H1 v (s.ex e1) i1 _ fun σ2 s2 _ => hn True.intro σ2 H1 (e0.trans e1) e1.i s2
theorem hs_setL {i : Nat} {ds : List D} (h : HL K Γ te ds) : HS K Γ (tAsg te (gName i)) r True (Γ.set i (.own ds)) := fun H0 σ H E e0 s hr hn =>
  h H0 σ H s _ fun p xs H1 hp e1 h1 i1 => hn True.intro _ H1 (e0.trans e1) e1.i ((s.ex e1).put ⟨p, xs, rfl, e0.none hp, h1, i1⟩)
theorem hs_setD {i : Nat} {ds : List (Lt × D)} (h : HD K Γ te ds) : HS K Γ (tAsg te (gName i)) r True (Γ.set i (.ownT ds)) := fun H0 σ H E e0 s hr hn =>
  h H0 σ H s _ fun p xs H1 hp e1 h1 i1 => hn True.intro _ H1 (e0.trans e1) e1.i ((s.ex e1).put ⟨p, xs, rfl, e0.none hp, h1, i1⟩)
theorem hs_par {i j : Nat} (h1 : HE K Γ ta x) (h2 : HE K Γ tb y) : HS K Γ (tPar i j (tCons ta (tCons tb tNil))) r True ((Γ.set i (.da x)).set j (.da y)) := fun H0 σ H E e0 s hr hn =>
  h1 H0 σ H s _ fun v H1 e1 i1 => h2 H0 σ H1 (s.ex e1) _ fun w H2 e2 i2 => ⟨v, w, rfl, hn True.intro _ H2 (e0.trans (e1.trans e2)) (e1.trans e2).i (((s.ex (e1.trans e2)).put (en := .da x) ⟨v, rfl, i1.ex e2⟩).put (en := .da y) ⟨w, rfl, i2⟩)⟩
theorem hs_parDL {i j : Nat} {ds : List D} (h1 : HE K Γ ta x) (h2 : HL K Γ tb ds) : HS K Γ (tPar i j (tCons ta (tCons tb tNil))) r True ((Γ.set i (.da x)).set j (.own ds)) := fun H0 σ H E e0 s hr hn =>
  h1 H0 σ H s _ fun v H1 e1 i1 => h2 H0 σ H1 (s.ex e1) _ fun p xs H2 hp e2 h2 i2 => ⟨v, _, rfl, hn True.intro _ H2 (e0.trans (e1.trans e2)) (e1.trans e2).i (((s.ex (e1.trans e2)).put (en := .da x) ⟨v, rfl, i1.ex e2⟩).put (en := .own ds) ⟨p, xs, rfl, (e0.trans e1).none hp, h2, i2⟩)⟩
theorem hs_parLD {i j : Nat} {ds : List D} (h1 : HL K Γ ta ds) (h2 : HE K Γ tb y) : HS K Γ (tPar i j (tCons ta (tCons tb tNil))) r True ((Γ.set i (.own ds)).set j (.da y)) := fun H0 σ H E e0 s hr hn =>
  h1 H0 σ H s _ fun p xs H1 hp e1 h1 i1 => h2 H0 σ H1 (s.ex e1) _ fun w H2 e2 i2 => ⟨_, w, rfl, hn True.intro _ H2 (e0.trans (e1.trans e2)) (e1.trans e2).i (((s.ex (e1.trans e2)).put (en := .own ds) ⟨p, xs, rfl, e0.none hp, e2 _ _ h1, i1.ex e2⟩).put (en := .da y) ⟨w, rfl, i2⟩)⟩
theorem hs_ret (h : HE K Γ te r) : HS K Γ (tRet te) r chi Γ' := fun H0 σ H E e0 s hr hn => h H0 σ H s _ fun v H1 e1 i1 => hr v H1 (e0.trans e1) i1
theorem hs_retN (e : r = .non) : HS K Γ tRetN r chi Γ' := fun H0 σ H E e0 s hr hn => hr _ H e0 (e ▸ .non)
theorem hs_drop (h : HE K Γ te d) : HS K Γ (tDrop te) r True Γ := fun H0 σ H E e0 s hr hn => h H0 σ H s _ fun v H1 e1 i1 => hn True.intro σ H1 (e0.trans e1) e1.i (s.ex e1)
theorem hs_seq (h1 : HS K Γ ts r chi Γ1) (h2 : chi → HS K Γ1 tu r chi' Γ') : HS K Γ (tSeq ts tu) r chi' Γ' := fun H0 σ H E e0 s hr hn =>
  h1 H0 σ H { E with nx := tu E } e0 s hr fun c σ1 H1 e1 x1 s1 => h2 c H0 σ1 H1 E e1 s1 hr fun c2 σ2 H2 e2 x2 s2 => hn c2 σ2 H2 e2 (x1.trans x2) s2
theorem hs_next (c : chi) : HS K Γ tNext r chi Γ := fun H0 σ H E e0 s hr hn => hn c σ H e0 (ExI.refl H) s
theorem HS.weak (h : HS K Γ ts r chi Γ1) (hs : chi → chi' ∧ Sub Γ1 Γ') : HS K Γ ts r chi' Γ' := fun H0 σ H E e0 s hr hn => h H0 σ H E e0 s hr fun c σ1 H1 e1 x1 s1 => hn (hs c).1 σ1 H1 e1 x1 (Sat.sub (hs c).2 s1)
theorem HS.never (h : HS K Γ ts r False Γ1) : HS K Γ ts r chi Γ' := h.weak fun f => f.elim
theorem hs_if {b : Bool} (h : HT K Γ t b) (h1 : b = true → HS K Γ tu r chi Γ') (h2 : b = false → HS K Γ tw r chi Γ') : HS K Γ (tIfS t tu tw) r chi Γ' := fun H0 σ H E e0 s hr hn => h H0 σ H s _ fun H1 e1 => by
  cases b with
  | true =>
    show tu E σ H1
    exact h1 rfl H0 σ H1 E (e0.trans e1) (s.ex e1) hr fun c σ2 H2 e2 x2 s2 => hn c σ2 H2 e2 (e1.i.trans x2) s2
  | false =>
    show tw E σ H1
    exact h2 rfl H0 σ H1 E (e0.trans e1) (s.ex e1) hr fun c σ2 H2 e2 x2 s2 => hn c σ2 H2 e2 (e1.i.trans x2) s2
/-- if t: (leaves), behind it t is false -/
theorem hs_when {b : Bool} (h : HT K Γ t b) (h1 : b = true → HS K Γ tu r False Γ) : HS K Γ (tIfS t tu tNext) r (b = false) Γ := hs_if h (fun e => (h1 e).never) fun e => hs_next e
/-- xs.append(e) -/
theorem hs_app {i : Nat} {ds : List D} (hi : Γ[i]? = some (.own ds)) (hz : ds.length < 100000) (hn : noOwn (Γ.set i .no) = true) (h : HE K Γ te d) : HS K Γ (tDrop (tBM K "list" rAppend (tVar i) (tCons te tNil))) r True (Γ.set i (.own (ds ++ [d]))) := fun H0 σ H E e0 s hr hx => by
  obtain ⟨o, ho, l, xs, eo, hl0, hl, il⟩ := s.get hi
  subst eo
  refine ⟨.ref l, ho, .inl ⟨rfl, xs, SqL.of hl⟩, ?_⟩
  refine h H0 σ H s _ fun v H1 e1 i1 => ⟨l, xs, v, rfl, rfl, e1 _ _ hl, small_lt (by rw [il.length]; omega), ?_⟩
  have hl1 := e1 _ _ hl
  have x2 : ExI H1 (upd H1 l (.lst (xs ++ [v]))) := ExI.upd hl1 fun z => z
  refine hx True.intro σ _ ((e0.trans e1).mut hl0) (e1.i.trans x2) ?_
  have s2 : Sat K H0 (upd H1 l (.lst (xs ++ [v]))) (Γ.set i .no) σ := Sat.exi hn (s.ex e1).drop1 x2
  have s3 := s2.tell (i := i) (en := .own (ds ++ [d])) ho ⟨l, xs ++ [v], rfl, hl0, upd_same, ((il.ex e1).app (.one i1)).mono x2⟩
  rw [List.set_set] at s3
  exact s3
/-- behind a statement the thing in a slot is locked for ever -/
def tThenFrz (i : Nat) (ts : TS) : TS := fun E σ H => ts { E with nx := fun σ' H' => ∃ a u, σ'[i]? = some (some (.ref a)) ∧ H' a = some u ∧ Mut (some u) ∧ ∀ od, E.nx σ' (upd H' a (.frz od u)) } σ H
theorem hs_frz {i : Nat} {ds : List D} (h : HS K Γ ts r chi Γ1) (hi : Γ1[i]? = some (.own ds)) (hn : noOwn (Γ1.set i .no) = true) : HS K Γ (tThenFrz i ts) r chi (Γ1.set i (.da (.lst ds))) := fun H0 σ H E e0 s hr hx =>
  h H0 σ H _ e0 s hr fun c σ1 H1 e1 x1 s1 => by
    obtain ⟨o, ho, l, xs, eo, hl0, hl, il⟩ := s1.get hi
    subst eo
    refine ⟨l, _, ho, hl, True.intro, fun od => ?_⟩
    have x2 : ExI H1 (upd H1 l (.frz od (.lst xs))) := ExI.upd hl fun z => z
    refine hx c σ1 _ (e1.mut hl0) (x1.trans x2) ?_
    have s2 : Sat K H0 (upd H1 l (.frz od (.lst xs))) (Γ1.set i .no) σ1 := Sat.exi hn s1.drop1 x2
    have s3 := s2.tell (i := i) (en := .da (.lst ds)) ho ⟨_, rfl, .lst upd_same (il.mono x2)⟩
    rw [List.set_set] at s3
    exact s3
theorem hs_frzD {i : Nat} {kvs : List (Lt × D)} (h : HS K Γ ts r chi Γ1) (hi : Γ1[i]? = some (.ownT kvs)) (hn : noOwn (Γ1.set i .no) = true) : HS K Γ (tThenFrz i ts) r chi (Γ1.set i (.da (.dct kvs))) := fun H0 σ H E e0 s hr hx =>
  h H0 σ H _ e0 s hr fun c σ1 H1 e1 x1 s1 => by
    obtain ⟨o, ho, l, xs, eo, hl0, hl, il⟩ := s1.get hi
    subst eo
    refine ⟨l, _, ho, hl, True.intro, fun od => ?_⟩
    have x2 : ExI H1 (upd H1 l (.frz od (.dT xs))) := ExI.upd hl fun z => z
    refine hx c σ1 _ (e1.mut hl0) (x1.trans x2) ?_
    have s2 : Sat K H0 (upd H1 l (.frz od (.dT xs))) (Γ1.set i .no) σ1 := Sat.exi hn s1.drop1 x2
    have s3 := s2.tell (i := i) (en := .da (.dct kvs)) ho ⟨_, rfl, .dct upd_same (il.mono x2)⟩
    rw [List.set_set] at s3
    exact s3
/-- for x in ..: G tells the context ahead of each turn, phi what is known -/
theorem hs_for {ds : List D} {wi : TI} {g : TG} (hi : HI K Γ wi ds) (G : Nat → List En) (phi : Nat → Prop) (h0 : Sub Γ (G 0)) (p0 : phi 0)
    (hb : ∀ i d, ds[i]? = some d → phi i → ∃ (G1 : List En) (ss : List Nat), HG K (G i) g d G1 ss ∧ HS K G1 ts r (phi (i + 1)) (G (i + 1))) : HS K Γ (tFor wi g ts) r (phi ds.length) (G ds.length) := fun H0 σ H E e0 s hr hx =>
  hi H0 σ H s _ fun J H1 e1 w => by
    refine for_it w (fun i σ' H' => Ex H0 H' ∧ ExI H1 H' ∧ Sat K H0 H' (G i) σ' ∧ phi i) ⟨e0.trans e1, ExI.refl H1, Sat.sub h0 (s.ex e1), p0⟩ (fun i σ' H' _ p => p.2.1) (fun i a σ' H' H2 hi p y => ?_) fun σ' H' p => hx p.2.2.2 σ' H' p.1 (e1.i.trans p.2.1) p.2.2.1
    obtain ⟨p1, p2, p3, p4⟩ := p
    obtain ⟨e2, d, hd, hid⟩ := y
    obtain ⟨G1, ss, hg, hs⟩ := hb i d hd p4
    refine hg H0 σ' H2 a (p3.ex e2) hid _ fun σ2 s2 _ => ?_
    exact hs H0 σ2 H2 _ (p1.trans e2) s2 hr fun c σ3 H3 e3 x3 s3 => ⟨e3, p2.trans (e2.i.trans x3), s3, c⟩
end
end Q
/-! Quietdoors: rules for readings that the layer lacks. -/
namespace Q
open PySem PySem.Spec PyProof.Rows L2
section
variable {X : Cx}

/-! ### locked for ever -/
theorem pe_frz {e : Expr} {te : TE} (h : PE X e te) : PE X e (tFrz te) :=
  ⟨fun pins s σ H Q I hw => thn (h.run pins s σ H _ I hw) fun v s1 ⟨x, H1, I1, rx, a, u, ex, ha, mu, q⟩ => by
    obtain ⟨od, I2⟩ := I1.lock ha mu
    exact ⟨x, _, I2, rx, q od⟩⟩
theorem ps_frz (i : Nat) {st : Stmt} {ts : TS} (h : PS X st ts) : PS X st (tThenFrz i ts) :=
  ⟨fun pins s σ H E I hw => thn (h.run pins s σ H _ I hw) fun f s1 q => by
    cases f with
    | next =>
      obtain ⟨σ1, H1, I1, a, u, ea, ha, mu, q1⟩ := q
      obtain ⟨od, I2⟩ := I1.lock ha mu
      exact ⟨σ1, _, I2, q1 od⟩
    | ret v => exact q
    | brk => exact q
    | cont => exact q⟩

/-! ### data as the library compares it -/
mutual
def py : D → PyData
  | .non => .none
  | .bl b => .bool b
  | .int i => .int i
  | .str s => .str s
  | .tup ds => .tuple (pys ds)
  | .lst ds => .list (pys ds)
  | _ => .none
def pys : List D → List PyData
  | [] => []
  | d :: ds => py d :: pys ds
end
mutual
def pl : D → Bool
  | .non => true
  | .bl _ => true
  | .int _ => true
  | .str _ => true
  | .tup ds => pls ds
  | .lst ds => pls ds
  | _ => false
def pls : List D → Bool
  | [] => true
  | d :: ds => pl d && pls ds
end
mutual
theorem Is.dp {K : PySem.W.Frag} {H : Hp} : ∀ (d : D) (v : V), Is K H v d → pl d = true → Dp K H v (py d)
  | .non, _, h, _ => by
    cases h
    exact .non
  | .bl b, _, h, _ => by
    cases h
    exact .bl b
  | .int i, _, h, _ => by
    cases h
    exact .int i
  | .str s, _, h, _ => by
    cases h
    exact .str s
  | .tup ds, _, h, p => by
    cases h with
    | tup h l => exact .tup (SqT.of h) (IsL.dpa ds _ l (by unfold pl at p; exact p))
  | .lst ds, _, h, p => by
    cases h with
    | lst h l => exact .lst (.inl (.inr ⟨_, h⟩)) (IsL.dpa ds _ l (by unfold pl at p; exact p))
  | .ty _, _, _, p => by
    unfold pl at p
    cases p
  | .dct _, _, _, p => by
    unfold pl at p
    cases p
  | .box _, _, _, p => by
    unfold pl at p
    cases p
  | .row _, _, _, p => by
    unfold pl at p
    cases p
  | .talk _, _, _, p => by
    unfold pl at p
    cases p
  | .adr _, _, _, p => by
    unfold pl at p
    cases p
  | .nev, _, _, p => by
    unfold pl at p
    cases p
theorem IsL.dpa {K : PySem.W.Frag} {H : Hp} : ∀ (ds : List D) (xs : List V), IsL K H xs ds → pls ds = true → DpAll K H xs (pys ds)
  | [], _, h, _ => by
    cases h
    exact .nil
  | d :: ds, _, h, p => by
    cases h with
    | cons h r =>
      unfold pls at p
      obtain ⟨p1, p2⟩ := Bool.and_eq_true_iff.mp p
      exact .cons (Is.dp d _ h p1) (IsL.dpa ds _ r p2)
end
/-- x in t, t a tuple of data -/
def rInT (K : PySem.W.Frag) (neg : Bool) : R2 := fun x y H Q => ∃ d ds, Dp K H x d ∧ Dp K H y (.tuple ds) ∧ SeqAt.shaped d = true ∧ SeqAt.shaped (.tuple ds) = true ∧ Q (.bl (if neg = true then !(ds.any fun z => PyData.eqv z d) else ds.any fun z => PyData.eqv z d)) H
theorem op_inT (hu : X.A.units + 65 < cLine) : OpR X (compareOp .In) (rInT X.K false) := fun pins s σ H x y v u Q I rx ry ⟨d, ds, hd, he, sd, se, q⟩ => by
  obtain ⟨as, r1⟩ := Dp.reads I d x v hd rx
  obtain ⟨bs, r2⟩ := Dp.reads I (.tuple ds) y u he ry
  have cl : PyData.canLayAll0 ds = true := by
    have c := SeqAt.canLay_of_shaped se
    unfold PyData.canLay0 at c
    exact c
  exact SeqAt.in_tuple_reads r2 r1 cl (SeqAt.canLay_of_shaped sd) (room_in_shaped sd hu) ⟨.bl _, H, I, rfl, q⟩
theorem op_notInT (hu : X.A.units + 65 < cLine) : OpR X (compareOp .NotIn) (rInT X.K true) := fun pins s σ H x y v u Q I rx ry ⟨d, ds, hd, he, sd, se, q⟩ => by
  obtain ⟨as, r1⟩ := Dp.reads I d x v hd rx
  obtain ⟨bs, r2⟩ := Dp.reads I (.tuple ds) y u he ry
  have cl : PyData.canLayAll0 ds = true := by
    have c := SeqAt.canLay_of_shaped se
    unfold PyData.canLay0 at c
    exact c
  exact SeqAt.notIn_tuple_reads r2 r1 cl (SeqAt.canLay_of_shaped sd) (room_in_shaped sd hu) ⟨.bl _, H, I, rfl, q⟩

/-! ### own containers: len(o), x in o -/
def rLenO (C : Addr) (sp : Sp) : List V → Hp → VK → Prop := fun vs H Q => ∃ a dx fs, vs = [.ref a] ∧ H a = some (.ins C dx fs) ∧ sp [.ref a] H (fun v H' => ∃ n : Nat, v = .int (n : Int) ∧ n ≤ 100000 ∧ Q v H') fun _ _ _ => False
def rInO (C : Addr) (sp : Sp) (neg : Bool) : R2 := fun x y H Q => ∃ a dx fs, y = .ref a ∧ H a = some (.ins C dx fs) ∧ sp [.ref a, x] H (fun v H' => ∃ b : Bool, v = .bl b ∧ Q (.bl (if neg = true then !b else b)) H') fun _ _ _ => False
variable {k : Nat} {C f : Addr} {fd : FuncData} {sp : Sp} {CX : CXT}
theorem call_lenO (hm : Meth X.K C "__len__" f) (F : FnOk X.prog X.w X.K X.mg X.base CX0 k f fd ["self"] sp) (hr : Room (k + 1) X.A) (hb : Binds X.K fd ["self"] []) : CallR X (.builtin "len") (rLenO C sp) := fun pins s σ H xs us Q I r ⟨a, dx, fs, ex, ha, h⟩ => by
  subst ex
  obtain ⟨u, rfl, rx⟩ := vals1 r
  obtain rfl : u = .ref a := rx
  obtain ⟨mA, O, _⟩ := ins_get I.hok ha
  obtain ⟨od, J, _⟩ := O.look
  obtain ⟨m, F0⟩ := I.fr
  refine PySem.W.len_K (K := X.K) (Q := EP X pins σ Q) F0 I.ok.mod.kin J hm.at_ hm.fn ?_
  refine wpAny_call (codeAny_mono (F.run X.A.in1 X.stack s H ⟨[.ref a], []⟩ [.ref a] [.ref a] _ _ hr.in1 I.env0.in1 (hb s [.ref a] I.kIn rfl) (.cons rfl .nil) h) fun rs s' hq => ?_)
  cases rs with
  | error er => exact hq.elim
  | ok fl =>
    cases fl with
    | ret u =>
      obtain ⟨v, H', I3, rv, n, ev, hn, q3⟩ := I.after hq
      subst ev
      obtain ⟨t, rfl⟩ := rv
      refine ⟨⟨by omega, by omega⟩, ?_⟩
      exact ⟨.int (n : Int), H', I3.tok _, ⟨_, rfl⟩, q3⟩
    | next => exact hq.elim
    | brk => exact hq.elim
    | cont => exact hq.elim
theorem op_inO (hm : Meth X.K C "__contains__" f) (F : FnOk X.prog X.w X.K X.mg X.base CX0 k f fd ["self", "letter"] sp) (hr : Room k X.A) (hb : Binds X.K fd ["self", "letter"] []) (hnx : X.xe = fun _ _ => False) : OpR X (compareOp .In) (rInO C sp false) := fun pins s σ H x y v u Q I rx ry ⟨a, dx, fs, ey, ha, h⟩ => by
  subst ey
  obtain rfl : u = .ref a := ry
  obtain ⟨mA, O, _⟩ := ins_get I.hok ha
  obtain ⟨od, J, _⟩ := O.look
  obtain ⟨m, F0⟩ := I.fr
  refine PySem.W.in_K (K := X.K) F0 I.ok.mod.kin J hm.at_ hm.fn ?_
  refine thn (run_fn (CX := CX0) F hr hb .nil (E := fun _ _ _ => False) pass0 I (vs := [.ref a, x]) (.cons rfl (.cons rx .nil)) h) fun w s1 ⟨z, H1, I1, rz, b, ez, q⟩ => ?_
  subst ez
  obtain rfl : w = .bool b := rz
  exact wpAny_truthy_bool ⟨.bl b, H1, I1, rfl, q⟩
end
end Q
/-! Quietdoors: more rules for readings that the layer lacks. -/
namespace Q
open PySem PySem.Spec PyProof.Rows L2
section
variable {X : Cx}
/-! ### max(xs, default=d), repr(b), len and isinstance of a locked dict -/
def mxD : List Int → Int → Int
  | [], d => d
  | y :: ys, _ => PySem.W.maxOf y ys
def rMaxDf (K : PySem.W.Frag) : List V → List V → Hp → VK → Prop := fun vs zs H Q => ∃ (a : Addr) (ns : List Int) (d : Int), vs = [.ref a] ∧ zs = [.int d] ∧ SqL K H a (ns.map V.int) ∧ Q (.int (mxD ns d)) H
theorem intsDp {K : PySem.W.Frag} {H : Hp} : ∀ ns : List Int, DpAll K H (ns.map V.int) (ns.map PyData.int)
  | [] => .nil
  | n :: ns => .cons (.int n) (intsDp ns)
theorem call_maxDf (hc : X.calm = true) (hu : X.A.units + 64 < cLine) : CallRK X (.builtin "max") ["default"] (rMaxDf X.K) := fun pins s σ H xs zs us ws Q I r1 r2 ⟨a, ns, d, ex, ez, hs, q⟩ => by
  subst ex ez
  obtain ⟨u, rfl, ru⟩ := vals1 r1
  obtain ⟨w, rfl, t, rfl⟩ := vals1 r2
  obtain rfl : u = .ref a := ru
  obtain ⟨its, rv, p, hz⟩ := I.list hs
  obtain ⟨as, rd⟩ := Dp.readsAll I (ns.map PyData.int) _ its (intsDp ns) rv
  refine PySem.W.max_list_datum_default (α := Int) (xs := ns) (I.ok.hd hc) p.isList ⟨as, rd⟩ (by show X.A.units + 1 + 0 < cLine; omega) (fun e h' tk hk => ?_) fun y ys i v h' tk e hi hh hk => ?_
  · subst e
    exact ⟨.int d, H, I.kept hk, ⟨_, rfl⟩, q⟩
  · subst e
    obtain ⟨bs, rr⟩ := hh
    have rr2 : Reads h' v (.int (PySem.W.maxOf y ys)) bs := rr
    cases rr2
    exact ⟨.int _, H, I.kept hk, ⟨_, rfl⟩, q⟩
theorem call_reprB : CallR X (.builtin "repr") (fun vs H Q => ∃ b : Bool, vs = [.bl b] ∧ Q (.str (if b = true then "True" else "False")) H) := fun pins s σ H xs us Q I r ⟨b, ex, q⟩ => by
  subst ex
  obtain ⟨u, rfl, ru⟩ := vals1 r
  obtain rfl : u = .bool b := ru
  refine PySem.P.repr_of_bool ⟨.str (if b = true then "True" else "False"), H, I.tok _, ?_, q⟩
  cases b <;> exact ⟨_, rfl⟩
def rLenF : List V → Hp → VK → Prop := fun vs H Q => ∃ (a : Addr) (o : Obj) (raw : List (List Key × V)), vs = [.ref a] ∧ H a = some (.frz o (.dT raw)) ∧ Q (.int (raw.length : Int)) H
theorem call_lenF : CallR X (.builtin "len") rLenF := fun pins s σ H xs us Q I r ⟨a, o, raw, ex, ha, q⟩ => by
  subst ex
  obtain ⟨u, rfl, ru⟩ := vals1 r
  obtain rfl : u = .ref a := ru
  obtain ⟨z, hd, ys, rel, dd⟩ := dt_rd I.hok (.inr ⟨o, ha⟩)
  have hl : raw.length = ys.length := Paired.length rel
  refine call_len_dictH hd dd (by rw [sizeLine_eq] at z; omega) ?_
  rw [← hl]
  exact ⟨.int (raw.length : Int), H, I.tok _, ⟨_, rfl⟩, q⟩
def rIsF (K : PySem.W.Frag) : List V → Hp → VK → Prop := fun vs H Q => ∃ (a : Addr) (o : Obj) (raw : List (List Key × V)) (n : String) (b : Bool), vs = [.ref a, .ty n] ∧ H a = some (.frz o (.dT raw)) ∧ PySem.W.kitOne K (.type "dict") (.type n) = some b ∧ Q (.bl b) H
theorem call_isF : CallR X (.builtin "isinstance") (rIsF X.K) := fun pins s σ H xs us Q I r ⟨a, o, raw, n, b, ex, ha, hk, q⟩ => by
  subst ex
  obtain ⟨u1, u2, rfl, r1, r2⟩ := vals2 r
  obtain rfl : u1 = .ref a := r1
  obtain rfl : u2 = .type n := r2
  obtain ⟨z, hd, ys, rel, od, es, ep, h1, h2, _⟩ := dt_rd I.hok (.inr ⟨o, ha⟩)
  exact PySem.W.kia_one PySem.W.kitx_dict I.kIn ⟨od, h1, h2.1⟩ hk (fun z => nomatch z) fun tk => ⟨.bl b, H, I.tok tk, rfl, q⟩

/-! ### enumerate(a tuple) -/
theorem meets_enumT (t : Addr) (items : Array Value) : Meets (Builtin.«enumerate.__new__» ⟨[.type "enumerate", .ref t], []⟩)
    (fun _ R s => s.heap.IsTuple t items ∧ R (.ok (.ret (.ref (s.heap.push { cls := .type "tuple_iterator", data := .fields #[.ref t, .int 0 0] }).objs.size)))
      { s with heap := (s.heap.push { cls := .type "tuple_iterator", data := .fields #[.ref t, .int 0 0] }).push { cls := .type "enumerate", data := .fields #[.none, .bool false, .ref s.heap.objs.size, rawInt 0, .none, .none] } }) :=
  .of_wp fun prog w A R s h => by
    obtain ⟨hp, g, d, tk, os⟩ := s
    obtain ⟨hl, h⟩ := h
    have hsub := sub_enumerate
    have hL : Heap.IsTuple (Shared.heap ⟨hp, g, d, tk, os⟩) t items := hl
    wp_walk using wpAny_pyIter_tuple hL
    refine wpAny_stack_any fun st => wpAny_pure ?_
    split
    · rename_i c _ _ _ _ _
      cases (c == Value.type "enumerate") <;>
        (wp_walk using wpAny_pyIter_tuple hL
         exact ⟨_, rfl, h⟩)
    · wp_walk using wpAny_pyIter_tuple hL
      exact ⟨_, rfl, h⟩
theorem call_enumT {prog : Program} {w : World} {A : Around} {E : Value → Shared → Prop} {s : Shared} {t : Addr} {items : Array Value} {Q : Value → Shared → Prop} (hL : s.heap.IsTuple t items)
    (h : ∀ h', IsEnum h' (s.heap.objs.size + 1) s.heap.objs.size 0 .none → h'.IsTupleIter s.heap.objs.size t 0 → h'.objs.size = s.heap.objs.size + 2 → (∀ b o, s.heap.get? b = some o → h'.get? b = some o) → Q (.ref (s.heap.objs.size + 1)) { s with heap := h' }) :
    wpAny (model prog w) A (call (.type "enumerate") [.ref t]) Q E s := by
  refine callType_new F.called_enumerate (by decide) (F.typeCall_enumerate_1 _) (F.newCall_enumerate_1 _) (fun obj => F.args_object_init_2 obj _) F.entry_enumerate_new (meets_enumT t items) ⟨hL, ?_⟩
  have hz : (s.heap.push { cls := .type "tuple_iterator", data := .fields #[.ref t, .int 0 0] }).objs.size = s.heap.objs.size + 1 := Heap.size_push ..
  show _ ∧ _
  rw [hz]
  have he : IsEnum ((s.heap.push { cls := .type "tuple_iterator", data := .fields #[.ref t, .int 0 0] }).push { cls := .type "enumerate", data := .fields #[.none, .bool false, .ref s.heap.objs.size, rawInt 0, .none, .none] }) (s.heap.objs.size + 1) s.heap.objs.size 0 .none := by
    have q := Heap.get?_push_size (s.heap.push { cls := .type "tuple_iterator", data := .fields #[.ref t, .int 0 0] }) (o := { cls := .type "enumerate", data := .fields #[.none, .bool false, .ref s.heap.objs.size, rawInt 0, .none, .none] }) rfl
    rw [hz] at q
    exact q
  exact ⟨⟨_, he, rfl⟩, h _ he ⟨_, Heap.get?_push_of_some _ (Heap.get?_push_size _ rfl), rfl, rfl⟩ (by rw [Heap.size_push, hz]) fun b o x => Heap.get?_push_of_some _ (Heap.get?_push_of_some _ x)⟩
/-- the tuple's items as they stand, each with its place in a new pair -/
def ItT (K : PySem.W.Frag) (a : Addr) (xs : List V) : It :=
  ⟨fun i H => SqT K H a xs ∧ i < xs.length, fun i H v H' => ∃ T x, v = .ref T ∧ H T = none ∧ H' = upd H T (.tup [.int (i : Nat), x]) ∧ xs[i]? = some x, fun i H => SqT K H a xs ∧ xs.length ≤ i⟩
theorem turn_enumT {P : Program} {w : World} {K : PySem.W.Frag} {elts : List Expr} {kk : Nat} {tpos : Pos} {items : Array Value} (a : Addr) (xs : List V) (e it : Addr) (hx : Vals xs items.toList) (hai : a ≠ it) (hae : a ≠ e) :
    Turn P w K (.Tuple elts kk tpos) (ItT K a xs) [e, it] e (fun i h => (∃ old, IsEnum h e it ((i : Nat) : Int) old) ∧ h.IsTupleIter it a i ∧ e ≠ it) where
  mem := List.mem_cons_self
  obj := fun i h ⟨⟨old, he⟩, ⟨o, ho, hc, hd⟩, _⟩ b hb => by
    rcases List.mem_cons.mp hb with z | z
    · rw [z]
      exact ⟨_, he, fun v q => nomatch q⟩
    · rw [List.mem_singleton.mp z]
      exact ⟨o, ho, fun v q => by rw [hd] at q; cases q⟩
  keep := fun i h h' ⟨⟨old, he⟩, hi, hne⟩ k => ⟨⟨old, k e (by simp) _ he⟩, hi.at fun o q => k it (by simp) o q, hne⟩
  item := fun Y hP hw hK hc i pins s σ H E I hf ⟨⟨old, he⟩, hit, hne⟩ hg => by
    subst hP hw hK
    obtain ⟨hq, hi⟩ := hg
    obtain ⟨its, rv, p, hz⟩ := I.tuple hq
    have hl := rv.length
    have D := Draws.tuple (prog := Y.prog) (w := Y.w) (A := Y.A.in1) (I.ok.hd hc) it a hai its.toArray
    have hel : e < s.heap.objs.size := Heap.lt_size he
    have hil : it < s.heap.objs.size := by
      obtain ⟨_, q, _⟩ := hit
      exact Heap.lt_size q
    have het : e ∉ [it, a] := by
      simp only [List.mem_cons, List.not_mem_nil, or_false, not_or]
      exact ⟨hne, Ne.symm hae⟩
    refine wpAny_pyNext_enum_itemD D he ⟨hit, p⟩ (by simp only [List.size_toArray]; omega) hne het fun u h' tk hu ho hst' hT hsz hk => ?_
    obtain ⟨x, ex⟩ : ∃ x, xs[i]? = some x := ⟨xs[i], List.getElem?_eq_getElem hi⟩
    obtain ⟨u', hu', ru⟩ := rv.get ex
    have euu : u' = u := by
      have q : its.toArray[i]? = some u := hu
      rw [List.getElem?_toArray, hu'] at q
      exact Option.some.inj q
    subst euu
    refine ⟨_, rfl, wpAny_letOwnedTupleGo_enum (s := { s with heap := h', toks := tk + 1 }) ho fun h2 he' sb => ?_⟩
    have hT2 : h2.get? s.heap.objs.size = some { cls := .type "tuple", data := .seq #[.int i tk, u'] } := (sb.2 _ (Nat.ne_of_gt hel)).trans hT
    have new : ObjOk Y.prog Y.w (upd H s.heap.objs.size (.tup [.int (i : Nat), x])) h2 s.heap.objs.size (.tup [.int (i : Nat), x]) := ⟨small_line (by show 2 ≤ 100000; decide), [.int i tk, u'], .cons ⟨_, rfl⟩ (.cons ru .nil), ⟨_, hT2, rfl, _, rfl⟩⟩
    have I1 : Inv Y pins σ (upd H s.heap.objs.size (.tup [.int (i : Nat), x])) { s with heap := h2, toks := tk + 1 } :=
      I.turnedNew (ch := [e, it]) (fun b ob hb q => (sb.2 b (fun z => hb (by simp [z]))).trans (hk b ob (fun z => hb (by simp [z])) (fun z => hb (by simp [z])) q)) hf (Nat.le_refl _) new
    refine ⟨.ref s.heap.objs.size, _, I1, rfl, ⟨_, x, rfl, I.hok.fresh (Nat.le_refl _), rfl, ex⟩, ⟨⟨u', ?_⟩, hst'.1.at fun o q => (sb.2 it (Ne.symm hne)).trans q, hne⟩, fun b hb => ?_⟩
    · rw [show ((i + 1 : Nat) : Int) = (i : Int) + 1 by omega]
      exact he'
    · have hb' : b < s.heap.objs.size := by
        rcases List.mem_cons.mp hb with z | z
        · rw [z]
          exact hel
        · rw [List.mem_singleton.mp z]
          exact hil
      rw [upd_ne (Nat.ne_of_lt hb')]
      exact (hf b hb).1
  done := fun Y hP hw hK hc i pins s σ H E I hf ⟨⟨old, he⟩, hit, hne⟩ hg => by
    subst hP hw hK
    obtain ⟨hq, hi⟩ := hg
    obtain ⟨its, rv, p, hz⟩ := I.tuple hq
    have hl := rv.length
    obtain ⟨f0, f1, f2, f3, f4, f5⟩ := hf it (by simp)
    have hT : s.TypeIs (.ref e) "enumerate" := ⟨_, he, rfl⟩
    unfold pyNext
    refine wpAny_bind (wpAny_attempt (wpAny_callSpecial?_slot (name := Str.ofString "__next__") hT F.slot_enumerate_next (wpAny_call_entry F.slot_enumerate_next hT F.entry_enumerate_next ?_ (F.args_enumerate_next_1 _))))
    show wpAny _ _ (field (.ref e) 2 >>= _) _ _ _
    refine wpAny_bind (wpAny_field he rfl (x := .ref it) rfl ?_)
    refine wpAny_bind (wpAny_nextOf_tuple_end (I.ok.hd hc) hit p (Array.getElem?_eq_none (by simp only [List.size_toArray]; omega)) fun h' x hx' ⟨o, ho, hc'⟩ => ?_)
    refine wpAny_bind (wpAny_isInstance (T := "StopIteration") (b := true) ⟨o, ho, hc'⟩ isSubtype_stop ?_)
    exact wpAny_pure ⟨rfl, I.turned (t' := s.toks) (fun b o hb q => hx' b o hb q) f0 f1 f3 f4 f5⟩
  self := fun A i s Q E ⟨⟨_, he⟩, _⟩ h => wpAny_pyIter_enum he h
def iEnumT (K : PySem.W.Frag) (ta : TA) : TI := fun σ H R => ta σ H fun vs H1 => ∃ a xs, vs = [.ref a] ∧ SqT K H1 a xs ∧ R (ItT K a xs) H1
theorem pi_enumT {e : Expr} {ta : TA} {p pos tpos : Pos} {elts : List Expr} {kk : Nat} (hg : Gl X "enumerate") (hm : X.mg "enumerate" = none) (ha : PA X [e] ta) (hs : starEach [e] X.env = [(false, eval e X.env)] := by rfl) :
    PI X (.Tuple elts kk tpos) (.Call (.Name "enumerate" p) [e] [] pos) (iEnumT X.K ta) :=
  ⟨fun pins s σ H R I h => Call_ (ld_blt I hg hm boot_enumerate (PyProof.Rows.callWith_type1 (thn (ha.run pos pins s σ H _ I h) fun us s1 ⟨vs, H1, I1, r1, a, xs, ex, hq, q⟩ => by
    subst ex
    obtain ⟨u, rfl, ru⟩ := vals1 r1
    obtain rfl : u = .ref a := ru
    obtain ⟨its, rv, p', hz⟩ := I1.tuple hq
    refine call_enumT p' fun h' he hit hsz hk => wpAny_pyIter_enum he ?_
    have I2 : Inv X pins σ H1 { s1 with heap := h' } := I1.kept (t' := s1.toks) hk
    have hal : a < s1.heap.objs.size := p'.lt
    refine ⟨s1.heap.objs.size + 1, [s1.heap.objs.size + 1, s1.heap.objs.size], _, _, H1, rfl, I2, turn_enumT (items := its.toArray) a xs (s1.heap.objs.size + 1) s1.heap.objs.size (by simpa using rv) (Nat.ne_of_lt hal) (Nat.ne_of_lt (Nat.lt_succ_of_lt hal)), ⟨⟨.none, he⟩, hit, Nat.succ_ne_self _⟩, fun b hb => ?_, q⟩
    have hle : s1.heap.objs.size ≤ b := by
      rcases List.mem_cons.mp hb with z | z
      · rw [z]
        exact Nat.le_succ _
      · rw [List.mem_singleton.mp z]
        exact Nat.le_refl _
    exact I1.fpOk hle (I1.hok.fresh hle)) hs rfl))⟩
end
end Q
/-! Quietdoors: {k: v for ..} with keys that are tuples; t[:0:-1]; sorted rows. -/
namespace Q
open PySem PySem.Spec PyProof.Rows L2

/-! ### {k: v for ..}, keys tuples of ints and texts -/
theorem dT_set {X : Cx} {pins : List (Addr × Obj)} {σ : L2.St} {H : Hp} {s : Shared} {E : Value → Shared → Prop} {Dl b : Addr} {raw : List (List Key × V)} {k : List Key} {v : V} {r : Value} {Q : Unit → Shared → Prop} (hu : X.A.units + 1 < cLine)
    (I : Inv X pins σ H s) (hD : H Dl = some (.dT raw)) (hz : raw.length < sizeLine) (hb : H b = some (.tup (k.map kV))) (rv : RelV v r) (h : ∀ s', Inv X pins σ (upd H Dl (.dT (putK raw k v))) s' → Q () s') : wpAny (model X.prog X.w) X.A (dictSet Dl (.ref b) r) Q E s := by
  obtain ⟨z, hd, xs, rel, dd⟩ := dt_of I.hok hD
  have hl : (putK raw k v).length ≤ sizeLine := by
    have := length_putK raw k v
    omega
  refine wpAny_dictSet_heap (hsz := by rw [← Paired.length rel]; exact z) (show (tupleKind (mixKind X.prog X.w)).room X.A from (by omega : X.A.units < cLine)) (key_of I.hok hb) dd fun h' dd' hs => h _ ?_
  obtain ⟨q, es, ep, hq, h2, h3, h4, _, h5⟩ := dd'
  refine d_write I (by rw [hD]; exact True.intro) hs ⟨q, hq⟩ ⟨hl, hd, _, (rel.put k hb rv).keeps fun c ys ec => ?_, q, es, ep, hq, h2, h3, h4, h5⟩
  rw [upd_ne (ne_of ec hD (fun z => nomatch z))]
  exact ec
/-- the reading: Dl the new dict, each turn's key a tuple that stands -/
def tDcT (wi : TI) (g : TG) (tk tv : TE) (vs : List Nat) : TE := fun σ H Q => wi σ H fun J H1 => ∀ Dl, H1 Dl = none → ∃ W : Nat → Nat → Hp → Prop, (∃ m, W 0 m (upd H1 Dl (.dT []))) ∧ ∀ i m H, W i m H →
  (J.stop i H ∧ Q (.ref Dl) H) ∨ (J.go i H ∧ ∃ Nx : Hp → Prop, (∀ H', Nx H' → ∃ m', m' < m ∧ W (i + 1) m' H') ∧ ∀ x H', J.yld i H x H' → g x (wipe σ vs) H' fun σ2 H2 => wipe σ2 vs = wipe σ vs ∧
    tk σ2 H2 fun y H4 => tv σ2 H4 fun z H5 => ∃ raw k b, y = .ref b ∧ H5 b = some (.tup (k.map kV)) ∧ H5 Dl = some (.dT raw) ∧ raw.length < sizeLine ∧ Nx (upd H5 Dl (.dT (putK raw k z))))
theorem pe_dcT {X : Cx} {kx vx tg iter : Expr} {scope : Scope} {own : List (Str × Nat)} {pos : Pos} {wi : TI} {g : TG} {tk tv : TE} (hu : X.A.units + 1 < cLine) (hc : X.calm = true) (hN : X.N.Nodup) (hi : PI X tg iter wi) (ok : BlkOk X.N X.env.scope scope own)
    (hg : ∀ (s : Shared) (H : Hp) (C : Addr) (cl : List (Str × Addr)) (fp : List Addr), PG (X.blk s H scope (compEnvC scope cl C X.env) fp) tg g)
    (hk : ∀ (s : Shared) (H : Hp) (C : Addr) (cl : List (Str × Addr)) (fp : List Addr), PE (X.blk s H scope (compEnvC scope cl C X.env) fp) kx tk)
    (he : ∀ (s : Shared) (H : Hp) (C : Addr) (cl : List (Str × Addr)) (fp : List Addr), PE (X.blk s H scope (compEnvC scope cl C X.env) fp) vx tv) (hs : ∀ x, foldedSetIterable iter X.env x = pure x := by intro _; rfl) :
    PE X (.DictComp kx vx [⟨tg, iter, [], 0⟩] scope pos) (tDcT wi g tk tv (own.map (·.2))) := by
  refine ⟨fun pins s σ H Q I h => ?_⟩
  rw [arm_eval_DictComp]
  have hfree : ∀ y ∈ scope.names, y.2 = .free → ∃ c, X.env.cells.lookup y.1 = some c := fun y hy e => (ok.free y hy e).elim (fun k => I.ok.has _ (.inl k)) fun k => I.ok.has _ (.inr k)
  refine wpAny_comprehension_free rfl hs (closure_ok hfree) ok.kind (fun y hy e => by rw [ok.uniq y hy, e]) (thn (hi.run pins s σ H _ I h) fun xv s1 hx => thn hx fun itv s2 ⟨it, fp, tn, J, H2, e, I2, T, st2, f2, q⟩ => ?_)
  subst e
  refine wpAny_newObj_type (newEnv_comp ?_)
  generalize hD : s2.heap.objs.size = Dl
  have hDn : H2 Dl = none := I2.hok.fresh (Nat.le_of_eq hD)
  obtain ⟨W, ⟨m0, w0⟩, turn⟩ := q Dl hDn
  generalize hs3 : ({ s2 with heap := s2.heap.push { cls := .type "dict", data := .dict #[] } } : Shared) = s3
  have h3 : s3.heap = s2.heap.push { cls := .type "dict", data := .dict #[] } := by rw [← hs3]
  have I3 : Inv X pins σ (upd H2 Dl (.dT [])) s3 := by
    rw [← hs3]
    refine I2.laid (t' := s2.toks) (fun b o e => Heap.get?_push_of_some _ e) (Nat.le_of_eq hD) ?_
    rw [← hD]
    exact dt_empty s2.heap I2.big
  have f3 : ∀ b ∈ fp, FpOk X pins (upd H2 Dl (.dT [])) b ∧ b < s3.heap.objs.size := fun b hb => by
    obtain ⟨o, e, _⟩ := T.obj _ _ st2 b hb
    have hlt := Heap.lt_size e
    refine ⟨⟨?_, (f2 b hb).2⟩, by rw [h3, Heap.size_push]; exact Nat.lt_succ_of_lt hlt⟩
    rw [upd_ne (by rw [← hD]; exact Nat.ne_of_lt hlt)]
    exact (f2 b hb).1
  have st3 : tn 0 s3.heap := T.keep _ _ _ st2 fun b _ o e => by rw [h3]; exact Heap.get?_push_of_some _ e
  have I4 := block_start I3 ok hN f3
  have pg := hg s3 (upd H2 Dl (.dT [])) s3.heap.objs.size (cellsFrom (s3.heap.objs.size + 1) scope.names (cloFrom X.env.cells scope.names [])) fp
  have pk := hk s3 (upd H2 Dl (.dT [])) s3.heap.objs.size (cellsFrom (s3.heap.objs.size + 1) scope.names (cloFrom X.env.cells scope.names [])) fp
  have pe := he s3 (upd H2 Dl (.dT [])) s3.heap.objs.size (cellsFrom (s3.heap.objs.size + 1) scope.names (cloFrom X.env.cells scope.names [])) fp
  show codeAny _ _ (.compStart (.DictComp kx vx [⟨tg, iter, [], 0⟩] scope pos) 0 (.ref it) (.ref Dl) (compEnvC scope (cellsFrom (s3.heap.objs.size + 1) scope.names (cloFrom X.env.cells scope.names [])) s3.heap.objs.size X.env)) (compPost (model X.prog X.w) X.A X.xe none (EP X pins σ Q) (.ref Dl) s3.heap.objs.size) { s3 with heap := pushCells (s3.heap.push { cls := .type "dict", data := .dict #[] }) scope.names }
  have nfp : ∀ b ∈ fp, (upd H2 Dl (.dT [])) b = none := fun b hb => (f3 b hb).1.1
  generalize hce : compEnvC scope (cellsFrom (s3.heap.objs.size + 1) scope.names (cloFrom X.env.cells scope.names [])) s3.heap.objs.size X.env = ce at I4 pg pk pe ⊢
  have cL : ce.locals = s3.heap.objs.size := by
    subst hce
    rfl
  generalize hH3 : upd H2 Dl (.dT []) = H3 at I3 I4 pg pk pe w0 nfp f3
  generalize hs4 : ({ s3 with heap := pushCells (s3.heap.push { cls := .type "dict", data := .dict #[] }) scope.names } : Shared) = s4 at I4 ⊢
  have st4 : tn 0 s4.heap := T.keep _ _ _ st3 fun b _ o e => by rw [← hs4]; exact pushCells_keeps _ _ _ _ (Heap.get?_push_of_some _ e)
  have stat : ∀ {σ' : L2.St} {H' : Hp} {s' : Shared}, Inv (X.blk s3 H3 scope ce fp) [] σ' H' s' → (∀ b ∈ fp, H' b = none) → ∀ b ∈ fp, FpOk (X.blk s3 H3 scope ce fp) [] H' b := fun {σ' H' s'} I' hn b hb =>
    ⟨hn b hb, (I'.ok.exf b hb).1, I'.ok.exfs b hb, .inl hb, fun x c e => (I'.ok.exf b hb).2 x c e, fun p hp => absurd (show p ∈ ([] : List (Addr × Obj)) ++ [] from hp) (by simp)⟩
  have loop : codeAny (model X.prog X.w) X.A (.compLoop (.DictComp kx vx [⟨tg, iter, [], 0⟩] scope pos) 0 (.ref it) (.ref Dl) ce) (compPost (model X.prog X.w) X.A X.xe none (EP X pins σ Q) (.ref Dl) s3.heap.objs.size) s4 := by
    refine compLoop_anyD (fun n s' => ∃ i H', Inv (X.blk s3 H3 scope ce fp) [] (wipe σ (own.map (·.2))) H' s' ∧ tn i s'.heap ∧ (∀ b ∈ fp, H' b = none) ∧ W i n H') (fun n s5 ⟨i, H5, I5, st5, n5, w5⟩ => ?_) m0 ⟨0, H3, I4, st4, nfp, w0⟩
    rcases turn i n H5 w5 with ⟨stop, qq⟩ | ⟨go, Nx, hNx, step⟩
    · have td := T.done (X.blk s3 H3 scope ce fp) rfl rfl rfl hc i [] s5 _ H5 (fun _ _ => False) I5 (stat I5 n5) st5 stop
      refine thnF td fun r s6 ⟨hr, I6⟩ => ?_
      subst hr
      have I7 : Inv X pins σ H5 s6 := I3.call' (ch := fp) I6.os I6.base I6.hok I6.bare fun b hb => ⟨(f3 b hb).1.2.2.2.1, (f3 b hb).1.2.1, (f3 b hb).1.2.2.2.2.1, (f3 b hb).1.2.2.2.2.2⟩
      have nC : H5 s3.heap.objs.size = none := by
        have z : H5 ce.locals = none := I6.free
        rw [cL] at z
        exact z
      obtain ⟨m, hn, _⟩ := I6.loc
      have hn : s6.heap.Ns ce.locals m := hn
      rw [cL] at hn
      obtain ⟨f0, f1, f2, f3, f4, f5⟩ := I3.fpOk (Nat.le_refl _) nC
      exact ⟨m, hn, fun h2 sb => ⟨.ref Dl, H5, I7.turned (t' := s6.toks) (fun b o hb e => (sb.2 b hb).trans e) f0 f1 f3 f4 f5, rfl, qq⟩⟩
    · have ti := T.item (X.blk s3 H3 scope ce fp) rfl rfl rfl hc i [] s5 _ H5 (fun _ _ => False) I5 (stat I5 n5) st5 go
      refine thnF ti fun r s6 ⟨u, hr, h6⟩ => ?_
      subst hr
      refine thnF h6 fun _ s7 ⟨x, H7, I7, r7, y7, st7, n7⟩ => ?_
      refine thnF (pg.run _ s7 _ H7 x u _ (I7.pinned (stat I7 n7) (T.obj _ _ st7)) r7 (step x H7 y7)) fun _ s8 ⟨σ8, H8, I8, hw8, q8⟩ => ?_
      refine thnF ((pts_nil (X := X.blk s3 H3 scope ce fp)).run _ s8 σ8 H8 (fun b H9 => b = true ∧ H9 = H8) I8 ⟨rfl, rfl⟩) fun b s9 ⟨H9, I9, eb, e9⟩ => ?_
      subst eb e9
      rw [if_pos rfl]
      have fin : ∀ {s' : Shared} {H' : Hp}, Inv (X.blk s3 H3 scope ce fp) ([] ++ pinsAt fp s7.heap) σ8 H' s' → Nx H' → ∃ m, m < n ∧ ∃ i H', Inv (X.blk s3 H3 scope ce fp) [] (wipe σ (own.map (·.2))) H' s' ∧ tn i s'.heap ∧ (∀ b ∈ fp, H' b = none) ∧ W i m H' := fun {s' H'} I' nx => by
        obtain ⟨m', hm, w'⟩ := hNx H' nx
        have pin' : ∀ b ∈ fp, ∀ o, s7.heap.get? b = some o → s'.heap.get? b = some o ∧ H' b = none := fun b hb o e =>
          let z := I'.pin (b, o) (List.mem_append_right _ (List.mem_append_right _ (mem_pinsAt hb e)))
          ⟨z.1, z.2.1⟩
        refine ⟨m', hm, i + 1, H', (I'.unpinned (pins := [])).weak (by rw [← hw8, wipe_length]) (fun j v e => ?_), T.keep _ _ _ st7 fun b hb o e => (pin' b hb o e).1, fun b hb => ?_, w'⟩
        · rw [← hw8] at e
          exact (wipe_some e).1
        · obtain ⟨o, e, _⟩ := T.obj _ _ st7 b hb
          exact (pin' b hb o e).2
      refine thnF (pk.run _ s9 σ8 H9 _ I9 q8) fun z s10 ⟨yk, H10, I10, r10, q10⟩ => ?_
      refine thnF (pe.run _ s10 σ8 H10 _ I10 q10) fun z2 s11 ⟨yv, H11, I11, r11, raw, k, b, ek, hb11, hD11, hz11, nx⟩ => ?_
      subst ek
      obtain rfl : z = .ref b := r10
      exact dT_set (X := X.blk s3 H3 scope ce fp) hu I11 hD11 hz11 hb11 r11 fun s12 I12 => fin I12 nx
  exact codeAny_compStart_dict loop (T.self X.A 0 _ _ _ st4 loop)
end Q
/-! Quietdoors: t[:0:-1]; sorted rows (time, place, letter). -/
namespace Q
open PySem PySem.Spec PyProof.Rows L2
/-! ### t[:0:-1] -/
theorem places_down (n : Nat) : Builtin.Slice.slicePlaces ((n : Int) + 1 - 1) 0 (-1) = n := by
  unfold Builtin.Slice.slicePlaces
  rw [if_neg (by decide)]
  by_cases h : n = 0
  · subst h
    rfl
  · rw [if_pos (by omega)]
    have e : ((n : Int) + 1 - 1 - 0 - 1) / (- -1) + 1 = n := by
      rw [show (- -1 : Int) = 1 by decide, Int.ediv_one]
      omega
    rw [e]
    exact Int.toNat_natCast n
theorem adjust_down (n : Nat) : Builtin.Slice.sliceAdjust none (some 0) (-1) ((n : Int) + 1) = ((n : Int) + 1 - 1, 0) := by
  unfold Builtin.Slice.sliceAdjust
  simp only [show ((-1 : Int) < 0) = True by simp, if_true]
  refine Prod.ext rfl ?_
  show (if (0 : Int) < 0 then max (0 + ((n : Int) + 1)) (-1) else min 0 ((n : Int) + 1 - 1)) = 0
  rw [if_neg (by decide)]
  omega
theorem fm_congr {α β : Type} {f g : α → Option β} : ∀ l : List α, (∀ a, a ∈ l → f a = g a) → l.filterMap f = l.filterMap g
  | [], _ => rfl
  | a :: l, h => by
    rw [List.filterMap_cons, List.filterMap_cons, h a List.mem_cons_self, fm_congr l fun b hb => h b (List.mem_cons_of_mem _ hb)]
theorem fm_range {α : Type} : ∀ l : List α, (List.range l.length).filterMap (fun k => l[k]?) = l
  | [] => rfl
  | a :: l => by
    rw [List.length_cons, List.range_succ_eq_map, List.filterMap_cons, List.filterMap_map]
    show a :: (List.range l.length).filterMap ((fun k => (a :: l)[k]?) ∘ Nat.succ) = a :: l
    have e : ((fun k => (a :: l)[k]?) ∘ Nat.succ) = fun k => l[k]? := funext fun k => List.getElem?_cons_succ
    rw [e, fm_range l]
theorem pick_down {α : Type} (x : α) (xs : List α) : (List.range xs.length).filterMap (fun (k : Nat) => (x :: xs).toArray[(((xs.length : Int) + 1 - 1) + (k : Int) * (-1)).toNat]?) = xs.reverse := by
  have h := fm_range xs.reverse
  rw [List.length_reverse] at h
  refine Eq.trans (fm_congr _ fun k hk => ?_) h
  have hk := List.mem_range.mp hk
  rw [List.getElem?_toArray]
  have e : (((xs.length : Int) + 1 - 1) + (k : Int) * (-1)).toNat = (xs.length - 1 - k) + 1 := by omega
  rw [e, List.getElem?_cons_succ, List.getElem?_reverse hk]
theorem getItem_tup_down {prog : Program} {w : World} {A : Around} {E : Value → Shared → Prop} {s : Shared} {t sl : Addr} {x : Value} {items : List Value} {vl vu vs : Value} {Q : Value → Shared → Prop} (ht : IsTup s.heap t (x :: items).toArray)
    (hs : s.heap.IsSliceOf sl vl vu vs) (pl : IsPart vl none) (pu : IsPart vu (some 0)) (ps : IsPart vs (some (-1)))
    (h : Q (.ref s.heap.objs.size) { s with heap := s.heap.push { cls := .type "tuple", data := .seq items.reverse.toArray } }) (hsz : items.length ≤ sizeLine) : wpAny (model prog w) A (getItem (.ref t) (.ref sl)) Q E s := by
  have hsz2 : sizeOk (.seq items.reverse.toArray) := by
    show items.reverse.toArray.size ≤ sizeLine
    rw [List.size_toArray, List.length_reverse]
    exact hsz
  obtain ⟨os, hos, hcs, hds⟩ := id hs
  have hTs : s.TypeIs (.ref sl) "slice" := ⟨os, hos, hcs⟩
  have applied : ∀ {Q2 : Int × Int × Nat → Shared → Prop} {A2 : Around} {E2 : Value → Shared → Prop}, Q2 ((items.length : Int) + 1 - 1, -1, items.length) s → wpAny (model prog w) A2 (Builtin.Slice.sliceApplied (.ref sl) (pure ((items.length : Int) + 1))) Q2 E2 s := fun q => by
    unfold Builtin.Slice.sliceApplied Builtin.Slice.sliceFields
    refine wpAny_bind (wpAny_bind (wpAny_field hos hds (x := vl) rfl (wpAny_bind (wpAny_field hos hds (x := vu) rfl (wpAny_bind (wpAny_field hos hds (x := vs) rfl (wpAny_pure ?_)))))))
    refine wpAny_bind (HT.slicePart_ ps ?_)
    show wpAny _ _ (if ((-1 : Int) == 0) = true then _ else _) _ _ s
    rw [if_neg (by decide)]
    refine wpAny_bind (HT.slicePart_ pl (wpAny_bind (HT.slicePart_ pu (wpAny_bind (wpAny_pure ?_)))))
    show wpAny _ _ (match Builtin.Slice.sliceAdjust none (some 0) (-1) ((items.length : Int) + 1) with | (lo, hi) => pure (lo, (-1 : Int), Builtin.Slice.slicePlaces lo hi (-1))) _ _ s
    rw [adjust_down]
    show wpAny _ _ (pure ((items.length : Int) + 1 - 1, (-1 : Int), Builtin.Slice.slicePlaces ((items.length : Int) + 1 - 1) 0 (-1))) _ _ s
    rw [places_down]
    exact wpAny_pure q
  unfold getItem
  try with_reducible refine wpAny_holding ?_
  first | refine wpAny_bind (wpAny_pure ?_) | skip
  refine wpAny_bind (wpAny_sequenceKey ht.typeIs (by decide) ?_)
  refine wpAny_bind (wpAny_callSpecial?_slot (name := Str.ofString "__getitem__") ht.typeIs PyProof.Rows.slot_tuple_getitem (wpAny_call_entry PyProof.Rows.slot_tuple_getitem ht.typeIs entry_tuple_getitem ?_ (args_tuple_getitem _ _)))
  show wpAny _ _ (Builtin.Tuple.tupleItemsOf (.ref t) >>= _) _ _ s
  refine wpAny_bind (tupleItemsOf_ ht ?_)
  refine wpAny_bind (wpAny_typeOf hTs ?_)
  rw [if_pos (by decide)]
  have esz : (((x :: items).toArray.size : Nat) : Int) = (items.length : Int) + 1 := by simp
  show wpAny _ _ (Builtin.Slice.sliceApplied (.ref sl) (pure (((x :: items).toArray.size : Nat) : Int)) >>= _) _ _ s
  rw [esz]
  refine wpAny_bind (applied ?_)
  have hno : ¬ ((((items.length : Int) + 1 - 1) == 0 && (-1 : Int) == 1 && items.length == (x :: items).toArray.size) = true) := fun q => by
    rw [show ((-1 : Int) == 1) = false by decide, Bool.and_false, Bool.false_and] at q
    cases q
  show wpAny _ _ (if (((items.length : Int) + 1 - 1) == 0 && (-1 : Int) == 1 && items.length == (x :: items).toArray.size) = true then _ else _) _ _ s
  rw [if_neg hno, pick_down]
  first
    | exact wpAny_bind (m := Builtin.Tuple.tupleExact _) (wpAny_newObj_type (wpAny_pure ⟨_, rfl, wpAny_pure h⟩) hsz2)
    | exact wpAny_bind (m := Builtin.Tuple.tupleExact _) (wpAny_newObj_type (wpAny_bind (wpAny_pure (wpAny_pure ⟨_, rfl, wpAny_pure h⟩))) hsz2)
    | exact wpAny_bind (wpAny_bind (m := Builtin.Tuple.tupleExact _) (wpAny_newObj_type (wpAny_pure (wpAny_pure ⟨_, rfl, wpAny_pure h⟩)) hsz2))
    | exact wpAny_bind (wpAny_bind (m := Builtin.Tuple.tupleExact _) (wpAny_newObj_type (wpAny_pure ⟨_, rfl, wpAny_pure h⟩) hsz2))
def tDown (K : PySem.W.Frag) (te : TE) : TE := fun σ H Q => te σ H fun v H1 => ∃ a x xs, v = .ref a ∧ SqT K H1 a (x :: xs) ∧ ∀ p, H1 p = none → Q (.ref p) (upd H1 p (.tup xs.reverse))
theorem pe_down {X : Cx} {e : Expr} {te : TE} {k k0 : Nat} {p0 p1 p2 p3 pos : Pos} (he : PE X e te) : PE X (.Subscript e (.Slice none (some (.Constant (.int 0) k0 p0)) (some (.UnaryOp .USub (.Constant (.int 1) k p1) p2)) p3) pos) (tDown X.K te) := by
  refine ⟨fun pins s σ H Q I h => Subscript_ (thn (he.run pins s σ H _ I h) fun v s1 ⟨x, H1, I1, r1, a, y, xs, ex, hx, q⟩ => ?_)⟩
  subst ex
  obtain rfl : v = .ref a := r1
  have hst : PO X (some (.UnaryOp .USub (.Constant (.int 1) k p1) p2)) (tPart (tUn (rU fun i => .int (-i)) (tC (.int 1)))) := po_some (pe_un un_neg pe_int)
  have hz0 : PO X (some (.Constant (.int 0) k0 p0)) (tPart (tC (.int 0))) := po_some pe_int
  refine wpAny_Slice (thn (po_none.run pins s1 σ H1 (fun o H2 => o = none ∧ H2 = H1) I1 ⟨rfl, rfl⟩) fun vl s2 ⟨l, H2, I2, pl, el, e2⟩ => ?_)
  subst el e2
  refine thn (hz0.run pins s2 σ H2 (fun o H3 => o = some 0 ∧ H3 = H2) I2 ⟨0, rfl, rfl, rfl⟩) fun vu s3 ⟨u, H3, I3, pu, eu, e3⟩ => ?_
  subst eu e3
  refine thn (hst.run pins s3 σ H3 (fun o H4 => o = some (-1) ∧ H4 = H3) I3 ⟨1, rfl, -1, rfl, rfl, rfl⟩) fun vs s4 ⟨o, H4, I4, ps, eo, e4⟩ => ?_
  subst eo e4
  have I5 : Inv X pins σ H4 { s4 with heap := s4.heap.push { cls := .type "slice", data := .fields #[vl, vu, vs] } } := I4.kept (t' := s4.toks) fun b ob q => Heap.get?_push_of_some _ q
  obtain ⟨its, r, ht, hz⟩ := I5.tuple hx
  cases r with
  | @cons _ w0 _ ws rw0 rws =>
    show wpAny (model X.prog X.w) X.A (subscriptTail e (.Slice none (some (.Constant (.int 0) k0 p0)) (some (.UnaryOp .USub (.Constant (.int 1) k p1) p2)) p3) (.ref a) (.ref s4.heap.objs.size)) (EP X pins σ Q) X.xe { s4 with heap := s4.heap.push { cls := .type "slice", data := .fields #[vl, vu, vs] } }
    refine tail_any (ops := [.ref a, .ref s4.heap.objs.size]) ht.typeIs (PyProof.Rows.slot_tuple_getitem.lookup) ?_ (by with_unfolding_all rfl)
    have hlen := rws.length
    refine getItem_tup_down ht (Heap.IsSliceOf.new _ vl vu vs) pl pu ps ?_ (by
      have hz2 : xs.length + 1 ≤ sizeLine := hz
      omega)
    refine ⟨.ref _, _, I5.laid (t' := s4.toks) (o := .tup xs.reverse) (fun b ob q => Heap.get?_push_of_some _ q) (Nat.le_refl _) ?_, rfl, q _ (I5.hok.fresh (Nat.le_refl _))⟩
    refine ⟨by
      have hz2 : xs.length + 1 ≤ sizeLine := hz
      rw [List.length_reverse]
      omega, ws.reverse, Vals.reverse rws, ⟨_, Heap.get?_push_size _ rfl, rfl, _, rfl⟩⟩
end Q
/-! Quietdoors: sorted rows (time, place, letter). -/
namespace Q
open PySem PySem.Spec PyProof.Rows L2
abbrev T3 := Int × Nat × Lt
def d3 (p : T3) : D := .tup [.int p.1, .int (p.2.1 : Int), ltD p.2.2]
def e3 (p : T3) : PyData := .tuple [.int p.1, .int (p.2.1 : Int), .tuple [.str (wd p.2.2.o), .int (p.2.2.k : Int)]]
theorem py_d3 (p : T3) : py (d3 p) = e3 p := by simp [d3, e3, ltD, py, pys]
theorem pl_d3 (p : T3) : pl (d3 p) = true := by simp [d3, ltD, pl, pls]
theorem alike3 (p q : T3) : PySem.W.alike (e3 p) (e3 q) = true := by simp [e3, PySem.W.alike, PySem.W.alikeAll]
theorem depth3 (p : T3) : (e3 p).depth ≤ 8 := by
  simp only [e3, PyData.depth, PyData.depthAll]
  omega
def rSrt (K : PySem.W.Frag) : List V → Hp → VK → Prop := fun vs H Q => ∃ (a : Addr) (its : List (V × T3)), vs = [.ref a] ∧ SqL K H a (its.map (·.1)) ∧ (∀ it ∈ its, Dp K H it.1 (e3 it.2)) ∧ its.length ≤ 100000 ∧
  ∀ p, H p = none → Q (.ref p) (upd H p (.lst ((its.mergeSort (PySem.W.dataLe false fun it : V × T3 => e3 it.2)).map (·.1))))
theorem each_vals {X : Cx} {pins : List (Addr × Obj)} {σ : L2.St} {H : Hp} {s : Shared} (I : Inv X pins σ H s) : ∀ {its : List (V × T3)} {us : List Value}, Vals (its.map (·.1)) us → (∀ it ∈ its, Dp X.K H it.1 (e3 it.2)) →
    PySem.W.EachIs (fun (u : Value) (it : V × T3) => RelV it.1 u) us its ∧ PySem.W.EachIs (fun (u : Value) (it : V × T3) => ∃ as, Reads s.heap u (e3 it.2) as) us its
  | [], _, r, _ => by
    cases r
    exact ⟨.nil, .nil⟩
  | it :: its, _, r, h => by
    cases r with
    | cons r1 r2 =>
      obtain ⟨h1, h2⟩ := each_vals I r2 fun q hq => h q (List.mem_cons_of_mem _ hq)
      exact ⟨.cons r1 h1, .cons (Dp.reads I _ _ _ (h it List.mem_cons_self) r1) h2⟩
theorem vals_each : ∀ {its : List (V × T3)} {us : List Value}, PySem.W.EachIs (fun (u : Value) (it : V × T3) => RelV it.1 u) us its → Vals (its.map (·.1)) us
  | _, _, .nil => .nil
  | _, _, .cons h r => .cons h (vals_each r)
theorem call_srt {X : Cx} (hu : X.A.units + 64 < cLine) : CallR X (.builtin "sorted") (rSrt X.K) := fun pins s σ H xs us Q I r ⟨a, its, ex, hs, hd, hl, q⟩ => by
  subst ex
  obtain ⟨u, rfl, ru⟩ := vals1 r
  obtain rfl : u = .ref a := ru
  obtain ⟨uits, rv, p, hz⟩ := I.list hs
  obtain ⟨e1, e2⟩ := each_vals I rv hd
  refine PySem.W.sorted_data (enc := fun it : V × T3 => e3 it.2) p.isList e1 e2 (PySem.W.AllAlike.of fun b b' => alike3 b.2 b'.2) (PySem.W.Sortable.tuples fun b => ⟨_, _, rfl⟩) (small_line hl) (fun b _ => ?_) fun out hlen hout => ?_
  · have := depth3 b.2
    omega
  · obtain ⟨e, he⟩ := sortedAll_at s.heap uits out.toArray
    have rv2 := vals_each hout
    have hl2 := rv2.length
    refine ⟨.ref (s.heap.objs.size + 1), _, I.laid (t' := s.toks) (o := .lst ((its.mergeSort (PySem.W.dataLe false fun it : V × T3 => e3 it.2)).map (·.1))) (fun b o hb => sortedAll_old hb) (Nat.le_succ _) ?_, rfl, q _ (I.hok.fresh (Nat.le_succ _))⟩
    exact ⟨by rw [hl2, hlen]; exact small_line hl, out, e, rv2, he⟩
end Q
/-! Quietdoors: rules by data for calls of built-ins, comparisons, dicts, fields. -/
namespace Q
open PySem PySem.Spec PyProof.Rows L2
section
variable {K : PySem.W.Frag} {Γ Γ1 Γ' : List En} {ta tb te td : TE} {x y z d r : D} {ds es : List D}
/-! ### built-ins -/
abbrev rLn (K : PySem.W.Frag) : List V → Hp → VK → Prop := fun xs H Q => ∃ x n, xs = [x] ∧ LenV K x H n ∧ Q (.int n) H
theorem rc_lenT : RC K (rLn K) [.tup ds] (.int (ds.length : Int)) := fun H vs h Q q => by
  cases h with
  | cons hv hr =>
    cases hr
    obtain ⟨a, xs, ev, ha, il⟩ := hv.tup_v
    subst ev
    exact ⟨_, ds.length, rfl, .inr ⟨xs, SqT.of ha, il.length.symm⟩, q _ H (Ex.refl H) (.int _)⟩
theorem rc_lenL : RC K (rLn K) [.lst ds] (.int (ds.length : Int)) := fun H vs h Q q => by
  cases h with
  | cons hv hr =>
    cases hr
    obtain ⟨a, o, xs, ev, ha, il⟩ := hv.lst_v
    subst ev
    exact ⟨_, ds.length, rfl, .inl ⟨xs, .inl (.inr ⟨o, ha⟩), il.length.symm⟩, q _ H (Ex.refl H) (.int _)⟩
theorem rc_lenF {kvs : List (Lt × D)} : RC K rLenF [.dct kvs] (.int (kvs.length : Int)) := fun H vs h Q q => by
  cases h with
  | cons hv hr =>
    cases hr
    obtain ⟨a, o, raw, ev, ha, il⟩ := hv.dct_v
    subst ev
    exact ⟨a, o, raw, rfl, ha, q _ H (Ex.refl H) (by rw [il.length]; exact .int _)⟩
theorem rc_lenO {c : Str} {rel : List D → D → Prop} {n : Nat} (hc : clsD d = some c) (hr : rel [d] (.int (n : Int))) (hn : n ≤ 100000) : RC K (rLenO (He.ga K c) (SpR K rel)) [d] (.int (n : Int)) := fun H vs h Q q => by
  cases h with
  | cons hv hrr =>
    cases hrr
    obtain ⟨a, dx, fs, ev, ha, _⟩ := hv.ins (m := "low") hc
    subst ev
    exact ⟨a, dx, fs, rfl, ha, [d], _, hr, .cons hv .nil, fun v H' e i => ⟨n, i.int_v, hn, q v H' e i⟩⟩
theorem rr_inO {c : Str} {rel : List D → D → Prop} {b : Bool} (hc : clsD d = some c) (hr : rel [d, x] (.bl b)) : RR K (rInO (He.ga K c) (SpR K rel) false) x d (.bl b) := fun H v w hv hw Q q => by
  obtain ⟨a, dx, fs, ev, ha, _⟩ := hw.ins (m := "low") hc
  subst ev
  exact ⟨a, dx, fs, rfl, ha, [d, x], _, hr, .cons hw (.cons hv .nil), fun v H' e i => ⟨b, i.bl_v, q _ H' e (by simpa using Is.bl b)⟩⟩
theorem lst_ints {H : Hp} {v : V} {ns : List Int} (h : Is K H v (.lst (ns.map .int))) : ∃ a, v = .ref a ∧ SqL K H a (ns.map V.int) := by
  obtain ⟨a, o, xs, ev, ha, il⟩ := h.lst_v
  rw [il.ints] at ha
  exact ⟨a, ev, .inl (.inr ⟨o, ha⟩)⟩
theorem rc_sum {ns : List Int} : RC K (rSum K) [.lst (ns.map .int)] (.int ns.sum) := fun H vs h Q q => by
  cases h with
  | cons hv hr =>
    cases hr
    obtain ⟨a, ev, hs⟩ := lst_ints hv
    subst ev
    exact ⟨a, ns, rfl, hs, q _ H (Ex.refl H) (.int _)⟩
theorem rc_max {ns : List Int} {m : Int} (hp : 0 < ns.length) (hm : ∀ k, k ∈ ns → (∀ j, j ∈ ns → j ≤ k) → k = m) : RC K (rMax K) [.lst (ns.map .int)] (.int m) := fun H vs h Q q => by
  cases h with
  | cons hv hr =>
    cases hr
    obtain ⟨a, ev, hs⟩ := lst_ints hv
    subst ev
    exact ⟨a, ns, rfl, hs, hp, fun k h1 h2 => q _ H (Ex.refl H) (by rw [hm k h1 h2]; exact .int _)⟩
theorem rc_all {bs : List Bool} : RC K (rAll K) [.lst (bs.map .bl)] (.bl (bs.all id)) := fun H vs h Q q => by
  cases h with
  | cons hv hr =>
    cases hr
    obtain ⟨a, o, xs, ev, ha, il⟩ := hv.lst_v
    subst ev
    rw [il.bls] at ha
    exact ⟨a, bs, rfl, .inl (.inr ⟨o, ha⟩), q _ H (Ex.refl H) (.bl _)⟩
theorem he_maxDf {tr tk : TA} {ns : List Int} {m : Int} (h1 : HA K Γ tr [.lst (ns.map .int)]) (h2 : HA K Γ tk [.int m]) : HE K Γ (tCKw (rMaxDf K) tr tk) (.int (mxD ns m)) := fun H0 σ H s Q q =>
  h1 H0 σ H s _ fun vs H1 e1 i1 => h2 H0 σ H1 (s.ex e1) _ fun ws H2 e2 i2 => by
    cases i1 with
    | cons hv hr =>
      cases hr
      cases i2 with
      | cons hw hr =>
        cases hr
        obtain ⟨a, ev, hs⟩ := lst_ints (hv.ex e2)
        subst ev
        exact ⟨a, ns, m, rfl, by rw [hw.int_v], hs, q _ H2 (e1.trans e2) (.int _)⟩
abbrev rInt1 : List V → Hp → VK → Prop := fun xs H Q => (∃ i, xs = [.int i] ∧ Q (.int i) H) ∨ ∃ k, xs = [.bl k] ∧ Q (.int (if k then 1 else 0)) H
theorem rc_int {i : Int} : RC K rInt1 [.int i] (.int i) := fun H vs h Q q => by
  cases h with
  | cons hv hr =>
    cases hr
    exact .inl ⟨i, by rw [hv.int_v], q _ H (Ex.refl H) (.int i)⟩
abbrev rTupOf (K : PySem.W.Frag) : List V → Hp → VK → Prop := fun xs H Q => ∃ p ys, xs = [.ref p] ∧ ((SqL K H p ys ∧ ∀ l, H l = none → Q (.ref l) (upd H l (.tup ys))) ∨ (SqT K H p ys ∧ Q (.ref p) H))
theorem rc_tup : RC K (rTupOf K) [.lst ds] (.tup ds) := fun H vs h Q q => by
  cases h with
  | cons hv hr =>
    cases hr
    obtain ⟨a, o, xs, ev, ha, il⟩ := hv.lst_v
    subst ev
    exact ⟨a, xs, rfl, .inl ⟨.inl (.inr ⟨o, ha⟩), fun l hl => q _ _ (Ex.new hl) (.tup upd_same (il.ex (Ex.new hl)))⟩⟩
abbrev rLstOf (K : PySem.W.Frag) : List V → Hp → VK → Prop := fun xs H Q => ∃ p ys, xs = [.ref p] ∧ (SqL K H p ys ∨ SqT K H p ys) ∧ ∀ l, H l = none → Q (.ref l) (upd H l (.lst ys))
theorem rcl_list : RCL K (rLstOf K) [.lst ds] ds := fun H vs h Q q => by
  cases h with
  | cons hv hr =>
    cases hr
    obtain ⟨a, o, xs, ev, ha, il⟩ := hv.lst_v
    subst ev
    exact ⟨a, xs, rfl, .inl (.inl (.inr ⟨o, ha⟩)), fun l hl => q l xs _ hl (Ex.new hl) upd_same (il.ex (Ex.new hl))⟩
abbrev rRepB : List V → Hp → VK → Prop := fun vs H Q => ∃ b : Bool, vs = [.bl b] ∧ Q (.str (if b = true then "True" else "False")) H
theorem rc_repr {b : Bool} : RC K rRepB [.bl b] (.str (if b = true then "True" else "False")) := fun H vs h Q q => by
  cases h with
  | cons hv hr =>
    cases hr
    exact ⟨b, by rw [hv.bl_v], q _ H (Ex.refl H) (.str _)⟩
/-- sorted: the same rows, in some order that hangs on them alone -/
def srt3 (ts : List T3) : List T3 := ts.mergeSort (PySem.W.dataLe false e3)
theorem srt3_perm (ts : List T3) : (srt3 ts).Perm ts := List.mergeSort_perm _ _
theorem isL_dp : ∀ {H : Hp} {xs : List V} {ts : List T3}, IsL K H xs (ts.map d3) → ∀ it ∈ xs.zip ts, Dp K H it.1 (e3 it.2)
  | _, _, [], .nil, it, h => by cases h
  | H, _, t :: ts, .cons hv hr, it, h => by
    rcases List.mem_cons.mp h with e | h
    · rw [e]
      have := Is.dp (d3 t) _ hv (pl_d3 t)
      rw [py_d3] at this
      exact this
    · exact isL_dp hr it h
theorem isL_zip {H : Hp} : ∀ {xs : List V} {ts : List T3}, IsL K H xs (ts.map d3) → ∀ it ∈ xs.zip ts, Is K H it.1 (d3 it.2)
  | _, [], .nil, it, h => by cases h
  | _, t :: ts, .cons hv hr, it, h => by
    rcases List.mem_cons.mp h with e | h
    · rw [e]
      exact hv
    · exact isL_zip hr it h
theorem isL_unzip {H : Hp} : ∀ {its : List (V × T3)}, (∀ it ∈ its, Is K H it.1 (d3 it.2)) → IsL K H (its.map (·.1)) ((its.map (·.2)).map d3)
  | [], _ => .nil
  | it :: its, h => .cons (h it List.mem_cons_self) (isL_unzip fun q hq => h q (List.mem_cons_of_mem _ hq))
theorem rcl_srt {ts : List T3} (hl : ts.length ≤ 100000) : RCL K (rSrt K) [.lst (ts.map d3)] ((srt3 ts).map d3) := fun H vs h Q q => by
  cases h with
  | cons hv hr =>
    cases hr
    obtain ⟨a, o, xs, ev, ha, il⟩ := hv.lst_v
    subst ev
    have hlen : xs.length = ts.length := by rw [il.length, List.length_map]
    have e1 : (xs.zip ts).map (·.1) = xs := List.map_fst_zip (by omega)
    have e2 : (xs.zip ts).map (·.2) = ts := List.map_snd_zip (by omega)
    refine ⟨a, xs.zip ts, rfl, by rw [e1]; exact .inl (.inr ⟨o, ha⟩), isL_dp il, by rw [List.length_zip]; omega, fun p hp => q p _ _ hp (Ex.new hp) upd_same ?_⟩
    have e3' : ((xs.zip ts).mergeSort (PySem.W.dataLe false fun it : V × T3 => e3 it.2)).map (·.2) = srt3 ts := by
      unfold srt3
      have q := List.map_mergeSort (l := xs.zip ts) (f := fun it : V × T3 => it.2) (r := PySem.W.dataLe false fun it : V × T3 => e3 it.2) (s := PySem.W.dataLe false e3) fun a _ b _ => rfl
      rw [q, e2]
    have h2 : IsL K H (((xs.zip ts).mergeSort (PySem.W.dataLe false fun it : V × T3 => e3 it.2)).map (·.1)) ((((xs.zip ts).mergeSort (PySem.W.dataLe false fun it : V × T3 => e3 it.2)).map (·.2)).map d3) :=
      isL_unzip fun it hit => isL_zip il it ((List.mergeSort_perm _ _).mem_iff.mp hit)
    rw [e3'] at h2
    exact h2.ex (Ex.new hp)
/-! ### isinstance -/
theorem kit_lt {H : Hp} {v : V} {l : Lt} (h : Is K H v (ltD l)) : TyX K H v (.type "tuple") := by
  obtain ⟨a, xs, ev, ha, _⟩ := Is.tup_v h
  subst ev
  exact .base (.tup ha)
def tyN : D → Option String
  | .non => some "NoneType"
  | .bl _ => some "bool"
  | .int _ => some "int"
  | .str _ => some "str"
  | .tup _ => some "tuple"
  | .lst _ => some "list"
  | _ => none
theorem Is.tyx {H : Hp} {v : V} {n : String} (h : Is K H v d) (e : tyN d = some n) : TyX K H v (.type n) := by
  cases h with
  | non => cases e; exact .base .non
  | bl b => cases e; exact .base (.bl b)
  | int i => cases e; exact .base (.int i)
  | str s => cases e; exact .base (.str s)
  | tup h _ => cases e; exact .base (.tup h)
  | lst h _ => cases e; exact .base (.frz h)
  | _ => cases e
theorem rc_isi {n c : String} {b : Bool} (e : tyN d = some n) (hb : kitB n c = some b) : RC K (rIsi K) [d, .ty c] (.bl b) := fun H vs h Q q => by
  cases h with
  | cons hv hr =>
    cases hr with
    | cons hw hr =>
      cases hr
      rw [hw.ty_v]
      exact ⟨_, _, _, _, b, rfl, .ty c, hv.tyx e, kit_ty hb, q _ H (Ex.refl H) (.bl b)⟩
theorem rc_isF {kvs : List (Lt × D)} {c : String} {b : Bool} (hb : kitB "dict" c = some b) : RC K (rIsF K) [.dct kvs, .ty c] (.bl b) := fun H vs h Q q => by
  cases h with
  | cons hv hr =>
    cases hr with
    | cons hw hr =>
      cases hr
      rw [hw.ty_v]
      obtain ⟨a, o, raw, ev, ha, _⟩ := hv.dct_v
      subst ev
      exact ⟨a, o, raw, c, b, rfl, ha, kit_ty hb, q _ H (Ex.refl H) (.bl b)⟩
/-- isinstance(x, (list, tuple)) -/
theorem rc_isLT {n : String} (e : tyN d = some n) (hb : kitB n "list" = some true ∨ kitB n "list" = some false ∧ kitB n "tuple" = some true) : RC K (rIsiT K) [d, .tup [.ty "list", .ty "tuple"]] (.bl true) := fun H vs h Q q => by
  cases h with
  | cons hv hr =>
    cases hr with
    | cons hw hr =>
      cases hr
      obtain ⟨a, xs, ev, ha, il⟩ := hw.tup_v
      subst ev
      cases il with
      | cons h1 il =>
        cases il with
        | cons h2 il =>
          cases il
          rw [h1.ty_v, h2.ty_v] at ha
          refine ⟨_, a, [.ty "list", .ty "tuple"], .type n, [.type "list", .type "tuple"], true, rfl, ha, .cons (.ty _) (.cons (.ty _) .nil), hv.tyx e, ?_, q _ H (Ex.refl H) (.bl true)⟩
          rcases hb with h | ⟨h1, h2⟩
          · exact kitAny_cons (kit_ty h) (fun z => nomatch z) fun _ => rfl
          · exact kitAny_cons (kit_ty h1) (fun _ => kitAny_cons (kit_ty h2) (fun z => nomatch z) fun _ => rfl) fun z => nomatch z
/-! ### letters compared -/
theorem wd_inj {a b : Bool} : wd a = wd b ↔ a = b := by
  cases a <;> cases b <;> decide +kernel
theorem py_lt (l : Lt) : py (ltD l) = .tuple [.str (wd l.o), .int (l.k : Int)] := by simp [ltD, py, pys]
theorem pl_lt (l : Lt) : pl (ltD l) = true := by simp [ltD, pl, pls]
theorem depth_lt (l : Lt) : (py (ltD l)).depth = 1 := by simp [py_lt, PyData.depth, PyData.depthAll]
theorem lay_lt (l : Lt) : (py (ltD l)).canLay0 = true := by
  have h : PyData.strOk (wd l.o) = true := by
    cases l.o <;> decide +kernel
  simp [py_lt, PyData.canLay0, PyData.canLayAll0, h]
theorem eqv_lt (l m : Lt) : PyData.eqv (py (ltD l)) (py (ltD m)) = decide (l = m) := by
  obtain ⟨a, i⟩ := l
  obtain ⟨b, j⟩ := m
  rw [py_lt, py_lt]
  have e : PyData.eqv (.tuple [.str (wd a), .int (i : Int)]) (.tuple [.str (wd b), .int (j : Int)]) = ((wd a == wd b) && (((i : Int) == (j : Int)) && true)) := by simp only [PyData.eqv, PyData.eqvAll]
  rw [e, Bool.and_true]
  by_cases h1 : a = b
  · subst h1
    by_cases h2 : i = j
    · subst h2
      simp
    · have q : ((i : Int) == (j : Int)) = false := beq_eq_false_iff_ne.mpr (by omega)
      rw [q, Bool.and_false]
      exact (decide_eq_false fun z => h2 (by injection z)).symm
  · have q : (wd a == wd b) = false := beq_eq_false_iff_ne.mpr fun z => h1 (wd_inj.mp z)
    rw [q, Bool.false_and]
    exact (decide_eq_false fun z => h1 (by injection z)).symm
theorem shaped_lt (l : Lt) : SeqAt.shaped (py (ltD l)) = true := by
  unfold SeqAt.shaped
  rw [lay_lt, depth_lt]
  rfl
theorem lays_lt : ∀ ls : List Lt, PyData.canLayAll0 (pys (ls.map ltD)) = true
  | [] => rfl
  | l :: ls => by
    show PyData.canLayAll0 (py (ltD l) :: pys (ls.map ltD)) = true
    unfold PyData.canLayAll0
    rw [lay_lt, lays_lt ls]
    rfl
theorem depths_lt : ∀ ls : List Lt, PyData.depthAll (pys (ls.map ltD)) ≤ 1
  | [] => by simp [pys, PyData.depthAll]
  | l :: ls => by
    show PyData.depthAll (py (ltD l) :: pys (ls.map ltD)) ≤ 1
    have := depths_lt ls
    have := depth_lt l
    simp only [PyData.depthAll]
    omega
theorem pls_lt : ∀ ls : List Lt, pls (ls.map ltD) = true
  | [] => rfl
  | l :: ls => by
    show (pl (ltD l) && pls (ls.map ltD)) = true
    rw [pl_lt, pls_lt ls]
    rfl
theorem any_lt (l : Lt) : ∀ ls : List Lt, ((pys (ls.map ltD)).any fun z => PyData.eqv z (py (ltD l))) = decide (l ∈ ls)
  | [] => by simp [pys]
  | m :: ls => by
    show (PyData.eqv (py (ltD m)) (py (ltD l)) || (pys (ls.map ltD)).any fun z => PyData.eqv z (py (ltD l))) = _
    rw [eqv_lt, any_lt l ls]
    by_cases h : m = l
    · subst h
      simp
    · have h' : ¬ l = m := fun e => h e.symm
      simp [h, h']
theorem rr_eqLt {l m : Lt} : RR K (rEqD K) (ltD l) (ltD m) (.bl (decide (l = m))) := fun H v w hv hw Q q =>
  ⟨_, _, Is.dp _ _ hv (pl_lt l), Is.dp _ _ hw (pl_lt m), shaped_lt l, shaped_lt m, q _ H (Ex.refl H) (by rw [eqv_lt]; exact .bl _)⟩
theorem rr_neLt {l m : Lt} : RR K (rNeD K) (ltD l) (ltD m) (.bl (!decide (l = m))) := fun H v w hv hw Q q =>
  ⟨_, _, Is.dp _ _ hv (pl_lt l), Is.dp _ _ hw (pl_lt m), shaped_lt l, shaped_lt m, q _ H (Ex.refl H) (by rw [eqv_lt]; exact .bl _)⟩
theorem shaped_ltL (ls : List Lt) : SeqAt.shaped (.list (pys (ls.map ltD))) = true := by
  unfold SeqAt.shaped PyData.canLay0
  have := depths_lt ls
  rw [lays_lt, Bool.true_and]
  exact decide_eq_true (by simp only [PyData.depth]; omega)
theorem shaped_ltT (ls : List Lt) : SeqAt.shaped (.tuple (pys (ls.map ltD))) = true := by
  unfold SeqAt.shaped PyData.canLay0
  have := depths_lt ls
  rw [lays_lt, Bool.true_and]
  exact decide_eq_true (by simp only [PyData.depth]; omega)
theorem dp_ltL {H : Hp} {v : V} {ls : List Lt} (h : Is K H v (.lst (ls.map ltD))) : Dp K H v (.list (pys (ls.map ltD))) := by
  have := Is.dp _ _ h (by unfold pl; exact pls_lt ls)
  unfold py at this
  exact this
theorem dp_ltT {H : Hp} {v : V} {ls : List Lt} (h : Is K H v (.tup (ls.map ltD))) : Dp K H v (.tuple (pys (ls.map ltD))) := by
  have := Is.dp _ _ h (by unfold pl; exact pls_lt ls)
  unfold py at this
  exact this
theorem rr_inL {l : Lt} {ls : List Lt} : RR K (rInD K) (ltD l) (.lst (ls.map ltD)) (.bl (decide (l ∈ ls))) := fun H v w hv hw Q q =>
  ⟨_, _, Is.dp _ _ hv (pl_lt l), dp_ltL hw, shaped_lt l, shaped_ltL ls, q _ H (Ex.refl H) (by rw [any_lt]; exact .bl _)⟩
theorem rr_inT {l : Lt} {ls : List Lt} : RR K (rInT K false) (ltD l) (.tup (ls.map ltD)) (.bl (decide (l ∈ ls))) := fun H v w hv hw Q q =>
  ⟨_, _, Is.dp _ _ hv (pl_lt l), dp_ltT hw, shaped_lt l, shaped_ltT ls, q _ H (Ex.refl H) (by rw [if_neg Bool.false_ne_true, any_lt]; exact .bl _)⟩
theorem rr_notInT {l : Lt} {ls : List Lt} : RR K (rInT K true) (ltD l) (.tup (ls.map ltD)) (.bl (!decide (l ∈ ls))) := fun H v w hv hw Q q =>
  ⟨_, _, Is.dp _ _ hv (pl_lt l), dp_ltT hw, shaped_lt l, shaped_ltT ls, q _ H (Ex.refl H) (by rw [if_pos rfl, any_lt]; exact .bl _)⟩
theorem pys_ints : ∀ ns : List Int, pys (ns.map .int) = ns.map PyData.int
  | [] => rfl
  | n :: ns => by
    show py (.int n) :: pys (ns.map .int) = _
    rw [pys_ints ns]
    rfl
theorem shaped_ints (ns : List Int) : SeqAt.shaped (.list (ns.map PyData.int)) = true := by
  have h1 : ∀ ns : List Int, PyData.canLayAll0 (ns.map PyData.int) = true := fun ns => by
    induction ns with
    | nil => rfl
    | cons n ns ih =>
      show PyData.canLayAll0 (.int n :: ns.map PyData.int) = true
      unfold PyData.canLayAll0
      rw [ih]
      rfl
  have h2 : ∀ ns : List Int, PyData.depthAll (ns.map PyData.int) = 0 := fun ns => by
    induction ns with
    | nil => rfl
    | cons n ns ih =>
      show PyData.depthAll (.int n :: ns.map PyData.int) = 0
      unfold PyData.depthAll
      rw [ih]
      rfl
  unfold SeqAt.shaped PyData.canLay0
  rw [h1, Bool.true_and]
  exact decide_eq_true (by simp only [PyData.depth]; rw [h2]; omega)
theorem dp_ints {H : Hp} {v : V} {ns : List Int} (h : Is K H v (.lst (ns.map .int))) : Dp K H v (.list (ns.map PyData.int)) := by
  obtain ⟨a, ev, hs⟩ := lst_ints h
  subst ev
  exact .lst hs (intsDp ns)
/-- xs == [] -/
theorem rr_eqNil {ns : List Int} : RR K (rEqD K) (.lst (ns.map .int)) (.lst []) (.bl ns.isEmpty) := fun H v w hv hw Q q =>
  ⟨_, _, dp_ints hv, dp_ints (ns := []) hw, shaped_ints ns, shaped_ints [], q _ H (Ex.refl H) (by
    cases ns with
    | nil => exact .bl true
    | cons n ns => exact .bl false)⟩
end
end Q
/-! Quietdoors: rules by data for dicts, fields, stores, enumerate, zip. -/
namespace Q
open PySem PySem.Spec PyProof.Rows L2
section
variable {K : PySem.W.Frag} {Γ Γ1 Γ' : List En} {ta tb te td : TE} {x y z d r : D} {ds es : List D}
/-! ### dicts -/
def lookK (kvs : List (Lt × D)) (l : Lt) : Option D := (kvs.find? fun p => decide (p.1 = l)).map (·.2)
theorem ltK_inj {l m : Lt} (h : ltK l = ltK m) : l = m := by
  obtain ⟨a, i⟩ := l
  obtain ⟨b, j⟩ := m
  injection h with h1 h2
  injection h2 with h3 _
  have e1 : a = b := wd_inj.mp (Sum.inr.inj h1)
  have e2 : (i : Int) = (j : Int) := Sum.inl.inj h3
  have e3 : i = j := by omega
  rw [e1, e3]
theorem ltK_dec (l m : Lt) : decide (ltK l = ltK m) = decide (l = m) := decide_eq_decide.mpr ⟨ltK_inj, fun e => by rw [e]⟩
theorem IsK.look {H : Hp} : ∀ {raw : List (List Key × V)} {kvs : List (Lt × D)} {l : Lt} {d : D}, IsK K H raw kvs → lookK kvs l = some d → ∃ v, valV raw (ltK l) = some v ∧ Is K H v d
  | _, _, _, _, .nil, e => by cases e
  | _, _, l, d, @IsK.cons _ _ m v d' raw kvs h r, e => by
    unfold lookK at e
    unfold valV
    rw [List.find?_cons] at e ⊢
    have q := ltK_dec m l
    dsimp only at e ⊢
    rw [q]
    cases hd : decide (m = l) with
    | true =>
      rw [hd] at e
      have e1 : d' = d := Option.some.inj e
      exact ⟨v, rfl, e1 ▸ h⟩
    | false =>
      rw [hd] at e
      exact IsK.look r e
theorem Is.lt_t {H : Hp} {v : V} {l : Lt} (h : Is K H v (ltD l)) : ∃ b, v = .ref b ∧ H b = some (.tup ((ltK l).map kV)) := by
  obtain ⟨a, xs, ev, ha, il⟩ := Is.tup_v h
  cases il with
  | cons h1 il =>
    cases il with
    | cons h2 il =>
      cases il
      rw [h1.str_v, h2.int_v] at ha
      exact ⟨a, ev, ha⟩
theorem he_dget {kvs : List (Lt × D)} {l : Lt} (h1 : HE K Γ td (.dct kvs)) (h2 : HE K Γ te (ltD l)) (hl : lookK kvs l = some d) : HE K Γ (tDGet td te) d := fun H0 σ H s Q q =>
  h1 H0 σ H s _ fun v H1 e1 i1 => h2 H0 σ H1 (s.ex e1) _ fun w H2 e2 i2 => by
    obtain ⟨a, o, raw, ev, ha, ik⟩ := (i1.ex e2).dct_v
    obtain ⟨b, ew, hb⟩ := i2.lt_t
    obtain ⟨u, hu, iu⟩ := ik.look hl
    exact ⟨a, u, ev, .inr ⟨raw, ltK l, b, .inr ⟨o, ha⟩, ew, hb, hu.symm⟩, q u H2 (e1.trans e2) iu⟩
theorem IsK.snoc {H : Hp} : ∀ {raw : List (List Key × V)} {kvs : List (Lt × D)} {l : Lt} {d : D} {v : V}, IsK K H raw kvs → Is K H v d → IsK K H (raw ++ [(ltK l, v)]) (kvs ++ [(l, d)])
  | _, _, _, _, _, .nil, h => .cons h .nil
  | _, _, _, _, _, .cons h r, h2 => .cons h (r.snoc h2)
theorem IsK.out {H : Hp} : ∀ {raw : List (List Key × V)} {kvs : List (Lt × D)} {l : Lt}, IsK K H raw kvs → l ∉ kvs.map (·.1) → valV raw (ltK l) = none
  | _, _, _, .nil, _ => rfl
  | _, _, l, @IsK.cons _ _ m v d' raw kvs h r, hn => by
    have h1 : ¬ m = l := fun e => hn (by rw [← e]; exact List.mem_cons_self)
    have h2 : l ∉ kvs.map (·.1) := fun e => hn (List.mem_cons_of_mem _ e)
    rw [valV_neg (by intro e; exact h1 (ltK_inj e))]
    exact IsK.out r h2
theorem IsK.put {H : Hp} {raw : List (List Key × V)} {kvs : List (Lt × D)} {l : Lt} {v : V} (h : IsK K H raw kvs) (hn : l ∉ kvs.map (·.1)) (hv : Is K H v d) : IsK K H (putK raw (ltK l) v) (kvs ++ [(l, d)]) := by
  rw [putK_new _ (h.out hn)]
  exact h.snoc hv
/-- {te: tb for l in ls} -/
theorem hd_dc {ls : List Lt} (v : Lt → D) {wi : TI} {g : TG} {vs : List Nat} (hi : HI K Γ wi (ls.map ltD)) (hn : ls.Nodup) (hz : ls.length ≤ 100000)
    (hb : ∀ l ∈ ls, ∃ (G1 : List En) (ss : List Nat), HG K (wipeG Γ vs) g (ltD l) G1 ss ∧ (∀ i ∈ ss, i ∈ vs) ∧ HE K G1 te (ltD l) ∧ HE K G1 tb (v l)) :
    HD K Γ (tDcT wi g te tb vs) (ls.map fun l => (l, v l)) := fun H0 σ H s Q q => hi H0 σ H s _ fun J H1 e1 w => fun Dl hD => by
  have el : (ls.map ltD).length = ls.length := List.length_map _
  unfold WD at w
  rw [el] at w
  let P : Nat → Hp → Prop := fun i H2 => Ex H1 H2 ∧ ∃ raw, H2 Dl = some (.dT raw) ∧ IsK K H2 raw ((ls.take i).map fun l => (l, v l))
  refine ⟨fun i m H2 => m = ls.length - i ∧ i ≤ ls.length ∧ P i H2, ⟨ls.length, rfl, Nat.zero_le _, Ex.new hD, [], upd_same, .nil⟩, fun i m H2 ⟨em, hi, p1, raw, p2, p3⟩ => ?_⟩
  subst em
  by_cases hlt : i < ls.length
  · refine .inr ⟨w.goes i H2 hlt p1.i, P (i + 1), fun H' p' => ⟨ls.length - (i + 1), by omega, rfl, hlt, p'⟩, fun a H3 y => ?_⟩
    obtain ⟨e3, dd, hd, hid⟩ := w.yields i H2 a H3 hlt p1.i y
    have ex : ls[i]? = some ls[i] := List.getElem?_eq_getElem hlt
    rw [List.getElem?_map, ex] at hd
    have ed : ltD ls[i] = dd := Option.some.inj hd
    subst ed
    obtain ⟨G1, ss, hg, hss, hk, hv⟩ := hb ls[i] (List.getElem_mem hlt)
    have s3 : Sat K H0 H3 (wipeG Γ vs) (L2.wipe σ vs) := ((s.ex e1).ex (p1.trans e3)).wipe vs
    refine hg H0 _ H3 a s3 hid _ fun σ2 s2 w2 => ⟨?_, ?_⟩
    · rw [w2 vs hss]
      exact hl_lc.L2_wipe_wipe σ vs
    · refine hk H0 σ2 H3 s2 _ fun u H4 e4 iu => hv H0 σ2 H4 (s2.ex e4) _ fun z H5 e5 iz => ?_
      obtain ⟨b, eb, hb5⟩ := (iu.ex e5).lt_t
      have h5 : H5 Dl = some (.dT raw) := e5 _ _ (e4 _ _ (e3 _ _ p2))
      have hlen := p3.length
      rw [List.length_map, List.length_take] at hlen
      have hni : ls[i] ∉ ((ls.take i).map fun l => (l, v l)).map (·.1) := by
        rw [List.map_map]
        show ls[i] ∉ (ls.take i).map fun l => l
        rw [List.map_id']
        intro hm
        obtain ⟨j, hj, ej⟩ := List.mem_iff_getElem.mp hm
        rw [List.length_take] at hj
        rw [List.getElem_take] at ej
        have := (List.getElem_inj hn).mp ej
        omega
      refine ⟨raw, ltK ls[i], b, eb, hb5, h5, small_lt (by omega), (p1.trans (e3.trans (e4.trans e5))).mut hD, _, upd_same, ?_⟩
      rw [List.take_succ_eq_append_getElem hlt, List.map_append]
      exact ((p3.mono (e3.trans (e4.trans e5)).i).put hni iz).mono (ExI.upd h5 fun z => z)
  · have ei : i = ls.length := by omega
    subst ei
    rw [List.take_length] at p3
    exact .inl ⟨w.stops H2 p1.i, q Dl raw H2 (e1.none hD) (e1.trans p1) p2 p3⟩
/-- d[l] = v, l not there yet -/
theorem hs_dput {i : Nat} {kvs : List (Lt × D)} {l : Lt} (hi : Γ[i]? = some (.ownT kvs)) (hz : kvs.length < 100000) (hn : noOwn (Γ.set i .no) = true) (h1 : HE K Γ te (ltD l)) (h2 : HE K Γ tb d) (hl : l ∉ kvs.map (·.1)) :
    HS K Γ (sDPut (tVar i) te tb) r True (Γ.set i (.ownT (kvs ++ [(l, d)]))) := fun H0 σ H E e0 s hr hx => h2 H0 σ H s _ fun v H1 e1 i1 => by
  obtain ⟨o, ho, a, raw, eo, hl0, ha, ik⟩ := (s.ex e1).get hi
  subst eo
  refine ⟨.ref a, ho, h1 H0 σ H1 (s.ex e1) _ fun w H2 e2 i2 => ?_⟩
  obtain ⟨b, ew, hb⟩ := i2.lt_t
  subst ew
  have ha2 := e2 _ _ ha
  have hlen := ik.length
  refine ⟨a, _, rfl, .inr ⟨raw, ltK l, b, ha2, rfl, hb, small_lt (by omega), rfl⟩, ?_⟩
  have x2 : ExI H2 (upd H2 a (.dT (putK raw (ltK l) v))) := ExI.upd ha2 fun z => z
  refine hx True.intro σ _ ((e0.trans (e1.trans e2)).mut hl0) ((e1.trans e2).i.trans x2) ?_
  have s2 : Sat K H0 (upd H2 a (.dT (putK raw (ltK l) v))) (Γ.set i .no) σ := Sat.exi hn (s.ex (e1.trans e2)).drop1 x2
  have s3 := s2.tell (i := i) (en := .ownT (kvs ++ [(l, d)])) ho ⟨a, _, rfl, hl0, upd_same, ((ik.mono e2.i).put hl (i1.ex e2)).mono x2⟩
  rw [List.set_set] at s3
  exact s3
/-- xs[j] = v -/
theorem hs_setI {i j : Nat} {k : Int} (hi : Γ[i]? = some (.own ds)) (hj : ixN ds.length k = some j) (hn : noOwn (Γ.set i .no) = true) (h1 : HE K Γ te (.int k)) (h2 : HE K Γ tb d) : HS K Γ (tAsg tb (gSub (tVar i) te rSetL)) r True (Γ.set i (.own (ds.set j d))) := fun H0 σ H E e0 s hr hx => h2 H0 σ H s _ fun v H1 e1 i1 => by
  obtain ⟨o, ho, a, xs, eo, hl0, ha, il⟩ := (s.ex e1).get hi
  subst eo
  refine ⟨.ref a, ho, h1 H0 σ H1 (s.ex e1) _ fun w H2 e2 i2 => ?_⟩
  have ha2 := e2 _ _ ha
  refine ⟨a, xs, k, j, rfl, i2.int_v, ha2, by rw [il.length]; exact hj, ?_⟩
  have x2 : ExI H2 (upd H2 a (.lst (xs.set j v))) := ExI.upd ha2 fun z => z
  refine hx True.intro σ _ ((e0.trans (e1.trans e2)).mut hl0) ((e1.trans e2).i.trans x2) ?_
  have s2 : Sat K H0 (upd H2 a (.lst (xs.set j v))) (Γ.set i .no) σ := Sat.exi hn (s.ex (e1.trans e2)).drop1 x2
  have st : ∀ {xs : List V} {ds : List D} (j : Nat), IsL K H2 xs ds → IsL K H2 (xs.set j v) (ds.set j d) := fun {xs ds} => by
    intro j h
    induction h using IsL.rec (motive_1 := fun _ _ _ => True) (motive_3 := fun _ _ _ => True) generalizing j with
    | nil => exact .nil
    | cons hv hr _ ih =>
      cases j with
      | zero => exact .cons (i1.ex e2) hr
      | succ j => exact .cons hv (ih j)
    | _ => trivial
  have s3 := s2.tell (i := i) (en := .own (ds.set j d)) ho ⟨a, _, rfl, hl0, upd_same, (st j (il.ex e2)).mono x2⟩
  rw [List.set_set] at s3
  exact s3
/-! ### fields -/
structure Fz (K : PySem.W.Frag) : Prop where
  cB : Cls K (He.ga K "Box")
  cR : Cls K (He.ga K "Row")
  cT : Cls K (He.ga K "Talk")
  bP : NoAttr K (He.ga K "Box") "kept_parts"
  rB : NoAttr K (He.ga K "Row") "kept_boxes"
  rL : NoAttr K (He.ga K "Row") "kept_links"
  tO : NoAttr K (He.ga K "Talk") "kept_out"
  tB : NoAttr K (He.ga K "Talk") "kept_back"
  tL : NoAttr K (He.ga K "Talk") "kept_losses"
theorem he_rB (F : Fz K) {R : RowR} (h : HE K Γ te (.row R)) : HE K Γ (tFld K te "kept_boxes") (.tup (R.boxes.map .box)) := fun H0 σ H s Q q => h H0 σ H s _ fun v H1 e1 i1 => by
  cases i1 with
  | row h b l => exact ⟨_, _, _, _, _, rfl, h, F.cR, F.rB, rfl, q _ H1 e1 b⟩
theorem he_rL (F : Fz K) {R : RowR} (h : HE K Γ te (.row R)) : HE K Γ (tFld K te "kept_links") (.tup (R.links.map prD)) := fun H0 σ H s Q q => h H0 σ H s _ fun v H1 e1 i1 => by
  cases i1 with
  | row h b l => exact ⟨_, _, _, _, _, rfl, h, F.cR, F.rL, by rw [lookup_skip (by decide +kernel)]; rfl, q _ H1 e1 l⟩
theorem he_tO (F : Fz K) {T : TalkR} (h : HE K Γ te (.talk T)) : HE K Γ (tFld K te "kept_out") (.tup (T.out.map .int)) := fun H0 σ H s Q q => h H0 σ H s _ fun v H1 e1 i1 => by
  cases i1 with
  | talk h b l => exact ⟨_, _, _, _, _, rfl, h, F.cT, F.tO, rfl, q _ H1 e1 b⟩
theorem he_tB (F : Fz K) {T : TalkR} (h : HE K Γ te (.talk T)) : HE K Γ (tFld K te "kept_back") (.tup (T.back.map .int)) := fun H0 σ H s Q q => h H0 σ H s _ fun v H1 e1 i1 => by
  cases i1 with
  | talk h b l => exact ⟨_, _, _, _, _, rfl, h, F.cT, F.tB, by rw [lookup_skip (by decide +kernel)]; rfl, q _ H1 e1 l⟩
theorem he_tL (F : Fz K) {T : TalkR} (h : HE K Γ te (.talk T)) : HE K Γ (tFld K te "kept_losses") (.int T.loss) := fun H0 σ H s Q q => h H0 σ H s _ fun v H1 e1 i1 => by
  cases i1 with
  | talk h b l => exact ⟨_, _, _, _, _, rfl, h, F.cT, F.tL, by rw [lookup_skip (by decide +kernel), lookup_skip (by decide +kernel)]; rfl, q _ H1 e1 (.int _)⟩
/-- self.kept_parts[f] -/
theorem he_bP (F : Fz K) {B : BoxR} {f : Str} {v : V} (h : HE K Γ te (.box B)) (hv : valV (partsK B) (.inr f) = some v) (hd : ∀ H, Is K H v d) : HE K Γ (tDGet (tFld K te "kept_parts") (tC (.str f))) d := fun H0 σ H s Q q => h H0 σ H s _ fun u H1 e1 i1 => by
  cases i1 with
  | box h p => exact ⟨_, _, _, _, _, rfl, h, F.cB, F.bP, rfl, _, v, rfl, .inl ⟨_, .inr f, .inr ⟨_, p⟩, rfl, hv.symm⟩, q v H1 e1 (hd H1)⟩
/-! ### t[:0:-1] -/
theorem he_down {n : Nat} (h : HE K Γ te (.tup (x :: ds))) : HE K Γ (tDown K te) (.tup ds.reverse) := fun H0 σ H s Q q => h H0 σ H s _ fun v H1 e1 i1 => by
  obtain ⟨a, xs, ev, ha, il⟩ := i1.tup_v
  cases il with
  | cons hv il => exact ⟨a, _, _, ev, SqT.of ha, fun p hp => q _ _ (e1.trans (Ex.new hp)) (.tup upd_same ((il.ex (Ex.new hp)).rev))⟩
/-! ### enumerate, zip -/
def enD {α : Type} (enc : α → D) (p : α × Nat) : D := .tup [.int (p.2 : Int), enc p.1]
def ziD {α β : Type} (enc : α → D) (enc' : β → D) (p : α × β) : D := .tup [enc p.1, enc' p.2]
theorem hi_enumT {α : Type} {xs : List α} {enc : α → D} (h : HE K Γ te (.tup (xs.map enc))) : HI K Γ (iEnumT K (tCons te tNil)) (xs.zipIdx.map (enD enc)) := fun H0 σ H s R q => h H0 σ H s _ fun v H1 e1 i1 => by
  obtain ⟨a, us, ev, ha, il⟩ := i1.tup_v
  subst ev
  refine ⟨a, us, rfl, SqT.of ha, q _ H1 e1 ?_⟩
  have hl : (xs.zipIdx.map (enD enc)).length = us.length := by
    rw [il.length]
    simp
  unfold WD
  rw [hl]
  refine ⟨fun i H2 hi g => ⟨SqT.of (g _ _ ha im_tup), hi⟩, fun H2 g => ⟨SqT.of (g _ _ ha im_tup), Nat.le_refl _⟩, fun i H2 v H3 hi g y => ?_⟩
  obtain ⟨T, u, ev, hT, eH, hu⟩ := y
  subst ev eH
  obtain ⟨d, hd, hid⟩ := (il.mono g).getV hu
  rw [List.getElem?_map] at hd
  cases hx : xs[i]? with
  | none =>
    rw [hx] at hd
    cases hd
  | some b =>
    rw [hx] at hd
    have ed : enc b = d := Option.some.inj hd
    subst ed
    exact ⟨Ex.new hT, _, by rw [List.getElem?_map, List.getElem?_zipIdx, hx]; rfl, .tup upd_same (by simpa using IsL.cons (.int (i : Int)) (.one (hid.ex (Ex.new hT))))⟩
theorem zip_at {H1 H2 : Hp} {α β : Type} {xs : List α} {ys : List β} {enc : α → D} {enc' : β → D} {us ws : List V} {i : Nat} {u w : V} (i1 : IsL K H1 us (xs.map enc)) (i2 : IsL K H1 ws (ys.map enc')) (g : ExI H1 H2) (hu : us[i]? = some u) (hw : ws[i]? = some w) {T : Addr} (hT : H2 T = none) :
    Ex H2 (upd H2 T (.tup [u, w])) ∧ ∃ d, ((xs.zip ys).map (ziD enc enc'))[i]? = some d ∧ Is K (upd H2 T (.tup [u, w])) (.ref T) d := by
  obtain ⟨d1, h1, j1⟩ := (i1.mono g).getV hu
  obtain ⟨d2, h2, j2⟩ := (i2.mono g).getV hw
  rw [List.getElem?_map] at h1 h2
  cases hx : xs[i]? with
  | none =>
    rw [hx] at h1
    cases h1
  | some a =>
    cases hy : ys[i]? with
    | none =>
      rw [hy] at h2
      cases h2
    | some b =>
      rw [hx] at h1
      rw [hy] at h2
      have q1 : enc a = d1 := Option.some.inj h1
      have q2 : enc' b = d2 := Option.some.inj h2
      subst q1 q2
      exact ⟨Ex.new hT, _, by rw [List.getElem?_map, (List.getElem?_zip_eq_some (z := (a, b))).mpr ⟨hx, hy⟩]; rfl, .tup upd_same (.cons (j1.ex (Ex.new hT)) (.one (j2.ex (Ex.new hT))))⟩
theorem hi_zipL {α β : Type} {xs : List α} {ys : List β} {enc : α → D} {enc' : β → D} (h1 : HE K Γ te (.lst (xs.map enc))) (h2 : HE K Γ tb (.lst (ys.map enc'))) : HI K Γ (RZ.iZipA K (tCons te (tCons tb tNil))) ((xs.zip ys).map (ziD enc enc')) := fun H0 σ H s R q =>
  h1 H0 σ H s _ fun v H1 e1 i1 => h2 H0 σ H1 (s.ex e1) _ fun w H2 e2 i2 => by
    obtain ⟨a, o, us, ev, ha, il⟩ := (i1.ex e2).lst_v
    obtain ⟨b, o', ws, ew, hb, jl⟩ := i2.lst_v
    subst ev ew
    refine ⟨a, b, us, ws, rfl, .inl ⟨.inl (.inr ⟨o, ha⟩), .inl (.inr ⟨o', hb⟩), q _ H2 (e1.trans e2) ?_⟩⟩
    have wk := walk_zip (K := K) (a := a) (b := b) (xs := us) (ys := ws) (n := ((xs.zip ys).map (ziD enc enc')).length) (by simp [il.length, jl.length])
    refine wk.mono (fun H3 g => ⟨.inl (.inr ⟨o, g _ _ ha im_frz⟩), .inl (.inr ⟨o', g _ _ hb im_frz⟩)⟩) fun i H3 x H4 _ g y => ?_
    obtain ⟨T, u, w, ex, hT, eH, hu, hw⟩ := y
    subst ex eH
    exact zip_at il jl g hu hw hT
theorem hi_zipT {α β : Type} {xs : List α} {ys : List β} {enc : α → D} {enc' : β → D} (h1 : HE K Γ te (.tup (xs.map enc))) (h2 : HE K Γ tb (.tup (ys.map enc'))) : HI K Γ (RZ.iZipA K (tCons te (tCons tb tNil))) ((xs.zip ys).map (ziD enc enc')) := fun H0 σ H s R q =>
  h1 H0 σ H s _ fun v H1 e1 i1 => h2 H0 σ H1 (s.ex e1) _ fun w H2 e2 i2 => by
    obtain ⟨a, us, ev, ha, il⟩ := (i1.ex e2).tup_v
    obtain ⟨b, ws, ew, hb, jl⟩ := i2.tup_v
    subst ev ew
    refine ⟨a, b, us, ws, rfl, .inr ⟨SqT.of ha, SqT.of hb, q _ H2 (e1.trans e2) ?_⟩⟩
    have hl : ((xs.zip ys).map (ziD enc enc')).length = min us.length ws.length := by simp [il.length, jl.length]
    unfold WD
    rw [hl]
    refine ⟨fun i H3 hi g => ⟨us, ws, us[i]'(by omega), ws[i]'(by omega), SqT.of (g _ _ ha im_tup), SqT.of (g _ _ hb im_tup), List.getElem?_eq_getElem _, List.getElem?_eq_getElem _⟩,
      fun H3 g => ⟨us, ws, SqT.of (g _ _ ha im_tup), SqT.of (g _ _ hb im_tup), by omega⟩, fun i H3 x H4 _ g y => ?_⟩
    obtain ⟨T, u, w, ex, hT, eH, hu, hw⟩ := y
    subst ex eH
    exact zip_at il jl g (hu us (SqT.of (g _ _ ha im_tup))) (hw ws (SqT.of (g _ _ hb im_tup))) hT
end
end Q
/-! Quietdoors: packaged callees, a def's promise by data, small rules. -/
namespace Q
open PySem PySem.Spec PyProof.Rows L2
/-! ### the text's facts -/
def frees : List Str := ["len", "isinstance", "all", "sum", "max", "sorted", "repr", "int", "str", "bool", "list", "tuple", "dict", "range", "enumerate", "zip"]
structure Txt (K : PySem.W.Frag) (mg : Str → Option Value) : Prop where
  fz : Fz K
  fr : ∀ x : Str, frees.contains x = true → mg x = none
  cBox : Cls K (He.ga K "Box")
  cRow : Cls K (He.ga K "Row")
  cTalk : Cls K (He.ga K "Talk")
  iBox : C8.InsC K (He.ga K "Box")
  gBox : mg "Box" = some (.ref (He.ga K "Box"))
  gRow : mg "Row" = some (.ref (He.ga K "Row"))
  gTalk : mg "Talk" = some (.ref (He.ga K "Talk"))
  gPARTS : mg "PARTS" = some (.ref (He.ga K "PARTS"))
  tPARTS : ∀ H, SqT K H (He.ga K "PARTS") [.str "low", .str "high", .str "rest", .str "sees"]
  mkBox : Mk K (He.ga K "Box") (He.ma K (He.ga K "Box") "__init__")
  mkRow : Mk K (He.ga K "Row") (He.ma K (He.ga K "Row") "__init__")
  mkTalk : Mk K (He.ga K "Talk") (He.ma K (He.ga K "Talk") "__init__")
  mMOST_TIME : ∃ t, mg "MOST_TIME" = some (.int 10000 t)
  mMOST_BOXES : ∃ t, mg "MOST_BOXES" = some (.int 4 t)
  mMOST_LINK : ∃ t, mg "MOST_LINK" = some (.int 1000 t)
  mMOST_TIMES : ∃ t, mg "MOST_TIMES" = some (.int 60 t)
  mMOST_LOSSES : ∃ t, mg "MOST_LOSSES" = some (.int 5 t)
/-! ### callees -/
section
variable (P : Program) (w : World) (K : PySem.W.Frag) (mg : Str → Option Value) (base : Heap)
def Cal (x : Str) (n : Nat) (ps : List Str) (sp : Sp) : Prop := ∃ f fd, FnOk P w K mg base L2.CX0 n f fd ps sp ∧ mg x = some (.ref f) ∧ PySem.W.keepIn K (.ref f) = true ∧ Binds K fd ps []
def CalM (c m : Str) (n : Nat) (ps : List Str) (sp : Sp) : Prop := ∃ f fd, Meth K (He.ga K c) m f ∧ FnOk P w K mg base L2.CX0 n f fd ps sp ∧ Binds K fd ps []
def CalP (c m : Str) (n : Nat) (sp : Sp) : Prop := ∃ p g fd, PropOf K (He.ga K c) m p g ∧ FnOk P w K mg base L2.CX0 n g fd ["self"] sp ∧ Binds K fd ["self"] []
end
section
variable {X : Cx} {x m c : Str} {n k : Nat} {ps : List Str} {sp : Sp} {p pos apos : Pos} {e o : Expr} {es : List Expr} {t : TA} {ta : TE}
theorem pe_cal (C : Cal X.prog X.w X.K X.mg X.base x n ps sp) (hr : Room n X.A) (hg : Gl X x) (ha : PA X (e :: es) t) (hdb : (x == ("__debug__" : Str)) = false := by decide) (he : starEach (e :: es) X.env = (false, eval e X.env) :: starEach es X.env := by rfl) (hpl : (backTo pos (starEach es X.env)).any (·.1) = false := by rfl) :
    PE X (.Call (.Name x p) (e :: es) [] pos) (tCall sp [] L2.E0 t) := by
  obtain ⟨f, fd, F, hm, hk, hb⟩ := C
  exact pe_call F hr hg hm hk hb .nil L2.pass0 ha hdb he hpl
theorem pe_mth {pl : Sem Bool} (he : PE X o ta) (c' : Cls X.K (He.ga X.K c)) (hr : Room n X.A) (C : CalM X.prog X.w X.K X.mg X.base c m n ps sp) (ha : PA X (e :: es) t)
    (hst : starEach (e :: es) X.env = (false, eval e X.env) :: starEach es X.env := by rfl) (hpl : (backTo pos (starEach es X.env)).any (·.1) = false := by rfl)
    (ht : eval (.Call (.Attribute o m apos) (e :: es) [] pos) X.env = (do
      let ov ← eval o X.env
      standAt apos.atName
      let (f, first) ← holding [ov] (getMethod ov m pl)
      callWith pos f first (backTo pos (starEach (e :: es) X.env)) (backToKw pos (keywordEach [] X.env))) := by rfl) :
    PE X (.Call (.Attribute o m apos) (e :: es) [] pos) (tMeth (He.ga X.K c) m sp [] L2.E0 ta t) := by
  obtain ⟨f, fd, hm, F, hb⟩ := C
  exact pe_meth he c' hm F hr hb .nil L2.pass0 ha hst hpl ht
theorem pe_mth0 {pl : Sem Bool} (he : PE X o ta) (c' : Cls X.K (He.ga X.K c)) (hr : Room n X.A) (C : CalM X.prog X.w X.K X.mg X.base c m n ps sp)
    (ht : eval (.Call (.Attribute o m apos) [] [] pos) X.env = (do
      let ov ← eval o X.env
      standAt apos.atName
      let (f, first) ← holding [ov] (getMethod ov m pl)
      callWith pos f first (backTo pos (starEach [] X.env)) (backToKw pos (keywordEach [] X.env))) := by rfl) :
    PE X (.Call (.Attribute o m apos) [] [] pos) (tMeth (He.ga X.K c) m sp [] L2.E0 ta tNil) := by
  obtain ⟨f, fd, hm, F, hb⟩ := C
  exact pe_meth0 he c' hm F hr hb .nil L2.pass0 ht
theorem pe_prp (he : PE X e ta) (c' : Cls X.K (He.ga X.K c)) (hr : Room (n + 1) X.A) (C : CalP X.prog X.w X.K X.mg X.base c m n sp) (hab : attributeBase e m X.env (eval e X.env) = eval e X.env := by rfl) :
    PE X (.Attribute e m pos) (tProp (He.ga X.K c) sp [] L2.E0 ta) := by
  obtain ⟨p, g, fd, hp, F, hb⟩ := C
  exact pe_prop he c' hp F hr hb .nil L2.pass0 hab
theorem call_lenC (hr : Room (n + 1) X.A) (C : CalM X.prog X.w X.K X.mg X.base c "__len__" n ["self"] sp) : CallR X (.builtin "len") (rLenO (He.ga X.K c) sp) := by
  obtain ⟨f, fd, hm, F, hb⟩ := C
  exact call_lenO hm F hr hb
theorem op_inC (hr : Room n X.A) (C : CalM X.prog X.w X.K X.mg X.base c "__contains__" n ["self", "letter"] sp) (hnx : X.xe = fun _ _ => False) : OpR X (compareOp .In) (rInO (He.ga X.K c) sp false) := by
  obtain ⟨f, fd, hm, F, hb⟩ := C
  exact op_inO hm F hr hb hnx
theorem room65 {A : Around} (hr : Room k A) : A.units + 65 < cLine := by
  have := hr.un
  omega
theorem Room.lt {j k : Nat} {A : Around} (r : Room k A) (h : decide (j ≤ k) = true) : Room j A := r.mono (of_decide_eq_true h)
end
/-! ### a def by data -/
def G0 (N : List Str) (ds : List D) : List En := ds.map .da ++ List.replicate (N.length - ds.length) .no
theorem sat0 {K : PySem.W.Frag} {H0 H : Hp} (N : List Str) : ∀ {vs : List V} {ds : List D}, IsL K H vs ds → Sat K H0 H (G0 N ds) (L2.start N vs) := fun {vs ds} h => by
  have hn : ∀ n, Sat K H0 H (List.replicate n .no) (List.replicate n none) := fun n => by
    induction n with
    | zero => exact .nil
    | succ n ih => exact .cons True.intro ih
  have : ∀ (n : Nat) {vs : List V} {ds : List D}, IsL K H vs ds → Sat K H0 H (ds.map .da ++ List.replicate n .no) (vs.map some ++ List.replicate n none) := fun n vs ds h => by
    induction vs generalizing ds with
    | nil =>
      cases h
      exact hn n
    | cons v vs ih =>
      cases h with
      | cons a r => exact .cons ⟨v, rfl, a⟩ (ih _ r)
  unfold G0 L2.start
  rw [h.length]
  exact this _ h
section
variable {P : Program} {w : World} {K : PySem.W.Frag} {mg : Str → Option Value} {base : Heap}
theorem fn_hs {x qual : Str} {params : Arguments} {body : List Stmt} {scope : Scope} {dvs : List V} {kws : List (Str × V)} {f : Addr} {fd : FuncData} {N ps : List Str} {k : Nat} {rel : List D → D → Prop} (F : FunD K x qual params body scope dvs kws f fd) (S : FnScope N ps scope)
    (hl : ∀ ds r, rel ds r → ds.length = ps.length)
    (h : ∀ (cdv : Value) (A : Around) (outer : List Env) (s : Shared) (H : Hp) (E : XK), Room k (A.deeper (envOfC qual scope s.heap.objs.size f cdv)) →
      ∃ t, PSs (cxOf L2.CX0 P w K mg base N qual scope f cdv A outer s H E).nox body t ∧ ∀ ds r, rel ds r → ∃ Γ', HS K (G0 N ds) t r (r = .non) Γ') : FnOk P w K mg base L2.CX0 (k + 1) f fd ps (SpR K rel) := by
  refine F.ok S (fun vs H Q E q => ?_) (fun cdv A outer s H vs Q E hr q => ?_)
  · obtain ⟨ds, r, q1, q2, _⟩ := q
    rw [q2.length]
    exact hl ds r q1
  · obtain ⟨t, h1, h2⟩ := h cdv A outer s H E hr
    obtain ⟨ds, r, q1, q2, q3⟩ := q
    obtain ⟨Γ', h3⟩ := h2 ds r q1
    exact ⟨t, h1.nox, h3 H _ H _ (Ex.refl H) (sat0 N q2) (fun v H' e i => q3 v H' e i) fun c σ' H' e _ _ => q3 .non H' e (by rw [c]; exact .non)⟩
end
/-! ### small rules -/
section
variable {K : PySem.W.Frag} {Γ Γ1 Γ' : List En} {ta tb tc te : TE} {t u : TT} {x y z d r : D} {ds es : List D}
theorem he_chain {r r' : R2} {a b : Bool} (h1 : HE K Γ ta x) (h2 : HE K Γ tb y) (hr : RR K r x y (.bl a)) (h3 : HE K Γ tc z) (hr' : RR K r' y z (.bl b)) : HE K Γ (tChain r r' ta tb tc) (.bl (a && b)) := fun H0 σ H s Q q =>
  h1 H0 σ H s _ fun v H1 e1 i1 => h2 H0 σ H1 (s.ex e1) _ fun w H2 e2 i2 => hr H2 v w (i1.ex e2) i2 _ fun u H3 e3 i3 => ⟨a, i3.bl_v, by
    cases a with
    | true =>
      rw [if_pos rfl]
      exact h3 H0 σ H3 (s.ex (e1.trans (e2.trans e3))) _ fun w' H4 e4 i4 => hr' H4 w w' (i2.ex (e3.trans e4)) i4 Q fun u' H5 e5 i5 => q u' H5 (e1.trans (e2.trans (e3.trans (e4.trans e5)))) (by simpa using i5)
    | false =>
      rw [if_neg (by decide)]
      exact q _ H3 (e1.trans (e2.trans e3)) (.bl _)⟩
theorem hl_cat (h1 : HL K Γ ta ds) (h2 : HL K Γ tb es) (hz : ds.length + es.length ≤ 100000) : HL K Γ (tOp rCat ta tb) (ds ++ es) := fun H0 σ H s Q q =>
  h1 H0 σ H s _ fun p xs H1 hp e1 g1 i1 => h2 H0 σ H1 (s.ex e1) _ fun p2 ys H2 hp2 e2 g2 i2 => ⟨p, p2, xs, ys, rfl, rfl, e2 _ _ g1, g2, small_line (by rw [i1.length, i2.length]; exact hz), fun p3 h3 =>
    q p3 _ _ ((e1.trans e2).none h3) ((e1.trans e2).trans (Ex.new h3)) upd_same (((i1.ex e2).app i2).ex (Ex.new h3))⟩
/-- an own list that still stands, and a new one behind it -/
theorem hl_catV {i : Nat} (hi : Γ[i]? = some (.own ds)) (h2 : HL K Γ tb es) (hz : ds.length + es.length ≤ 100000) : HL K Γ (tOp rCat (tVar i) tb) (ds ++ es) := fun H0 σ H s Q q => by
  obtain ⟨o, h1, l, xs, eo, hl0, hl, il⟩ := s.get hi
  subst eo
  exact ⟨_, h1, h2 H0 σ H s _ fun p2 ys H2 hp2 e2 g2 i2 => ⟨l, p2, xs, ys, rfl, rfl, e2 _ _ hl, g2, small_line (by rw [il.length, i2.length]; exact hz), fun p3 h3 =>
    q p3 _ _ (e2.none h3) (e2.trans (Ex.new h3)) upd_same (((il.ex e2).app i2).ex (Ex.new h3))⟩⟩
theorem he_isNx {a : Bool} (h : HE K Γ ta d) (hd : a = true ↔ d = .non) : HE K Γ (tOp (fun x y H Q => y = V.non ∧ Q (.bl (decide (x = .non))) H) ta (tC .non)) (.bl a) := fun H0 σ H s Q q => h H0 σ H s _ fun v H1 e1 i1 => ⟨rfl, by
  have e : decide (v = V.non) = a := by
    cases a with
    | true =>
      have := hd.mp rfl
      subst this
      rw [i1.non_v]
      rfl
    | false =>
      refine decide_eq_false fun q => ?_
      subst q
      cases i1
      exact absurd (hd.mpr rfl) (by decide)
  rw [e]
  exact q _ H1 e1 (.bl a)⟩
theorem he_isNo {a : Bool} (h : HE K Γ ta d) (hd : a = true ↔ d = .non) : HE K Γ (tOp (fun x y H Q => y = V.non ∧ Q (.bl (!decide (x = .non))) H) ta (tC .non)) (.bl !a) := fun H0 σ H s Q q => h H0 σ H s _ fun v H1 e1 i1 => ⟨rfl, by
  have e : decide (v = V.non) = a := by
    cases a with
    | true =>
      have := hd.mp rfl
      subst this
      rw [i1.non_v]
      rfl
    | false =>
      refine decide_eq_false fun q => ?_
      subst q
      cases i1
      exact absurd (hd.mpr rfl) (by decide)
  rw [e]
  exact q _ H1 e1 (.bl _)⟩
theorem rr_isB {a b : Bool} : RR K rIsB (.bl a) (.bl b) (.bl (decide (a = b))) := fun H v w h1 h2 Q q => ⟨a, b, h1.bl_v, h2.bl_v, q _ H (Ex.refl H) (.bl _)⟩
theorem rr_notB {a b : Bool} : RR K rNotB (.bl a) (.bl b) (.bl (!decide (a = b))) := fun H v w h1 h2 Q q => ⟨a, b, h1.bl_v, h2.bl_v, q _ H (Ex.refl H) (.bl _)⟩
theorem str_beq (s t : Str) : (t == s) = decide (s = t) := by
  by_cases h : s = t
  · subst h
    rw [beq_self_eq_true, decide_eq_true rfl]
  · rw [beq_eq_false_iff_ne.mpr (Ne.symm h), decide_eq_false h]
/-- s in ("a", "b") -/
theorem rr_inS {s a b : Str} : RR K (rIn K false) (.str s) (.tup [.str a, .str b]) (.bl (decide (s = a) || decide (s = b))) := fun H v w h1 h2 Q q => by
  obtain ⟨p, xs, ew, hp, il⟩ := h2.tup_v
  cases il with
  | cons a1 il =>
    cases il with
    | cons a2 il =>
      cases il
      refine ⟨p, _, ew, .inr (SqT.of hp), ?_, ?_, q _ H (Ex.refl H) ?_⟩
      · rw [h1.str_v]
        rfl
      · rw [a1.str_v, a2.str_v]
        rfl
      · rw [h1.str_v, a1.str_v, a2.str_v]
        have e : (if false = true then !inV (V.str s) [V.str a, V.str b] else inV (V.str s) [V.str a, V.str b]) = (decide (s = a) || decide (s = b)) := by
          rw [if_neg Bool.false_ne_true]
          show ((a == s) || ((b == s) || false)) = _
          rw [str_beq s a, str_beq s b, Bool.or_false]
        rw [e]
        exact .bl _
theorem he_isC {B : BoxR} {C : Addr} (hC : C = He.ga K "Box") (h : HE K Γ te (.box B)) : HE K Γ (tCB (fun xs H Q => ∃ a dx fs, xs = [V.ref a, V.ref C] ∧ H a = some (.ins C dx fs) ∧ Q (.bl true) H) (tCons te (tCons (tC (.ref C)) tNil))) (.bl true) := fun H0 σ H s Q q => h H0 σ H s _ fun v H1 e1 i1 => by
  obtain ⟨a, dx, fs, ev, ha, _⟩ := i1.ins (c := "Box") (m := "low") rfl
  subst ev hC
  exact ⟨a, dx, fs, rfl, ha, q _ H1 e1 (.bl true)⟩
theorem rr_notInT2 {l a b : Lt} : RR K (rInT K true) (ltD l) (.tup [ltD a, ltD b]) (.bl (!decide (l = a) && !decide (l = b))) := by
  have h := rr_notInT (K := K) (l := l) (ls := [a, b])
  have e : (!decide (l ∈ [a, b])) = (!decide (l = a) && !decide (l = b)) := by simp
  rw [e] at h
  exact h
theorem he_ixOwn {i : Nat} {k : Int} (hi : Γ[i]? = some (.own ds)) (h : HE K Γ te (.int k)) (e : atI ds k = some d) : HE K Γ (tOp (rIxL K) (tVar i) te) d := fun H0 σ H s Q q => by
  obtain ⟨o, h1, l, xs, eo, hl0, hl, il⟩ := s.get hi
  subst eo
  refine ⟨_, h1, h H0 σ H s _ fun v H1 e1 i1 => ?_⟩
  obtain ⟨u, g1, g2⟩ := atI_is (il.ex e1) e
  exact ⟨l, xs, k, u, rfl, i1.int_v, SqL.of (e1 _ _ hl), g1, q u H1 e1 g2⟩
theorem he_tupHL (h : HL K Γ te ds) : HE K Γ (tCB (rTupOf K) (tCons te tNil)) (.tup ds) := fun H0 σ H s Q q => h H0 σ H s _ fun p xs H1 hp e1 h1 i1 =>
  ⟨p, xs, rfl, .inl ⟨SqL.of h1, fun l hl => q _ _ (e1.trans (Ex.new hl)) (.tup upd_same (i1.ex (Ex.new hl)))⟩⟩
theorem he_neg {i : Int} (h : HE K Γ te (.int i)) : HE K Γ (tUn (rU fun i => .int (-i)) te) (.int (-i)) := he_un h fun H v a Q q => ⟨i, a.int_v, q _ H (Ex.refl H) (.int _)⟩
end
end Q
/-! Quietdoors: the text's defs by place; what is told of them; tactics for the rules. -/
namespace Q
open PySem PySem.Spec PyProof.Rows L2
def top (i : Nat) : Stmt := PySem.Challenge.pw_quietdoors_k37_whole_papers_of_others.main.body.getD i (.Pass ⟨0, 0, 0, 0⟩)
def topTab0 : List (Str × Nat) := [("is_integer", 13), ("is_between", 14), ("is_count", 15), ("is_part_value", 16), ("window_of", 19), ("links_along", 20), ("place_along", 21), ("are_steps", 22), ("can_be_lost", 23), ("is_course", 24), ("check_course", 25), ("seen_at", 26), ("is_sight", 27), ("quiet_before", 28), ("course_gap", 29), ("windows", 31), ("lost_in", 32), ("lost_between", 33), ("pairs_of", 34), ("gap", 35)]
def topTab1 : List (Str × Nat) := [("ends", 36), ("times_along", 37), ("worst_course", 38), ("gaps", 39), ("paper", 41), ("accepts_broken", 42), ("accepts_gap", 43), ("accepts", 44), ("is_link", 48), ("are_boxes", 49), ("are_links", 50), ("summed", 51), ("are_times", 56), ("_law_begin", 60), ("_law_draw", 61), ("_law_pick", 62), ("_law_case", 63), ("_law_box", 64), ("_law_line", 65), ("_law_row", 66)]
def topTab2 : List (Str × Nat) := [("_law_times", 67), ("_law_talk", 68), ("_law_made_talk", 69), ("_law_letters", 70), ("_law_sent", 71), ("_law_span", 72), ("_law_is_sight", 73), ("_law_can_lose", 74), ("_law_gone", 75), ("_law_gaps", 76), ("_law_greatest", 77), ("_law_due", 78), ("_law_bounds_right", 79)]
def topTab : List (Str × Nat) := topTab0 ++ topTab1 ++ topTab2
/-- class, method, qualified name, places -/
def methTab : List (Str × Str × Str × Nat × Nat) := [("Row", "__len__", "Row.__len__", 52, 3), ("Row", "check", "Row.check", 52, 4), ("Row", "out_delay", "Row.out_delay", 52, 10), ("Row", "back_delay", "Row.back_delay", 52, 11), ("Talk", "letters", "Talk.letters", 58, 5), ("Talk", "__contains__", "Talk.__contains__", 58, 6), ("Talk", "time", "Talk.time", 58, 7), ("Row", "__init__", "Row.__init__", 52, 0)]
def propTab : List (Str × Str × Str × Nat × Nat) := [("Row", "boxes", "Row.boxes", 52, 1), ("Row", "links", "Row.links", 52, 2), ("Talk", "losses", "Talk.losses", 58, 3), ("Box", "low", "Box.low", 17, 1), ("Box", "sees", "Box.sees", 17, 4)]
/-- a property's getter -/
def pg (K : PySem.W.Frag) (c m : Str) : Addr := match PySem.W.recIn K (He.ma K (He.ga K c) m) "property" with
  | some (.ref g :: _) => g
  | _ => 0
structure Tx (K : PySem.W.Frag) (mg : Str → Option Value) : Prop extends Txt K mg where
  dfn : ∀ (x : Str) (i : Nat), (x, i) ∈ topTab → ∃ fd, FunD K x x (defArgs (top i)) (defBody (top i)) (defScope (top i)) [] [] (He.ga K x) fd
  glo : ∀ (x : Str) (i : Nat), (x, i) ∈ topTab → mg x = some (.ref (He.ga K x))
  mfn : ∀ (c m q : Str) (i j : Nat), (c, m, q, i, j) ∈ methTab → ∃ fd, FunD K m q (defArgs (inClass (top i) j)) (defBody (inClass (top i) j)) (defScope (inClass (top i) j)) [] [] (He.ma K (He.ga K c) m) fd
  met : ∀ (c m q : Str) (i j : Nat), (c, m, q, i, j) ∈ methTab → Meth K (He.ga K c) m (He.ma K (He.ga K c) m)
  pfn : ∀ (c m q : Str) (i j : Nat), (c, m, q, i, j) ∈ propTab → ∃ fd, FunD K m q (defArgs (inClass (top i) j)) (defBody (inClass (top i) j)) (defScope (inClass (top i) j)) [] [] (pg K c m) fd
  prp : ∀ (c m q : Str) (i j : Nat), (c, m, q, i, j) ∈ propTab → PropOf K (He.ga K c) m (He.ma K (He.ga K c) m) (pg K c m)
  iniB : ∃ fd, FunD K "__init__" "Box.__init__" (defArgs (inClass (top 17) 0)) (defBody (inClass (top 17) 0)) (defScope (inClass (top 17) 0)) [] [("rest", .int 0), ("sees", .str "out")] (He.ma K (He.ga K "Box") "__init__") fd
  iniT : ∃ (dT : Addr) (fd : FuncData), FunD K "__init__" "Talk.__init__" (defArgs (inClass (top 58) 0)) (defBody (inClass (top 58) 0)) (defScope (inClass (top 58) 0)) [.ref dT, .int 0] [] (He.ma K (He.ga K "Talk") "__init__") fd
section
variable {P : Program} {w : World} {K : PySem.W.Frag} {mg : Str → Option Value} {base : Heap}
theorem cal_of (T : Tx K mg) {x : Str} {i n : Nat} {ps : List Str} {sp : Sp} (hx : decide ((x, i) ∈ topTab) = true)
    (h : ∀ fd, FunD K x x (defArgs (top i)) (defBody (top i)) (defScope (top i)) [] [] (He.ga K x) fd → FnOk P w K mg base L2.CX0 n (He.ga K x) fd ps sp)
    (hb : ∀ (kV doc pm : Value) (an : Option Addr) (cdv ct : Value) (us : List Value), us.length = ps.length → bindArgs (PySem.W.fnOf x x (defArgs (top i)) (defBody (top i)) (defScope (top i)) .none kV doc pm an cdv ct) ⟨us, []⟩ = pure (ps.zip us)) : Cal P w K mg base x n ps sp := by
  obtain ⟨fd, F⟩ := T.dfn x i (of_decide_eq_true hx)
  exact ⟨_, fd, h fd F, T.glo x i (of_decide_eq_true hx), F.kp, F.bindsN hb⟩
theorem calM_of (T : Tx K mg) {c m q : Str} {i j n : Nat} {ps : List Str} {sp : Sp} (hx : decide ((c, m, q, i, j) ∈ methTab) = true)
    (h : ∀ fd, FunD K m q (defArgs (inClass (top i) j)) (defBody (inClass (top i) j)) (defScope (inClass (top i) j)) [] [] (He.ma K (He.ga K c) m) fd → FnOk P w K mg base L2.CX0 n (He.ma K (He.ga K c) m) fd ps sp)
    (hb : ∀ (kV doc pm : Value) (an : Option Addr) (cdv ct : Value) (us : List Value), us.length = ps.length → bindArgs (PySem.W.fnOf m q (defArgs (inClass (top i) j)) (defBody (inClass (top i) j)) (defScope (inClass (top i) j)) .none kV doc pm an cdv ct) ⟨us, []⟩ = pure (ps.zip us)) : CalM P w K mg base c m n ps sp := by
  obtain ⟨fd, F⟩ := T.mfn c m q i j (of_decide_eq_true hx)
  exact ⟨_, fd, T.met c m q i j (of_decide_eq_true hx), h fd F, F.bindsN hb⟩
theorem calP_of (T : Tx K mg) {c m q : Str} {i j n : Nat} {sp : Sp} (hx : decide ((c, m, q, i, j) ∈ propTab) = true)
    (h : ∀ fd, FunD K m q (defArgs (inClass (top i) j)) (defBody (inClass (top i) j)) (defScope (inClass (top i) j)) [] [] (pg K c m) fd → FnOk P w K mg base L2.CX0 n (pg K c m) fd ["self"] sp)
    (hb : ∀ (kV doc pm : Value) (an : Option Addr) (cdv ct : Value) (us : List Value), us.length = (["self"] : List Str).length → bindArgs (PySem.W.fnOf m q (defArgs (inClass (top i) j)) (defBody (inClass (top i) j)) (defScope (inClass (top i) j)) .none kV doc pm an cdv ct) ⟨us, []⟩ = pure ((["self"] : List Str).zip us)) : CalP P w K mg base c m n sp := by
  obtain ⟨fd, F⟩ := T.pfn c m q i j (of_decide_eq_true hx)
  exact ⟨_, _, fd, T.prp c m q i j (of_decide_eq_true hx), h fd F, F.bindsN hb⟩
end
/-! ### tactics -/
section
variable {K : PySem.W.Frag}
def isNon : D → Bool
  | .non => true
  | _ => false
theorem rr_isN {d : D} : RR K (fun x y H Q => y = V.non ∧ Q (.bl (decide (x = .non))) H) d .non (.bl (isNon d)) := fun H v w h1 h2 Q q => ⟨h2.non_v, by
  have e : decide (v = V.non) = isNon d := by
    cases h1 <;> rfl
  rw [e]
  exact q _ H (Ex.refl H) (.bl _)⟩
theorem rr_isNot {d : D} : RR K (fun x y H Q => y = V.non ∧ Q (.bl (!decide (x = .non))) H) d .non (.bl (!isNon d)) := fun H v w h1 h2 Q q => ⟨h2.non_v, by
  have e : decide (v = V.non) = isNon d := by
    cases h1 <;> rfl
  rw [e]
  exact q _ H (Ex.refl H) (.bl _)⟩
theorem rr_add {i j : Int} : RR K (rI0 fun i j => .int (i + j)) (.int i) (.int j) (.int (i + j)) := rr_I0 fun _ => .int _
theorem rr_sub {i j : Int} : RR K (rI0 fun i j => .int (i - j)) (.int i) (.int j) (.int (i - j)) := rr_I0 fun _ => .int _
theorem rr_lt {i j : Int} : RR K (rI0 fun i j => .bl (decide (i < j))) (.int i) (.int j) (.bl (decide (i < j))) := rr_I0 fun _ => .bl _
theorem rr_le {i j : Int} : RR K (rI0 fun i j => .bl (decide (i ≤ j))) (.int i) (.int j) (.bl (decide (i ≤ j))) := rr_I0 fun _ => .bl _
theorem rr_gt {i j : Int} : RR K (rI0 fun i j => .bl (decide (j < i))) (.int i) (.int j) (.bl (decide (j < i))) := rr_I0 fun _ => .bl _
theorem rr_ge {i j : Int} : RR K (rI0 fun i j => .bl (decide (j ≤ i))) (.int i) (.int j) (.bl (decide (j ≤ i))) := rr_I0 fun _ => .bl _
end
end Q
/-! Quietdoors: what the defs compute, in plain Lean. -/
namespace Q
open PySem PySem.Spec PyProof.Rows L2
def sumP (ls : List (Int × Int)) : Int × Int := ((ls.map (·.1)).sum, (ls.map (·.2)).sum)
def RowOk (R : RowR) : Prop := R.links.length = R.boxes.length + 1 ∧ 1 ≤ R.boxes.length ∧ R.boxes.length ≤ 4
def TalkOk (T : TalkR) : Prop := T.out.length ≤ 60 ∧ T.back.length ≤ 60 ∧ 0 ≤ T.loss ∧ T.loss ≤ 5
def outD (R : RowR) (b : Nat) : Int × Int := sumP (R.links.take (b + 1))
def backD (R : RowR) (b : Nat) : Int × Int := sumP (R.links.drop (b + 1))
def ways (T : TalkR) (o : Bool) : List Int := if o = true then T.out else T.back
def sent (T : TalkR) (l : Lt) : Int := ((ways T l.o)[l.k]?).getD 0
def letters (T : TalkR) : List Lt := (List.range T.out.length).map (Lt.mk true) ++ (List.range T.back.length).map (Lt.mk false)
def dly (R : RowR) (b : Nat) (l : Lt) : Int × Int := if l.o = true then outD R b else backD R b
def win (R : RowR) (T : TalkR) (b : Nat) (l : Lt) : Int × Int := (sent T l + (dly R b l).1, sent T l + (dly R b l).2)
def along (R : RowR) (l : Lt) : List (Int × Int) := if l.o = true then R.links.take R.boxes.length else (R.links.drop 1).reverse
def place (R : RowR) (l : Lt) (b : Nat) : Nat := if l.o = true then b else R.boxes.length - 1 - b
theorem mem_letters {T : TalkR} {l : Lt} : l ∈ letters T ↔ l.k < (ways T l.o).length := by
  obtain ⟨o, k⟩ := l
  unfold letters ways
  cases o <;> simp
theorem letters_len (T : TalkR) : (letters T).length = T.out.length + T.back.length := by simp [letters]
theorem letters_nodup (T : TalkR) : (letters T).Nodup := by
  unfold letters
  refine List.nodup_append.mpr ⟨?_, ?_, ?_⟩
  · exact List.Pairwise.map _ (fun a b h q => h (Lt.mk.inj q).2) List.nodup_range
  · exact List.Pairwise.map _ (fun a b h q => h (Lt.mk.inj q).2) List.nodup_range
  · intro a ha b hb
    obtain ⟨i, _, rfl⟩ := List.mem_map.mp ha
    obtain ⟨j, _, rfl⟩ := List.mem_map.mp hb
    intro q
    exact absurd (Lt.mk.inj q).1 (by decide)
theorem letters_small {T : TalkR} (h : TalkOk T) : (letters T).length ≤ 120 := by
  have := h.1
  have := h.2.1
  rw [letters_len]
  omega
def sightOk (R : RowR) (b : Nat) (l : Lt) : Bool := l.o || ((R.boxes[b]?).map (·.both)).getD false
/-- the lost can be lost: no run of losses + 1 of them -/
def canLose (n : Nat) (ls : List Lt) : Bool := ls.all fun l => !((List.range (n + 1)).all fun at_ => decide ((⟨l.o, l.k + at_⟩ : Lt) ∈ ls))
def stepsOk : Int → List Int → List (Int × Int) → Bool
  | _, [], _ => true
  | _, _ :: _, [] => true
  | before, t :: v, (a, b) :: ls => (decide (before + a ≤ t) && decide (t ≤ before + b)) && stepsOk t v ls
def steps (R : RowR) (T : TalkR) (l : Lt) (v : List Int) : Bool := decide (v.length ≤ R.boxes.length) && (v.all fun t => decide (0 ≤ t)) && stepsOk (sent T l) v (along R l)
/-- a course: letters and their times -/
abbrev Crs := List (Lt × List Int)
def crsD (c : Crs) : D := .dct (c.map fun p => (p.1, .tup (p.2.map .int)))
def cAt (c : Crs) (l : Lt) : List Int := ((c.find? fun p => decide (p.1 = l)).map (·.2)).getD []
def CrsOk (c : Crs) : Prop := (c.map (·.1)).Nodup ∧ c.length ≤ 200 ∧ ∀ p ∈ c, p.2.length ≤ 100
def isCourse (R : RowR) (T : TalkR) (c : Crs) : Bool := decide (c.length = (letters T).length) && (c.all fun p => decide (p.1 ∈ letters T)) && (c.all fun p => steps R T p.1 (cAt c p.1)) &&
  canLose T.loss.toNat ((c.map (·.1)).filter fun l => decide ((cAt c l).length < R.boxes.length))
/-- the rows (time, place in the letters, letter) that are seen at a box -/
def found3 (R : RowR) (T : TalkR) (c : Crs) (b : Nat) : List T3 := ((letters T).zipIdx.filter fun p => decide (place R p.1 b < (cAt c p.1).length)).map fun p => ⟨((cAt c p.1)[place R p.1 b]?).getD 0, p.2, p.1⟩
end Q
/-! Quietdoors: small helps for the defs. -/
namespace Q
open PySem PySem.Spec PyProof.Rows L2
section
variable {α : Type} {f : α → D}
theorem cutD_to {xs : List α} {i : Int} (n : Nat) (hi : i = (n : Int)) (h : n ≤ xs.length) : cutD (xs.map f) none (some i) = (xs.take n).map f := by
  subst hi
  unfold cutD
  rw [HT.sIx_none, HT.sIx_nat, List.length_map, Nat.min_eq_left h, Nat.sub_zero, List.drop_zero, List.map_take]
theorem cutD_from {xs : List α} {i : Int} (n : Nat) (hi : i = (n : Int)) (h : n ≤ xs.length) : cutD (xs.map f) (some i) none = (xs.drop n).map f := by
  subst hi
  unfold cutD
  rw [HT.sIx_none, HT.sIx_nat, List.length_map, Nat.min_eq_left h, List.map_drop, List.take_of_length_le]
  rw [List.length_drop, List.length_map]
  exact Nat.le_refl _
theorem cutD_m1 {xs : List α} : cutD (xs.map f) none (some (-1)) = (xs.take (xs.length - 1)).map f := by
  unfold cutD
  have e : HT.sIx (xs.map f).length (xs.map f).length (some (-1)) = xs.length - 1 := by
    rw [List.length_map]
    show (if (-1 : Int) < 0 then ((-1 : Int) + (xs.length : Int)).toNat else min (-1 : Int).toNat xs.length) = _
    rw [if_pos (by decide)]
    have : ((-1 : Int) + (xs.length : Int)).toNat = xs.length - 1 := by omega
    exact this
  rw [e, HT.sIx_none, Nat.sub_zero, List.drop_zero, List.map_take]
end
section
variable {K : PySem.W.Frag} {Γ Γ1 Γ' : List En} {ta tb tc te : TE} {t u : TT} {x y z d r : D} {ds es : List D}
theorem he_tup2 (h1 : HE K Γ ta x) (h2 : HE K Γ tb y) : HE K Γ (tTup (tCons ta (tCons tb tNil))) (.tup [x, y]) := he_tup (ha_cons h1 (ha_cons h2 ha_nil)) (Nat.le_of_ble_eq_true rfl)
theorem he_tup3 (h1 : HE K Γ ta x) (h2 : HE K Γ tb y) (h3 : HE K Γ tc z) : HE K Γ (tTup (tCons ta (tCons tb (tCons tc tNil)))) (.tup [x, y, z]) := he_tup (ha_cons h1 (ha_cons h2 (ha_cons h3 ha_nil))) (Nat.le_of_ble_eq_true rfl)
/-- one argument, two -/
theorem ha1 (h1 : HE K Γ ta x) : HA K Γ (tCons ta tNil) [x] := ha_cons h1 ha_nil
theorem ha2 (h1 : HE K Γ ta x) (h2 : HE K Γ tb y) : HA K Γ (tCons ta (tCons tb tNil)) [x, y] := ha_cons h1 (ha1 h2)
theorem he_isi {n c : String} {b : Bool} (h : HE K Γ ta x) (e : tyN x = some n) (hb : kitB n c = some b) : HE K Γ (tCB (rIsi K) (tCons ta (tCons (tC (.ty c)) tNil))) (.bl b) := he_cb (ha2 h he_ty) (rc_isi e hb)
theorem he_lenT {α : Type} {f : α → D} {xs : List α} (h : HE K Γ te (.tup (xs.map f))) : HE K Γ (tCB (rLn K) (tCons te tNil)) (.int (xs.length : Int)) := (he_cb (ha1 h) rc_lenT).to (by rw [List.length_map])
theorem he_lenL {α : Type} {f : α → D} {xs : List α} (h : HE K Γ te (.lst (xs.map f))) : HE K Γ (tCB (rLn K) (tCons te tNil)) (.int (xs.length : Int)) := (he_cb (ha1 h) rc_lenL).to (by rw [List.length_map])
/-- [te for (a, b) in xs], the pairs: e reads the first | the second -/
theorem he_all {α : Type} {xs : List α} {f : α → Bool} (h : HL K Γ te (xs.map fun a => .bl (f a))) : HE K Γ (tCB (rAll K) (tCons (tFrz te) tNil)) (.bl (xs.all f)) := by
  have e : (xs.map fun a => D.bl (f a)) = (xs.map f).map .bl := by rw [List.map_map]; rfl
  rw [e] at h
  exact (he_cb (ha1 (he_frz h)) rc_all).to (by rw [List.all_map]; rfl)
theorem wd_out {o : Bool} : decide (wd o = ("out" : Str)) = o := by
  cases o
  · exact decide_eq_false (by decide +kernel)
  · exact decide_eq_true rfl
/-- l[0] == "out" -/
theorem he_isOut {l : Lt} (h : HE K Γ te (ltD l)) : HE K Γ (tOp rEq (tOp (rIxT K) te (tC (.int 0))) (tC (.str "out"))) (.bl l.o) := (he_op (he_op h he_int (rr_ixT at0)) he_str rr_eqS).to (by rw [wd_out])
theorem he_lk {l : Lt} (h : HE K Γ te (ltD l)) : HE K Γ (tOp (rIxT K) te (tC (.int 1))) (.int (l.k : Int)) := he_op h he_int (rr_ixT at1)
theorem he_lo {l : Lt} (h : HE K Γ te (ltD l)) : HE K Γ (tOp (rIxT K) te (tC (.int 0))) (.str (wd l.o)) := he_op h he_int (rr_ixT at0)
theorem he_fst {p : Int × Int} (h : HE K Γ te (prD p)) : HE K Γ (tOp (rIxT K) te (tC (.int 0))) (.int p.1) := he_op h he_int (rr_ixT at0)
theorem he_snd {p : Int × Int} (h : HE K Γ te (prD p)) : HE K Γ (tOp (rIxT K) te (tC (.int 1))) (.int p.2) := he_op h he_int (rr_ixT at1)
/-- t[i], t of mapped things -/
theorem he_ixTm {α : Type} {f : α → D} {xs : List α} {a : α} {i : Int} (n : Nat) (h : HE K Γ ta (.tup (xs.map f))) (h2 : HE K Γ tb (.int i)) (hi : i = (n : Int)) (ha : xs[n]? = some a) : HE K Γ (tOp (rIxT K) ta tb) (f a) :=
  he_op h h2 (rr_ixT (atN hi (by rw [List.getElem?_map, ha]; rfl)))
theorem he_ixLm {α : Type} {f : α → D} {xs : List α} {a : α} {i : Int} (n : Nat) (h : HE K Γ ta (.lst (xs.map f))) (h2 : HE K Γ tb (.int i)) (hi : i = (n : Int)) (ha : xs[n]? = some a) : HE K Γ (tOp (rIxL K) ta tb) (f a) :=
  he_op h h2 (rr_ixL (atN hi (by rw [List.getElem?_map, ha]; rfl)))
/-- t if c else u by cases -/
theorem he_ite {b : Bool} (h : HT K Γ t b) (h1 : b = true → HE K Γ ta x) (h2 : b = false → HE K Γ tb y) : HE K Γ (tIf t ta tb) (if b = true then x else y) := by
  cases b with
  | true => exact he_if h h1 (fun q => nomatch q)
  | false => exact he_if h (fun q => nomatch q) h2
theorem hi_range {n : Nat} (h : HE K Γ te (.int (n : Int))) (hn : n ≤ 100000) : HI K Γ (iRng1 (tCons te tNil)) ((List.range n).map fun i => .int ((i : Nat) : Int)) := by
  have := hi_range1 (ha1 h) (Int.natCast_nonneg n) (by omega)
  rwa [Int.toNat_natCast] at this
/-- a guard whose branch leaves: raise, not reached -/
theorem hs_guard {tu : TS} {b : Bool} (h : HT K Γ t b) (e : b = false) : HS K Γ (tIfS t tu tNext) r True Γ := hs_if h (fun q => by rw [e] at q; cases q) (fun _ => hs_next trivial)
theorem HS.nx {ts : TS} {chi : Prop} (h : HS K Γ ts r chi Γ') (hc : chi → r = .non) : ∃ Γ', HS K Γ ts r (r = .non) Γ' := ⟨Γ', h.weak fun c => ⟨hc c, Sub.refl _⟩⟩
end
end Q
/-! Quietdoors: the defs one by one (1). -/
namespace Q
open PySem PySem.Spec PyProof.Rows L2
section
variable {P : Program} {w : World} {K : PySem.W.Frag} {mg : Str → Option Value} {base : Heap}
def r_is_integer : List D → D → Prop := fun ds r => ∃ (i : Int), ds = [.int i] ∧ r = .bl true ∧ True
theorem C_is_integer (T : Tx K mg) : Cal P w K mg base "is_integer" 1 ["value"] (SpR K r_is_integer) := by
  have S : FnScope ["value"] ["value"] (defScope (top 13)) := ⟨rfl, rfl, rfl, by decide +kernel, rfl, by decide +kernel, by decide +kernel⟩
  refine cal_of T (i := 13) (by decide +kernel) (fun fd F => fn_hs F S (fun ds r q => ?_) fun cdv A outer s H E hr => ⟨_, (pss_one (ps_ret (pe_and (pe_callB call_isi (by rfl) (T.fr "isinstance" (by decide +kernel)) (by decide +kernel) (pa_cons (pv 0) (pa_cons (pe_bltn (v := .ty "int") (by rfl) (T.fr "int" (by decide +kernel)) (by decide +kernel) rfl) pa_nil))) (pe_one (pe_not (pe_callB call_isi (by rfl) (T.fr "isinstance" (by decide +kernel)) (by decide +kernel) (pa_cons (pv 0) (pa_cons (pe_bltn (v := .ty "bool") (by rfl) (T.fr "bool" (by decide +kernel)) (by decide +kernel) rfl) pa_nil)))))))), fun ds r q => ?_⟩) (fun _ _ _ _ _ _ us hl => match us, hl with | [_], _ => rfl)
  · obtain ⟨_, rfl, _⟩ := q
    rfl
  · obtain ⟨i, rfl, rfl, _⟩ := q
    refine ⟨[], hs_ret (HE.to (he_and (he_isi (he_var rfl) (b := true) rfl rfl) fun _ => he_not (he_isi (he_var rfl) (b := false) rfl rfl)) rfl)⟩

def r_is_between : List D → D → Prop := fun ds r => ∃ (i lo hi : Int), ds = [.int i, .int lo, .int hi] ∧ r = .bl (decide (lo ≤ i) && decide (i ≤ hi)) ∧ True
theorem C_is_between (T : Tx K mg) : Cal P w K mg base "is_between" 2 ["value", "low", "high"] (SpR K r_is_between) := by
  have S : FnScope ["value", "low", "high"] ["value", "low", "high"] (defScope (top 14)) := ⟨rfl, rfl, rfl, by decide +kernel, rfl, by decide +kernel, by decide +kernel⟩
  refine cal_of T (i := 14) (by decide +kernel) (fun fd F => fn_hs F S (fun ds r q => ?_) fun cdv A outer s H E hr => ⟨_, (pss_one (ps_ret (pe_and (pe_cal (C_is_integer T) (hr.mono (by decide)) (by rfl) (pa_cons (pv 0) pa_nil)) (pe_one (pe_chain op_le op_le (pv 1) (pv 0) (pv 2)))))), fun ds r q => ?_⟩) (fun _ _ _ _ _ _ us hl => match us, hl with | [_, _, _], _ => rfl)
  · obtain ⟨_, _, _, rfl, _⟩ := q
    rfl
  · obtain ⟨i, lo, hi, rfl, rfl, _⟩ := q
    refine ⟨[], hs_ret (HE.to (he_and (he_call (ha1 (he_var rfl)) ⟨i, rfl, rfl, trivial⟩) fun _ => he_chain (he_var rfl) (he_var rfl) rr_le (he_var rfl) rr_le) ?_)⟩
    rw [Bool.true_and]

def r_is_count : List D → D → Prop := fun ds r => ∃ (i : Int), ds = [.int i] ∧ r = .bl (decide (0 ≤ i)) ∧ True
theorem C_is_count (T : Tx K mg) : Cal P w K mg base "is_count" 2 ["value"] (SpR K r_is_count) := by
  have S : FnScope ["value"] ["value"] (defScope (top 15)) := ⟨rfl, rfl, rfl, by decide +kernel, rfl, by decide +kernel, by decide +kernel⟩
  refine cal_of T (i := 15) (by decide +kernel) (fun fd F => fn_hs F S (fun ds r q => ?_) fun cdv A outer s H E hr => ⟨_, (pss_one (ps_ret (pe_and (pe_cal (C_is_integer T) (hr.mono (by decide)) (by rfl) (pa_cons (pv 0) pa_nil)) (pe_one (pe_cmpR op_ge (pv 0) pe_int (nomark _)))))), fun ds r q => ?_⟩) (fun _ _ _ _ _ _ us hl => match us, hl with | [_], _ => rfl)
  · obtain ⟨_, rfl, _⟩ := q
    rfl
  · obtain ⟨i, rfl, rfl, _⟩ := q
    refine ⟨[], hs_ret (HE.to (he_and (he_call (ha1 (he_var rfl)) ⟨i, rfl, rfl, trivial⟩) fun _ => he_op (he_var rfl) he_int rr_ge) ?_)⟩
    rw [Bool.true_and]

def r_summed : List D → D → Prop := fun ds r => ∃ (ls : List (Int × Int)), ds = [.tup (ls.map prD)] ∧ r = prD (sumP ls) ∧ (ls.length ≤ 100) ∧ True
theorem C_summed (T : Tx K mg) : Cal P w K mg base "summed" 1 ["links"] (SpR K r_summed) := by
  have S : FnScope ["links", "least", "most"] ["links"] (defScope (top 51)) := ⟨rfl, rfl, rfl, by decide +kernel, rfl, by decide +kernel, by decide +kernel⟩
  refine cal_of T (i := 51) (by decide +kernel) (fun fd F => fn_hs F S (fun ds r q => ?_) fun cdv A outer s H E hr => ⟨_, (pss_one (ps_ret (pe_tup (pa_cons (pe_callB (cr_sum rfl) (by rfl) (T.fr "sum" (by decide +kernel)) (by decide +kernel) (pa_cons (pe_frz (pe_lc (own := [("least", 1), ("most", 2)]) (g := (gTup K 2 (gCons (gName 1) (gCons (gName 2) gNil)))) (tt := tYes) (te := (tVar 1)) (by rfl) S.nd (pi_tup (pv 0)) (blkOk_by (N := ["links", "least", "most"]) (sc := defScope (top 51)) (by decide +kernel)) (fun _ _ _ _ _ => (pg_tup (by rfl) (pgs_cons (pg_name (i := 1) S.nd rfl (Or.inl rfl)) (pgs_cons (pg_name (i := 2) S.nd rfl (Or.inl rfl)) pgs_nil)))) (fun _ _ _ _ _ => pts_nil) (fun _ _ _ _ _ => (pv 1)))) pa_nil)) (pa_cons (pe_callB (cr_sum rfl) (by rfl) (T.fr "sum" (by decide +kernel)) (by decide +kernel) (pa_cons (pe_frz (pe_lc (own := [("least", 1), ("most", 2)]) (g := (gTup K 2 (gCons (gName 1) (gCons (gName 2) gNil)))) (tt := tYes) (te := (tVar 2)) (by rfl) S.nd (pi_tup (pv 0)) (blkOk_by (N := ["links", "least", "most"]) (sc := defScope (top 51)) (by decide +kernel)) (fun _ _ _ _ _ => (pg_tup (by rfl) (pgs_cons (pg_name (i := 1) S.nd rfl (Or.inl rfl)) (pgs_cons (pg_name (i := 2) S.nd rfl (Or.inl rfl)) pgs_nil)))) (fun _ _ _ _ _ => pts_nil) (fun _ _ _ _ _ => (pv 2)))) pa_nil)) pa_nil))))), fun ds r q => ?_⟩) (fun _ _ _ _ _ _ us hl => match us, hl with | [_], _ => rfl)
  · obtain ⟨_, rfl, _⟩ := q
    rfl
  · obtain ⟨ls, rfl, rfl, h1, _⟩ := q
    refine ⟨[], hs_ret (he_tup2 (he_cb (ha1 (he_frz (HL.to (hl_lcY ls prD (fun p => .int p.1) (hi_tup (he_var rfl)) (by omega) fun a ha => ⟨_, _, hg_tup (hgs_cons hg_name (hgs_cons hg_name hgs_nil)) rfl, by decide, he_var rfl⟩) ?_))) (rc_sum (ns := ls.map (·.1)))) (he_cb (ha1 (he_frz (HL.to (hl_lcY ls prD (fun p => .int p.2) (hi_tup (he_var rfl)) (by omega) fun a ha => ⟨_, _, hg_tup (hgs_cons hg_name (hgs_cons hg_name hgs_nil)) rfl, by decide, he_var rfl⟩) ?_))) (rc_sum (ns := ls.map (·.2)))))⟩
    · rw [List.map_map]; rfl
    · rw [List.map_map]; rfl

def r_Row_boxes : List D → D → Prop := fun ds r => ∃ (R : RowR), ds = [.row R] ∧ r = .tup (R.boxes.map .box) ∧ True
theorem C_Row_boxes (T : Tx K mg) : CalP P w K mg base "Row" "boxes" 1 (SpR K r_Row_boxes) := by
  have S : FnScope ["self"] ["self"] (defScope (inClass (top 52) 1)) := ⟨rfl, rfl, rfl, by decide +kernel, rfl, by decide +kernel, by decide +kernel⟩
  refine calP_of T (q := "Row.boxes") (i := 52) (j := 1) (by decide +kernel) (fun fd F => fn_hs F S (fun ds r q => ?_) fun cdv A outer s H E hr => ⟨_, (pss_one (ps_ret (pe_fld (pv 0) rfl))), fun ds r q => ?_⟩) (fun _ _ _ _ _ _ us hl => match us, hl with | [_], _ => rfl)
  · obtain ⟨_, rfl, _⟩ := q
    rfl
  · obtain ⟨R, rfl, rfl, _⟩ := q
    exact ⟨[], hs_ret (he_rB T.fz (he_var rfl))⟩

def r_Row_links : List D → D → Prop := fun ds r => ∃ (R : RowR), ds = [.row R] ∧ r = .tup (R.links.map prD) ∧ True
theorem C_Row_links (T : Tx K mg) : CalP P w K mg base "Row" "links" 1 (SpR K r_Row_links) := by
  have S : FnScope ["self"] ["self"] (defScope (inClass (top 52) 2)) := ⟨rfl, rfl, rfl, by decide +kernel, rfl, by decide +kernel, by decide +kernel⟩
  refine calP_of T (q := "Row.links") (i := 52) (j := 2) (by decide +kernel) (fun fd F => fn_hs F S (fun ds r q => ?_) fun cdv A outer s H E hr => ⟨_, (pss_one (ps_ret (pe_fld (pv 0) rfl))), fun ds r q => ?_⟩) (fun _ _ _ _ _ _ us hl => match us, hl with | [_], _ => rfl)
  · obtain ⟨_, rfl, _⟩ := q
    rfl
  · obtain ⟨R, rfl, rfl, _⟩ := q
    exact ⟨[], hs_ret (he_rL T.fz (he_var rfl))⟩

def r_Talk_losses : List D → D → Prop := fun ds r => ∃ (T0 : TalkR), ds = [.talk T0] ∧ r = .int T0.loss ∧ True
theorem C_Talk_losses (T : Tx K mg) : CalP P w K mg base "Talk" "losses" 1 (SpR K r_Talk_losses) := by
  have S : FnScope ["self"] ["self"] (defScope (inClass (top 58) 3)) := ⟨rfl, rfl, rfl, by decide +kernel, rfl, by decide +kernel, by decide +kernel⟩
  refine calP_of T (q := "Talk.losses") (i := 58) (j := 3) (by decide +kernel) (fun fd F => fn_hs F S (fun ds r q => ?_) fun cdv A outer s H E hr => ⟨_, (pss_one (ps_ret (pe_fld (pv 0) rfl))), fun ds r q => ?_⟩) (fun _ _ _ _ _ _ us hl => match us, hl with | [_], _ => rfl)
  · obtain ⟨_, rfl, _⟩ := q
    rfl
  · obtain ⟨T0, rfl, rfl, _⟩ := q
    exact ⟨[], hs_ret (he_tL T.fz (he_var rfl))⟩

def r_Box_low : List D → D → Prop := fun ds r => ∃ (B : BoxR), ds = [.box B] ∧ r = .int B.low ∧ True
theorem C_Box_low (T : Tx K mg) : CalP P w K mg base "Box" "low" 1 (SpR K r_Box_low) := by
  have S : FnScope ["self"] ["self"] (defScope (inClass (top 17) 1)) := ⟨rfl, rfl, rfl, by decide +kernel, rfl, by decide +kernel, by decide +kernel⟩
  refine calP_of T (q := "Box.low") (i := 17) (j := 1) (by decide +kernel) (fun fd F => fn_hs F S (fun ds r q => ?_) fun cdv A outer s H E hr => ⟨_, (pss_one (ps_ret (pe_dget (hu_of hr) (pe_fld (pv 0) rfl) pe_str (fun _ _ => rfl)))), fun ds r q => ?_⟩) (fun _ _ _ _ _ _ us hl => match us, hl with | [_], _ => rfl)
  · obtain ⟨_, rfl, _⟩ := q
    rfl
  · obtain ⟨B, rfl, rfl, _⟩ := q
    exact ⟨[], hs_ret (he_bP T.fz (he_var rfl) rfl fun _ => .int _)⟩

def r_Box_sees : List D → D → Prop := fun ds r => ∃ (B : BoxR), ds = [.box B] ∧ r = .str B.sees ∧ True
theorem C_Box_sees (T : Tx K mg) : CalP P w K mg base "Box" "sees" 1 (SpR K r_Box_sees) := by
  have S : FnScope ["self"] ["self"] (defScope (inClass (top 17) 4)) := ⟨rfl, rfl, rfl, by decide +kernel, rfl, by decide +kernel, by decide +kernel⟩
  refine calP_of T (q := "Box.sees") (i := 17) (j := 4) (by decide +kernel) (fun fd F => fn_hs F S (fun ds r q => ?_) fun cdv A outer s H E hr => ⟨_, (pss_one (ps_ret (pe_dget (hu_of hr) (pe_fld (pv 0) rfl) pe_str (fun _ _ => rfl)))), fun ds r q => ?_⟩) (fun _ _ _ _ _ _ us hl => match us, hl with | [_], _ => rfl)
  · obtain ⟨_, rfl, _⟩ := q
    rfl
  · obtain ⟨B, rfl, rfl, _⟩ := q
    exact ⟨[], hs_ret (he_bP T.fz (he_var rfl) rfl fun _ => .str _)⟩

def r_Row___len__ : List D → D → Prop := fun ds r => ∃ (R : RowR), ds = [.row R] ∧ r = .int (R.boxes.length : Int) ∧ True
theorem C_Row___len__ (T : Tx K mg) : CalM P w K mg base "Row" "__len__" 1 ["self"] (SpR K r_Row___len__) := by
  have S : FnScope ["self"] ["self"] (defScope (inClass (top 52) 3)) := ⟨rfl, rfl, rfl, by decide +kernel, rfl, by decide +kernel, by decide +kernel⟩
  refine calM_of T (q := "Row.__len__") (i := 52) (j := 3) (by decide +kernel) (fun fd F => fn_hs F S (fun ds r q => ?_) fun cdv A outer s H E hr => ⟨_, (pss_one (ps_ret (pe_callB call_len (by rfl) (T.fr "len" (by decide +kernel)) (by decide +kernel) (pa_cons (pe_fld (pv 0) rfl) pa_nil)))), fun ds r q => ?_⟩) (fun _ _ _ _ _ _ us hl => match us, hl with | [_], _ => rfl)
  · obtain ⟨_, rfl, _⟩ := q
    rfl
  · obtain ⟨R, rfl, rfl, _⟩ := q
    exact ⟨[], hs_ret (he_lenT (he_rB T.fz (he_var rfl)))⟩

def r_Row_check : List D → D → Prop := fun ds r => ∃ (R : RowR) (b : Nat), ds = [.row R, .int (b : Int)] ∧ r = .non ∧ (b < R.boxes.length) ∧ True
theorem C_Row_check (T : Tx K mg) : CalM P w K mg base "Row" "check" 3 ["self", "box"] (SpR K r_Row_check) := by
  have S : FnScope ["self", "box"] ["self", "box"] (defScope (inClass (top 52) 4)) := ⟨rfl, rfl, rfl, by decide +kernel, rfl, by decide +kernel, by decide +kernel⟩
  refine calM_of T (q := "Row.check") (i := 52) (j := 4) (by decide +kernel) (fun fd F => fn_hs F S (fun ds r q => ?_) fun cdv A outer s H E hr => ⟨_, (pss_one (ps_if (pt_not (pt_val (pe_cal (C_is_between T) (hr.mono (by decide)) (by rfl) (pa_cons (pv 1) (pa_cons pe_int (pa_cons (pe_op op_sub (pe_callB call_len (by rfl) (T.fr "len" (by decide +kernel)) (by decide +kernel) (pa_cons (pe_fld (pv 0) rfl) pa_nil)) pe_int) pa_nil)))))) (pss_one ps_never) pss_nil)), fun ds r q => ?_⟩) (fun _ _ _ _ _ _ us hl => match us, hl with | [_, _], _ => rfl)
  · obtain ⟨_, _, rfl, _⟩ := q
    rfl
  · obtain ⟨R, b, rfl, rfl, h1, _⟩ := q
    refine HS.nx (hs_guard (ht_not (ht_B (he_call (ha_cons (he_var rfl) (ha2 he_int (he_op (he_lenT (he_rB T.fz (he_var rfl))) he_int rr_sub))) ⟨_, _, _, rfl, rfl, trivial⟩))) ?_) fun _ => rfl
    have e1 : (0 : Int) ≤ (b : Int) := by omega
    have e2 : (b : Int) ≤ (R.boxes.length : Int) - 1 := by omega
    rw [decide_eq_true e1, decide_eq_true e2]
    rfl

def r_Row_out_delay : List D → D → Prop := fun ds r => ∃ (R : RowR) (b : Nat), ds = [.row R, .int (b : Int)] ∧ r = prD (outD R b) ∧ (b < R.boxes.length) ∧ (RowOk R) ∧ True
theorem C_Row_out_delay (T : Tx K mg) : CalM P w K mg base "Row" "out_delay" 4 ["self", "box"] (SpR K r_Row_out_delay) := by
  have S : FnScope ["self", "box"] ["self", "box"] (defScope (inClass (top 52) 10)) := ⟨rfl, rfl, rfl, by decide +kernel, rfl, by decide +kernel, by decide +kernel⟩
  refine calM_of T (q := "Row.out_delay") (i := 52) (j := 10) (by decide +kernel) (fun fd F => fn_hs F S (fun ds r q => ?_) fun cdv A outer s H E hr => ⟨_, (pss_cons (ps_expr (pe_mth (pv 0) T.cRow (hr.mono (by decide)) (C_Row_check T) (pa_cons (pv 1) pa_nil)))
  (pss_one (ps_ret (pe_cal (C_summed T) (hr.mono (by decide)) (by rfl) (pa_cons (pe_slice sl_tupA (pe_fld (pv 0) rfl) po_none (po_some (pe_op op_add (pv 1) pe_int))) pa_nil))))), fun ds r q => ?_⟩) (fun _ _ _ _ _ _ us hl => match us, hl with | [_, _], _ => rfl)
  · obtain ⟨_, _, rfl, _⟩ := q
    rfl
  · obtain ⟨R, b, rfl, rfl, h1, h2, _⟩ := q
    refine ⟨[], hs_seq (hs_drop (he_meth (he_var rfl) rfl (by rfl) (ha1 (he_var rfl)) ⟨R, b, rfl, rfl, h1, trivial⟩)) fun _ => hs_ret (he_call (ha1 (HE.to (he_slT (he_rL T.fz (he_var rfl)) ho_none (ho_some (he_op (he_var rfl) he_int rr_add))) ?_)) ⟨R.links.take (b + 1), rfl, rfl, ?_, trivial⟩)⟩
    · exact congrArg D.tup (cutD_to (b + 1) (by omega) (by have := h2.1; omega))
    · have := h2.1
      have := h2.2.2
      rw [List.length_take]
      omega

def r_Row_back_delay : List D → D → Prop := fun ds r => ∃ (R : RowR) (b : Nat), ds = [.row R, .int (b : Int)] ∧ r = prD (backD R b) ∧ (b < R.boxes.length) ∧ (RowOk R) ∧ True
theorem C_Row_back_delay (T : Tx K mg) : CalM P w K mg base "Row" "back_delay" 4 ["self", "box"] (SpR K r_Row_back_delay) := by
  have S : FnScope ["self", "box"] ["self", "box"] (defScope (inClass (top 52) 11)) := ⟨rfl, rfl, rfl, by decide +kernel, rfl, by decide +kernel, by decide +kernel⟩
  refine calM_of T (q := "Row.back_delay") (i := 52) (j := 11) (by decide +kernel) (fun fd F => fn_hs F S (fun ds r q => ?_) fun cdv A outer s H E hr => ⟨_, (pss_cons (ps_expr (pe_mth (pv 0) T.cRow (hr.mono (by decide)) (C_Row_check T) (pa_cons (pv 1) pa_nil)))
  (pss_one (ps_ret (pe_cal (C_summed T) (hr.mono (by decide)) (by rfl) (pa_cons (pe_slice sl_tupA (pe_fld (pv 0) rfl) (po_some (pe_op op_add (pv 1) pe_int)) po_none) pa_nil))))), fun ds r q => ?_⟩) (fun _ _ _ _ _ _ us hl => match us, hl with | [_, _], _ => rfl)
  · obtain ⟨_, _, rfl, _⟩ := q
    rfl
  · obtain ⟨R, b, rfl, rfl, h1, h2, _⟩ := q
    refine ⟨[], hs_seq (hs_drop (he_meth (he_var rfl) rfl (by rfl) (ha1 (he_var rfl)) ⟨R, b, rfl, rfl, h1, trivial⟩)) fun _ => hs_ret (he_call (ha1 (HE.to (he_slT (he_rL T.fz (he_var rfl)) (ho_some (he_op (he_var rfl) he_int rr_add)) ho_none) ?_)) ⟨R.links.drop (b + 1), rfl, rfl, ?_, trivial⟩)⟩
    · exact congrArg D.tup (cutD_from (b + 1) (by omega) (by have := h2.1; omega))
    · have := h2.1
      have := h2.2.2
      rw [List.length_drop]
      omega

def r_Talk_time : List D → D → Prop := fun ds r => ∃ (T0 : TalkR) (l : Lt), ds = [.talk T0, ltD l] ∧ r = .int (sent T0 l) ∧ (l ∈ letters T0) ∧ True
theorem C_Talk_time (T : Tx K mg) : CalM P w K mg base "Talk" "time" 1 ["self", "letter"] (SpR K r_Talk_time) := by
  have S : FnScope ["self", "letter"] ["self", "letter"] (defScope (inClass (top 58) 7)) := ⟨rfl, rfl, rfl, by decide +kernel, rfl, by decide +kernel, by decide +kernel⟩
  refine calM_of T (q := "Talk.time") (i := 58) (j := 7) (by decide +kernel) (fun fd F => fn_hs F S (fun ds r q => ?_) fun cdv A outer s H E hr => ⟨_, (pss_one (ps_ret (pe_ifExp (pt_cmpR op_eq (pe_ix ix_tup (pv 1) pe_int (fun _ _ => rfl)) pe_str (nomark _)) (pe_ix ix_tup (pe_fld (pv 0) rfl) (pe_ix ix_tup (pv 1) pe_int (fun _ _ => rfl)) (fun _ _ => rfl)) (pe_ix ix_tup (pe_fld (pv 0) rfl) (pe_ix ix_tup (pv 1) pe_int (fun _ _ => rfl)) (fun _ _ => rfl))))), fun ds r q => ?_⟩) (fun _ _ _ _ _ _ us hl => match us, hl with | [_, _], _ => rfl)
  · obtain ⟨_, _, rfl, _⟩ := q
    rfl
  · obtain ⟨T0, l, rfl, rfl, h1, _⟩ := q
    have h2 := mem_letters.mp h1
    have h3 : (ways T0 l.o)[l.k]? = some (sent T0 l) := by
      unfold sent
      rw [List.getElem?_eq_getElem h2]
      rfl
    refine ⟨[], hs_ret (he_if (ht_test (he_isOut (he_var rfl))) (fun e => he_ixTm (f := D.int) l.k (he_tO T.fz (he_var rfl)) (he_lk (he_var rfl)) rfl ?_) (fun e => he_ixTm (f := D.int) l.k (he_tB T.fz (he_var rfl)) (he_lk (he_var rfl)) rfl ?_))⟩
    · unfold ways at h3
      rw [e] at h3
      exact h3
    · unfold ways at h3
      rw [e] at h3
      exact h3

def r_Talk_letters : List D → D → Prop := fun ds r => ∃ (T0 : TalkR), ds = [.talk T0] ∧ r = .tup ((letters T0).map ltD) ∧ (TalkOk T0) ∧ True
theorem C_Talk_letters (T : Tx K mg) : CalM P w K mg base "Talk" "letters" 1 ["self"] (SpR K r_Talk_letters) := by
  have S : FnScope ["self", "found", "at"] ["self"] (defScope (inClass (top 58) 5)) := ⟨rfl, rfl, rfl, by decide +kernel, rfl, by decide +kernel, by decide +kernel⟩
  refine calM_of T (q := "Talk.letters") (i := 58) (j := 5) (by decide +kernel) (fun fd F => fn_hs F S (fun ds r q => ?_) fun cdv A outer s H E hr => ⟨_, (pss_cons (ps_setLc (i := 1) (own := [("at", 2)]) (g := (gName 2)) (tt := tYes) (te := (tTup (tCons (tC (.str "out")) (tCons (tVar 2) tNil)))) (by rfl) S.nd rfl rfl (sw_true rfl rfl rfl (by decide +kernel)) (pi_range1 (by rfl) (T.fr "range" (by decide +kernel)) (pa_cons (pe_callB call_len (by rfl) (T.fr "len" (by decide +kernel)) (by decide +kernel) (pa_cons (pe_fld (pv 0) rfl) pa_nil)) pa_nil)) (blkOk_by (N := ["self", "found", "at"]) (sc := defScope (inClass (top 58) 5)) (by decide +kernel)) (fun _ _ _ _ _ => (pg_name (i := 2) S.nd rfl (Or.inl rfl))) (fun _ _ _ _ _ => pts_nil) (fun _ _ _ _ _ => (pe_tup (pa_cons pe_str (pa_cons (pv 2) pa_nil)))))
  (pss_one (ps_ret (pe_callTy call_tuple_of (by rfl) (T.fr "tuple" (by decide +kernel)) (by decide +kernel) (pa_cons (pe_frz (pe_op op_cat (pv 1) (pe_lc (own := [("at", 2)]) (g := (gName 2)) (tt := tYes) (te := (tTup (tCons (tC (.str "back")) (tCons (tVar 2) tNil)))) (by rfl) S.nd (pi_range1 (by rfl) (T.fr "range" (by decide +kernel)) (pa_cons (pe_callB call_len (by rfl) (T.fr "len" (by decide +kernel)) (by decide +kernel) (pa_cons (pe_fld (pv 0) rfl) pa_nil)) pa_nil)) (blkOk_by (N := ["self", "found", "at"]) (sc := defScope (inClass (top 58) 5)) (by decide +kernel)) (fun _ _ _ _ _ => (pg_name (i := 2) S.nd rfl (Or.inl rfl))) (fun _ _ _ _ _ => pts_nil) (fun _ _ _ _ _ => (pe_tup (pa_cons pe_str (pa_cons (pv 2) pa_nil))))))) pa_nil))))), fun ds r q => ?_⟩) (fun _ _ _ _ _ _ us hl => match us, hl with | [_], _ => rfl)
  · obtain ⟨_, rfl, _⟩ := q
    rfl
  · obtain ⟨T0, rfl, rfl, h1, _⟩ := q
    have i1 := h1.1
    have i2 := h1.2.1
    refine ⟨[], hs_seq (hs_setL (hl_lcY (List.range T0.out.length) (fun i => .int (i : Int)) (fun i => ltD ⟨true, i⟩) (hi_range (he_lenT (he_tO T.fz (he_var rfl))) (by omega)) (by rw [List.length_range]; omega) fun a ha => ⟨_, _, hg_name, by decide, he_tup2 he_str (he_var rfl)⟩)) fun _ => hs_ret (HE.to (he_cb (ha1 (he_frz (hl_catV rfl (hl_lcY (List.range T0.back.length) (fun i => .int (i : Int)) (fun i => ltD ⟨false, i⟩) (hi_range (he_lenT (he_tB T.fz (he_var rfl))) (by omega)) (by rw [List.length_range]; omega) fun a ha => ⟨_, _, hg_name, by decide, he_tup2 he_str (he_var rfl)⟩) ?_))) rc_tup) ?_)⟩
    · rw [List.length_map, List.length_map, List.length_range, List.length_range]
      omega
    · unfold letters
      rw [List.map_append, List.map_map, List.map_map]
      rfl

def r_Talk___contains__ : List D → D → Prop := fun ds r => ∃ (T0 : TalkR) (l : Lt), ds = [.talk T0, ltD l] ∧ r = .bl (decide (l ∈ letters T0)) ∧ (TalkOk T0) ∧ True
theorem C_Talk___contains__ (T : Tx K mg) : CalM P w K mg base "Talk" "__contains__" 2 ["self", "letter"] (SpR K r_Talk___contains__) := by
  have S : FnScope ["self", "letter"] ["self", "letter"] (defScope (inClass (top 58) 6)) := ⟨rfl, rfl, rfl, by decide +kernel, rfl, by decide +kernel, by decide +kernel⟩
  refine calM_of T (q := "Talk.__contains__") (i := 58) (j := 6) (by decide +kernel) (fun fd F => fn_hs F S (fun ds r q => ?_) fun cdv A outer s H E hr => ⟨_, (pss_cons (ps_if (PW.pt (pw_or (pt_not (pt_val (pe_callB call_isi (by rfl) (T.fr "isinstance" (by decide +kernel)) (by decide +kernel) (pa_cons (pv 1) (pa_cons (pe_bltn (v := .ty "tuple") (by rfl) (T.fr "tuple" (by decide +kernel)) (by decide +kernel) rfl) pa_nil))))) (pw_or (pt_cmpR op_ne (pe_callB call_len (by rfl) (T.fr "len" (by decide +kernel)) (by decide +kernel) (pa_cons (pv 1) pa_nil)) pe_int (nomark _)) (pw_or1 (pt_not (pt_val (pe_callB call_isi (by rfl) (T.fr "isinstance" (by decide +kernel)) (by decide +kernel) (pa_cons (pe_ix ix_tup (pv 1) pe_int (fun _ _ => rfl)) (pa_cons (pe_bltn (v := .ty "str") (by rfl) (T.fr "str" (by decide +kernel)) (by decide +kernel) rfl) pa_nil))))))))) (pss_one (ps_ret pe_bl)) pss_nil)
  (pss_one (ps_ret (pe_and (pe_cal (C_is_integer T) (hr.mono (by decide)) (by rfl) (pa_cons (pe_ix ix_tup (pv 1) pe_int (fun _ _ => rfl)) pa_nil)) (pe_one (pe_cmpR (op_inT (room65 hr)) (pv 1) (pe_mth0 (pv 0) T.cTalk (hr.mono (by decide)) (C_Talk_letters T)) (by rfl))))))), fun ds r q => ?_⟩) (fun _ _ _ _ _ _ us hl => match us, hl with | [_, _], _ => rfl)
  · obtain ⟨_, _, rfl, _⟩ := q
    rfl
  · obtain ⟨T0, l, rfl, rfl, h1, _⟩ := q
    refine ⟨[], hs_seq (hs_guard (b := false) (HT.to (ht_or (ht_not (ht_B (he_isi (he_var rfl) (b := true) rfl rfl))) fun _ => ht_or (ht_test (he_op (he_cb (ha1 (he_var rfl)) (rc_lenT (ds := [.str (wd l.o), .int (l.k : Int)]))) he_int rr_neI)) fun _ => ht_not (ht_B (he_isi (he_lo (he_var rfl)) (b := true) rfl rfl))) rfl) rfl) fun _ => hs_ret (HE.to (he_and (he_call (ha1 (he_lk (he_var rfl))) ⟨_, rfl, rfl, trivial⟩) fun _ => he_op (he_var rfl) (he_meth (he_var rfl) rfl (by rfl) ha_nil ⟨T0, rfl, rfl, h1, trivial⟩) rr_inT) (by rw [Bool.true_and]))⟩

end
end Q
/-! Quietdoors: more of what the defs compute. -/
namespace Q
open PySem PySem.Spec PyProof.Rows L2
/-! ### lists -/
theorem len_le_sub {α : Type} [DecidableEq α] : ∀ {a b : List α}, a.Nodup → (∀ x ∈ a, x ∈ b) → a.length ≤ b.length
  | [], b, _, _ => Nat.zero_le _
  | y :: a, b, hn, hs => by
    have h1 := List.nodup_cons.mp hn
    have h2 : a.length ≤ (b.erase y).length := len_le_sub h1.2 fun x hx => (List.mem_erase_of_ne (fun q => h1.1 (by rw [← q]; exact hx))).mpr (hs x (List.mem_cons_of_mem _ hx))
    have h3 := List.length_erase_of_mem (hs y List.mem_cons_self)
    have h4 : 0 < b.length := List.length_pos_of_mem (hs y List.mem_cons_self)
    rw [List.length_cons]
    omega
theorem sub_of_len {α : Type} [DecidableEq α] {a b : List α} (hn : a.Nodup) (hs : ∀ x ∈ a, x ∈ b) (hl : b.length ≤ a.length) : ∀ x ∈ b, x ∈ a := fun x hx => by
  by_cases h : x ∈ a
  · exact h
  · have h2 := len_le_sub (b := b.erase x) hn fun y hy => (List.mem_erase_of_ne (fun q => h (by rw [← q]; exact hy))).mpr (hs y hy)
    have h3 := List.length_erase_of_mem hx
    have h4 : 0 < b.length := List.length_pos_of_mem hx
    omega
theorem all_drop {α : Type} {P : α → Bool} {xs : List α} {i : Nat} {a : α} (h : xs[i]? = some a) : (xs.drop i).all P = (P a && (xs.drop (i + 1)).all P) := by
  have hi := (List.getElem?_eq_some_iff.mp h).1
  have he := (List.getElem?_eq_some_iff.mp h).2
  rw [List.drop_eq_getElem_cons hi, List.all_cons, he]
theorem take_snoc {α : Type} {xs : List α} {i : Nat} {a : α} (h : xs[i]? = some a) : xs.take (i + 1) = xs.take i ++ [a] := by
  have hi := (List.getElem?_eq_some_iff.mp h).1
  have he := (List.getElem?_eq_some_iff.mp h).2
  rw [List.take_succ_eq_append_getElem hi, he]
theorem maxOf_cons (m y : Int) (ys : List Int) : PySem.W.maxOf m (y :: ys) = PySem.W.maxOf (if m < y then y else m) ys := by
  have e : (if PySem.W.DatumOrd.lt m y = true then y else m) = (if m < y then y else m) := by
    have : (PySem.W.DatumOrd.lt m y = true) = (m < y) := by
      show (decide (m < y) = true) = (m < y)
      exact decide_eq_true_eq
    simp only [this]
  unfold PySem.W.maxOf
  rw [List.foldl_cons, e]
theorem maxOf_ge : ∀ (ys : List Int) (m : Int), m ≤ PySem.W.maxOf m ys ∧ ∀ x ∈ ys, x ≤ PySem.W.maxOf m ys
  | [], m => ⟨Int.le_refl _, fun x hx => by cases hx⟩
  | y :: ys, m => by
    rw [maxOf_cons]
    obtain ⟨h1, h2⟩ := maxOf_ge ys (if m < y then y else m)
    by_cases h : m < y
    · rw [if_pos h] at h1 h2 ⊢
      exact ⟨by omega, fun x hx => by
        rcases List.mem_cons.mp hx with e | hx
        · rw [e]; exact h1
        · exact h2 x hx⟩
    · rw [if_neg h] at h1 h2 ⊢
      exact ⟨h1, fun x hx => by
        rcases List.mem_cons.mp hx with e | hx
        · rw [e]; omega
        · exact h2 x hx⟩
theorem maxOf_mem : ∀ (ys : List Int) (m : Int), PySem.W.maxOf m ys = m ∨ PySem.W.maxOf m ys ∈ ys
  | [], m => .inl rfl
  | y :: ys, m => by
    rw [maxOf_cons]
    rcases maxOf_mem ys (if m < y then y else m) with h | h
    · by_cases q : m < y
      · rw [if_pos q] at h ⊢
        exact .inr (by rw [h]; exact List.mem_cons_self)
      · rw [if_neg q] at h ⊢
        exact .inl h
    · exact .inr (List.mem_cons_of_mem _ h)
theorem mxD_ge {ns : List Int} {d x : Int} (h : x ∈ ns) : x ≤ mxD ns d := by
  cases ns with
  | nil => cases h
  | cons y ys =>
    obtain ⟨h1, h2⟩ := maxOf_ge ys y
    rcases List.mem_cons.mp h with e | h
    · rw [e]; exact h1
    · exact h2 x h
theorem mxD_mem {ns : List Int} {d : Int} (h : ns ≠ []) : mxD ns d ∈ ns := by
  cases ns with
  | nil => exact absurd rfl h
  | cons y ys =>
    rcases maxOf_mem ys y with e | e
    · exact List.mem_cons.mpr (.inl e)
    · exact List.mem_cons_of_mem _ e
theorem mxD_is {ns : List Int} {d k : Int} (h : k ∈ ns) (h2 : ∀ j ∈ ns, j ≤ k) : k = mxD ns d := by
  have a := mxD_ge (d := d) h
  have b := h2 _ (mxD_mem (d := d) fun e => by rw [e] at h; cases h)
  omega
/-! ### the courses -/
theorem keys_of {R : RowR} {T : TalkR} {c : Crs} (hc : CrsOk c) (h : isCourse R T c = true) : ∀ l ∈ letters T, l ∈ c.map (·.1) := by
  unfold isCourse at h
  simp only [Bool.and_eq_true, decide_eq_true_eq, List.all_eq_true] at h
  obtain ⟨⟨⟨h1, h2⟩, _⟩, _⟩ := h
  exact sub_of_len hc.1 (fun x hx => by
    obtain ⟨p, hp, rfl⟩ := List.mem_map.mp hx
    exact h2 p hp) (by rw [List.length_map]; omega)
theorem look_c : ∀ {c : Crs} {l : Lt}, l ∈ c.map (·.1) → lookK (c.map fun p => (p.1, D.tup (p.2.map .int))) l = some (.tup ((cAt c l).map .int))
  | [], l, h => by cases h
  | (m, v) :: c, l, h => by
    by_cases e : m = l
    · simp [lookK, cAt, e]
    · have h2 : l ∈ c.map (·.1) := by
        rcases List.mem_cons.mp h with q | q
        · exact absurd q.symm e
        · exact q
      have h3 := look_c h2
      have e1 : lookK (((m, v) :: c).map fun p => (p.1, D.tup (p.2.map .int))) l = lookK (c.map fun p => (p.1, D.tup (p.2.map .int))) l := by simp [lookK, e]
      have e2 : cAt ((m, v) :: c) l = cAt c l := by simp [cAt, e]
      rw [e1, e2]
      exact h3
theorem cAt_small {c : Crs} (hc : CrsOk c) (l : Lt) : (cAt c l).length ≤ 100 := by
  unfold cAt
  cases h : c.find? fun p => decide (p.1 = l) with
  | none => exact Nat.zero_le _
  | some p => exact hc.2.2 p (List.mem_of_find?_eq_some h)
/-- a table by letters -/
theorem look_t {ls : List Lt} {f : Lt → D} {l : Lt} (h : l ∈ ls) : lookK (ls.map fun x => (x, f x)) l = some (f l) := by
  induction ls with
  | nil => cases h
  | cons m ls ih =>
    by_cases e : m = l
    · simp [lookK, e]
    · have h2 : l ∈ ls := by
        rcases List.mem_cons.mp h with q | q
        · exact absurd q.symm e
        · exact q
      have := ih h2
      unfold lookK at this ⊢
      simp [e] at this ⊢
      exact this
def seenL (R : RowR) (T : TalkR) (c : Crs) (b : Nat) : List (Int × Lt) := (srt3 (found3 R T c b)).map fun p => (p.1, p.2.2)
def rowD (p : Int × Lt) : D := .tup [.int p.1, ltD p.2]
def sightsB (R : RowR) (b : Nat) (rs : List (Int × Lt)) (t : Int) : List Int := (rs.filter fun p => decide (p.1 < t) && sightOk R b p.2).map (·.1)
def quietB (R : RowR) (b : Nat) (rs : List (Int × Lt)) (t : Int) : Option Int := if (sightsB R b rs t).isEmpty = true then none else some (t - mxD (sightsB R b rs t) 0)
def optD : Option Int → D
  | none => .non
  | some i => .int i
def quiets (R : RowR) (b : Nat) (rs : List (Int × Lt)) : List (Option Int) := rs.map fun p => quietB R b rs p.1
def courseGap (R : RowR) (T : TalkR) (c : Crs) (b : Nat) : Int := mxD (((quiets R b (seenL R T c b)).filter (·.isSome)).map (·.getD 0)) 0
/-! ### the gaps -/
def winK (R : RowR) (T : TalkR) (b : Nat) : List (Lt × D) := (letters T).map fun l => (l, prD (win R T b l))
def insideL (R : RowR) (T : TalkR) (b : Nat) (s e : Int) : List Lt := (letters T).filter fun l => decide (s < (win R T b l).1) && decide ((win R T b l).2 < e)
def foundL (R : RowR) (T : TalkR) (b : Nat) (f l : Lt) : List Lt := (insideL R T b (win R T b f).1 (win R T b l).2).filter fun x => (!decide (x = f) && !decide (x = l)) && sightOk R b x
def lostIn (R : RowR) (T : TalkR) (b : Nat) (f l : Lt) : Option (List Lt) :=
  if (decide (f = l) || (!sightOk R b f || decide ((win R T b l).2 ≤ (win R T b f).1))) = true then none else if canLose T.loss.toNat (foundL R T b f l) = true then some (foundL R T b f l) else none
def optT : Option (List Lt) → D
  | none => .non
  | some ls => .tup (ls.map ltD)
abbrev P3 := Int × Lt × Lt
def p3D (p : P3) : D := .tup [.int p.1, ltD p.2.1, ltD p.2.2]
def pairRow (R : RowR) (T : TalkR) (b : Nat) (f : Lt) (ls : List Lt) : List P3 := (ls.filter fun l => (lostIn R T b f l).isSome).map fun l => ((win R T b l).2 - (win R T b f).1, f, l)
def pairs (R : RowR) (T : TalkR) (b : Nat) : List P3 := (letters T).flatMap fun f => pairRow R T b f (letters T)
def gapOf (R : RowR) (T : TalkR) (b : Nat) : Int := mxD ((pairs R T b).map (·.1)) 0
def endsOf (R : RowR) (T : TalkR) (b : Nat) : Option (Lt × Lt) := ((pairs R T b).find? fun p => decide (p.1 = gapOf R T b)).map (·.2)
def optP : Option (Lt × Lt) → D
  | none => .non
  | some p => .tup [ltD p.1, ltD p.2]
def runs : Int → Bool → List (Int × Int) → List Int
  | _, _, [] => []
  | t, late, (a, b) :: ls => (t + (if late = true then b else a)) :: runs (t + (if late = true then b else a)) late ls
def timesAl (R : RowR) (T : TalkR) (l : Lt) (late : Bool) (many : Nat) : List Int := runs (sent T l) late ((along R l).take many)
def isLate (R : RowR) (T : TalkR) (b : Nat) (f l x : Lt) : Bool := !decide (x = f) && (decide (x = l) || decide ((win R T b f).1 < (win R T b x).1))
def manyOf (R : RowR) (b : Nat) (ls : List Lt) (x : Lt) : Nat := if x ∈ ls then place R x b else R.boxes.length
def worst (R : RowR) (T : TalkR) (b : Nat) (f l : Lt) (ls : List Lt) : Crs := (letters T).map fun x => (x, timesAl R T x (isLate R T b f l x) (manyOf R b ls x))
def lowAt (R : RowR) (b : Nat) : Int := ((R.boxes[b]?).map (·.low)).getD 0
inductive Ppr where
  | kept (vs : List Int) | broken (b : Nat) (c : Crs)
def pprD : Ppr → D
  | .kept vs => .tup [.str "kept", .tup (vs.map .int)]
  | .broken b c => .tup [.str "broken", .int (b : Int), crsD c]
def worstOf (R : RowR) (T : TalkR) (b : Nat) : Crs := match endsOf R T b with
  | none => []
  | some (f, l) => worst R T b f l ((lostIn R T b f l).getD [])
def gapsOf (R : RowR) (T : TalkR) : List Int := (List.range R.boxes.length).map (gapOf R T)
def paperOf (R : RowR) (T : TalkR) : Ppr := match (List.range R.boxes.length).find? fun b => decide (lowAt R b ≤ gapOf R T b) with
  | none => .kept (gapsOf R T)
  | some b => .broken b (worstOf R T b)
def accBroken (R : RowR) (T : TalkR) (b : Nat) (c : Crs) : Bool := decide (b < R.boxes.length) && (isCourse R T c && decide (lowAt R b ≤ courseGap R T c b))
def accGap (R : RowR) (T : TalkR) (b : Nat) (v : Int) : Bool := (decide (0 ≤ v) && decide (v ≤ lowAt R b - 1)) && (letters T).all fun f => (letters T).all fun l => !(decide (v < (win R T b l).2 - (win R T b f).1) && (lostIn R T b f l).isSome)
def acc (R : RowR) (T : TalkR) : Ppr → Bool
  | .broken b c => accBroken R T b c
  | .kept vs => decide (vs.length = R.boxes.length) && (vs.zipIdx.all fun p => accGap R T p.2 p.1)
def PprOk : Ppr → Prop
  | .kept vs => vs.length ≤ 100
  | .broken _ c => CrsOk c
end Q
/-! Quietdoors: small helps for the defs (2). -/
namespace Q
open PySem PySem.Spec PyProof.Rows L2
section
variable {K : PySem.W.Frag} {Γ Γ1 Γ' : List En} {ta tb tc te : TE} {t u : TT} {x y z d r : D} {ds es : List D} {ti : TI} {ts tu : TS} {chi : Prop}
theorem HI.to (h : HI K Γ ti ds) (e : ds = es) : HI K Γ ti es := e ▸ h
theorem hs_forX {α : Type} (xs : List α) (enc : α → D) {wi : TI} {g : TG} (hi : HI K Γ wi (xs.map enc)) (G : Nat → List En) (phi : Nat → Prop) (h0 : Sub Γ (G 0)) (p0 : phi 0)
    (hb : ∀ i a, xs[i]? = some a → phi i → ∃ (G1 : List En) (ss : List Nat), HG K (G i) g (enc a) G1 ss ∧ HS K G1 ts r (phi (i + 1)) (G (i + 1))) : HS K Γ (tFor wi g ts) r (phi xs.length) (G xs.length) := by
  have := hs_for (ts := ts) (r := r) hi G phi h0 p0 fun i d hd hp => by
    rw [List.getElem?_map] at hd
    cases hx : xs[i]? with
    | none =>
      rw [hx] at hd
      cases hd
    | some a =>
      rw [hx] at hd
      have e : enc a = d := Option.some.inj hd
      subst e
      exact hb i a hx hp
  rw [List.length_map] at this
  exact this
/-- if t: return False (or so); behind it t is false -/
theorem hs_leave {b : Bool} (h : HT K Γ t b) (h1 : b = true → HS K Γ tu r False Γ) : HS K Γ (tIfS t tu tNext) r (b = false) Γ := hs_when h h1
theorem hi_crs {c : Crs} (h : HE K Γ te (crsD c)) : HI K Γ (iKeys te) (c.map fun p => ltD p.1) := (hi_keys (kvs := c.map fun p => (p.1, D.tup (p.2.map .int))) h).to (by rw [List.map_map]; rfl)
theorem he_both {B : BoxR} (h : HE K Γ te (.str B.sees)) : HE K Γ (tOp rEq te (tC (.str "both"))) (.bl B.both) := (he_op h he_str rr_eqS).to (by
  have : decide (B.sees = ("both" : Str)) = B.both := by
    unfold BoxR.sees
    cases B.both
    · exact decide_eq_false (by decide +kernel)
    · exact decide_eq_true rfl
  rw [this])
end
end Q
/-! Quietdoors: the defs one by one (2). -/
namespace Q
open PySem PySem.Spec PyProof.Rows L2
section
variable {P : Program} {w : World} {K : PySem.W.Frag} {mg : Str → Option Value} {base : Heap}
def r_window_of : List D → D → Prop := fun ds r => ∃ (R : RowR) (T0 : TalkR) (b : Nat) (l : Lt), ds = [.row R, .talk T0, .int (b : Int), ltD l] ∧ r = prD (win R T0 b l) ∧ (b < R.boxes.length) ∧ (RowOk R) ∧ (l ∈ letters T0) ∧ True
theorem C_window_of (T : Tx K mg) : Cal P w K mg base "window_of" 5 ["row", "talk", "box", "letter"] (SpR K r_window_of) := by
  have S : FnScope ["row", "talk", "box", "letter", "delay", "time"] ["row", "talk", "box", "letter"] (defScope (top 19)) := ⟨rfl, rfl, rfl, by decide +kernel, rfl, by decide +kernel, by decide +kernel⟩
  refine cal_of T (i := 19) (by decide +kernel) (fun fd F => fn_hs F S (fun ds r q => ?_) fun cdv A outer s H E hr => ⟨_, (pss_cons (ps_set (i := 4) S.nd rfl (Or.inl rfl) (pe_ifExp (pt_cmpR op_eq (pe_ix ix_tup (pv 3) pe_int (fun _ _ => rfl)) pe_str (nomark _)) (pe_mth (pv 0) T.cRow (hr.mono (by decide)) (C_Row_out_delay T) (pa_cons (pv 2) pa_nil)) (pe_mth (pv 0) T.cRow (hr.mono (by decide)) (C_Row_back_delay T) (pa_cons (pv 2) pa_nil))))
  (pss_cons (ps_set (i := 5) S.nd rfl (Or.inl rfl) (pe_mth (pv 1) T.cTalk (hr.mono (by decide)) (C_Talk_time T) (pa_cons (pv 3) pa_nil)))
  (pss_one (ps_ret (pe_tup (pa_cons (pe_op op_add (pv 5) (pe_ix ix_tup (pv 4) pe_int (fun _ _ => rfl))) (pa_cons (pe_op op_add (pv 5) (pe_ix ix_tup (pv 4) pe_int (fun _ _ => rfl))) pa_nil))))))), fun ds r q => ?_⟩) (fun _ _ _ _ _ _ us hl => match us, hl with | [_, _, _, _], _ => rfl)
  · obtain ⟨_, _, _, _, rfl, _⟩ := q
    rfl
  · obtain ⟨R, T0, b, l, rfl, rfl, h1, h2, h3, _⟩ := q
    refine ⟨[], hs_seq (hs_set (d := prD (dly R b l)) (he_if (ht_test (he_isOut (he_var rfl))) (fun e => ?_) (fun e => ?_))) fun _ => hs_seq (hs_set (he_meth (he_var rfl) rfl (by rfl) (ha1 (he_var rfl)) ⟨T0, l, rfl, rfl, h3, trivial⟩)) fun _ => hs_ret (he_tup2 (he_op (he_var rfl) (he_fst (he_var rfl)) rr_add) (he_op (he_var rfl) (he_snd (he_var rfl)) rr_add))⟩
    · exact he_meth (he_var rfl) rfl (by rfl) (ha1 (he_var rfl)) ⟨R, b, rfl, by unfold dly; rw [e]; rfl, h1, h2, trivial⟩
    · exact he_meth (he_var rfl) rfl (by rfl) (ha1 (he_var rfl)) ⟨R, b, rfl, by unfold dly; rw [e]; rfl, h1, h2, trivial⟩

def r_links_along : List D → D → Prop := fun ds r => ∃ (R : RowR) (l : Lt), ds = [.row R, ltD l] ∧ r = .tup ((along R l).map prD) ∧ (RowOk R) ∧ True
theorem C_links_along (T : Tx K mg) : Cal P w K mg base "links_along" 3 ["row", "letter"] (SpR K r_links_along) := by
  have S : FnScope ["row", "letter"] ["row", "letter"] (defScope (top 20)) := ⟨rfl, rfl, rfl, by decide +kernel, rfl, by decide +kernel, by decide +kernel⟩
  refine cal_of T (i := 20) (by decide +kernel) (fun fd F => fn_hs F S (fun ds r q => ?_) fun cdv A outer s H E hr => ⟨_, (pss_one (ps_ret (pe_ifExp (pt_cmpR op_eq (pe_ix ix_tup (pv 1) pe_int (fun _ _ => rfl)) pe_str (nomark _)) (pe_slice sl_tupA (pe_prp (pv 0) T.cRow (hr.mono (by decide)) (C_Row_links T)) po_none (po_some (pe_un un_neg pe_int))) (pe_down (pe_prp (pv 0) T.cRow (hr.mono (by decide)) (C_Row_links T)))))), fun ds r q => ?_⟩) (fun _ _ _ _ _ _ us hl => match us, hl with | [_, _], _ => rfl)
  · obtain ⟨_, _, rfl, _⟩ := q
    rfl
  · obtain ⟨R, l, rfl, rfl, h2, _⟩ := q
    refine ⟨[], hs_ret (he_if (ht_test (he_isOut (he_var rfl))) (fun e => ?_) (fun e => ?_))⟩
    · refine HE.to (he_slT (he_prop (he_var rfl) rfl ⟨R, rfl, rfl, trivial⟩) ho_none (ho_some (he_neg he_int))) ?_
      unfold along
      rw [e, if_pos rfl]
      have h := h2.1
      have e2 : R.boxes.length = R.links.length - 1 := by omega
      rw [e2]
      exact congrArg D.tup cutD_m1
    · have h := h2.1
      obtain ⟨p, ps, ep⟩ : ∃ p ps, R.links = p :: ps := by
        cases hl : R.links with
        | nil =>
          rw [hl] at h
          simp at h
        | cons p ps => exact ⟨p, ps, rfl⟩
      refine HE.to (he_down (n := 0) (HE.to (he_prop (he_var rfl) rfl ⟨R, rfl, rfl, trivial⟩) (y := .tup (prD p :: ps.map prD)) (by rw [ep]; rfl))) ?_
      unfold along
      rw [e, ep, if_neg Bool.false_ne_true]
      show D.tup (ps.map prD).reverse = D.tup ((List.drop 1 (p :: ps)).reverse.map prD)
      rw [List.map_reverse]
      rfl

def r_place_along : List D → D → Prop := fun ds r => ∃ (R : RowR) (l : Lt) (b : Nat), ds = [.row R, ltD l, .int (b : Int)] ∧ r = .int (place R l b : Int) ∧ (b < R.boxes.length) ∧ (RowOk R) ∧ True
theorem C_place_along (T : Tx K mg) : Cal P w K mg base "place_along" 3 ["row", "letter", "box"] (SpR K r_place_along) := by
  have S : FnScope ["row", "letter", "box"] ["row", "letter", "box"] (defScope (top 21)) := ⟨rfl, rfl, rfl, by decide +kernel, rfl, by decide +kernel, by decide +kernel⟩
  refine cal_of T (i := 21) (by decide +kernel) (fun fd F => fn_hs F S (fun ds r q => ?_) fun cdv A outer s H E hr => ⟨_, (pss_one (ps_ret (pe_ifExp (pt_cmpR op_eq (pe_ix ix_tup (pv 1) pe_int (fun _ _ => rfl)) pe_str (nomark _)) (pv 2) (pe_op op_sub (pe_op op_sub (pe_callB (call_lenC (hr.mono (by decide)) (C_Row___len__ T)) (by rfl) (T.fr "len" (by decide +kernel)) (by decide +kernel) (pa_cons (pv 0) pa_nil)) pe_int) (pv 2))))), fun ds r q => ?_⟩) (fun _ _ _ _ _ _ us hl => match us, hl with | [_, _, _], _ => rfl)
  · obtain ⟨_, _, _, rfl, _⟩ := q
    rfl
  · obtain ⟨R, l, b, rfl, rfl, h1, h2, _⟩ := q
    refine ⟨[], hs_ret (he_if (ht_test (he_isOut (he_var rfl))) (fun e => (he_var rfl).to ?_) (fun e => (he_op (he_op (he_cb (ha1 (he_var rfl)) (rc_lenO rfl ⟨R, rfl, rfl, trivial⟩ ?_)) he_int rr_sub) (he_var rfl) rr_sub).to ?_))⟩
    · unfold place
      rw [e, if_pos rfl]
    · have := h2.2.2
      omega
    · unfold place
      rw [e, if_neg Bool.false_ne_true]
      have : ((R.boxes.length - 1 - b : Nat) : Int) = (R.boxes.length : Int) - 1 - (b : Int) := by omega
      rw [this]

def r_are_steps : List D → D → Prop := fun ds r => ∃ (R : RowR) (T0 : TalkR) (l : Lt) (v : List Int), ds = [.row R, .talk T0, ltD l, .tup (v.map .int)] ∧ r = .bl (steps R T0 l v) ∧ (RowOk R) ∧ (l ∈ letters T0) ∧ (v.length ≤ 100) ∧ True
theorem C_are_steps (T : Tx K mg) : Cal P w K mg base "are_steps" 4 ["row", "talk", "letter", "value"] (SpR K r_are_steps) := by
  have S : FnScope ["row", "talk", "letter", "value", "before", "time", "least", "most"] ["row", "talk", "letter", "value"] (defScope (top 22)) := ⟨rfl, rfl, rfl, by decide +kernel, rfl, by decide +kernel, by decide +kernel⟩
  refine cal_of T (i := 22) (by decide +kernel) (fun fd F => fn_hs F S (fun ds r q => ?_) fun cdv A outer s H E hr => ⟨_, (pss_cons (ps_if (PW.pt (pw_or (pt_not (pt_val (pe_callB call_isi (by rfl) (T.fr "isinstance" (by decide +kernel)) (by decide +kernel) (pa_cons (pv 3) (pa_cons (pe_bltn (v := .ty "tuple") (by rfl) (T.fr "tuple" (by decide +kernel)) (by decide +kernel) rfl) pa_nil))))) (pw_or (pt_cmpR op_gt (pe_callB call_len (by rfl) (T.fr "len" (by decide +kernel)) (by decide +kernel) (pa_cons (pv 3) pa_nil)) (pe_callB (call_lenC (hr.mono (by decide)) (C_Row___len__ T)) (by rfl) (T.fr "len" (by decide +kernel)) (by decide +kernel) (pa_cons (pv 0) pa_nil)) (nomark _)) (pw_or1 (pt_not (pt_val (pe_callB (cr_all rfl) (by rfl) (T.fr "all" (by decide +kernel)) (by decide +kernel) (pa_cons (pe_frz (pe_lc (own := [("time", 5)]) (g := (gName 5)) (tt := tYes) (te := (tCall (SpR K r_is_count) [] L2.E0 (tCons (tVar 5) tNil))) (by rfl) S.nd (pi_tup (pv 3)) (blkOk_by (N := ["row", "talk", "letter", "value", "before", "time", "least", "most"]) (sc := defScope (top 22)) (by decide +kernel)) (fun _ _ _ _ _ => (pg_name (i := 5) S.nd rfl (Or.inl rfl))) (fun _ _ _ _ _ => pts_nil) (fun _ _ _ _ _ => (pe_cal (C_is_count T) (hr.mono (by decide)) (by rfl) (pa_cons (pv 5) pa_nil))))) pa_nil)))))))) (pss_one (ps_ret pe_bl)) pss_nil)
  (pss_cons (ps_set (i := 4) S.nd rfl (Or.inl rfl) (pe_mth (pv 1) T.cTalk (hr.mono (by decide)) (C_Talk_time T) (pa_cons (pv 2) pa_nil)))
  (pss_cons (ps_for PassesOwn.never rfl (RZ.pi_zipA (by rfl) (T.fr "zip" (by decide +kernel)) (pa_cons (pv 3) (pa_cons (pe_cal (C_links_along T) (hr.mono (by decide)) (by rfl) (pa_cons (pv 0) (pa_cons (pv 2) pa_nil))) pa_nil))) (pg_tup (by rfl) (pgs_cons (pg_name (i := 5) S.nd rfl (Or.inl rfl)) (pgs_cons (pg_tup (by rfl) (pgs_cons (pg_name (i := 6) S.nd rfl (Or.inl rfl)) (pgs_cons (pg_name (i := 7) S.nd rfl (Or.inl rfl)) pgs_nil))) pgs_nil)))
  (pss_cons (ps_if (pt_not (pt_chain op_le op_le (pe_op op_add (pv 4) (pv 6)) (pv 5) (pe_op op_add (pv 4) (pv 7)))) (pss_one (ps_ret pe_bl)) pss_nil)
  (pss_one (ps_set (i := 4) S.nd rfl (Or.inl rfl) (pv 5)))))
  (pss_one (ps_ret pe_bl))))), fun ds r q => ?_⟩) (fun _ _ _ _ _ _ us hl => match us, hl with | [_, _, _, _], _ => rfl)
  · obtain ⟨_, _, _, _, rfl, _⟩ := q
    rfl
  · obtain ⟨R, T0, l, v, rfl, rfl, h2, h3, h4, _⟩ := q
    have hR := h2.2.2
    let bef : Nat → Int := fun i => ((sent T0 l :: v)[i]?).getD 0
    refine ⟨[], hs_seq (hs_leave (b := !(decide (v.length ≤ R.boxes.length) && v.all fun t => decide (0 ≤ t))) (HT.to (ht_or (ht_not (ht_B (he_isi (he_var rfl) (b := true) rfl rfl))) fun _ => ht_or (ht_test (he_op (he_lenT (he_var rfl)) (he_cb (ha1 (he_var rfl)) (rc_lenO rfl ⟨R, rfl, rfl, trivial⟩ (by omega))) rr_gt)) fun _ => ht_not (ht_B (he_all (xs := v) (f := fun t => decide (0 ≤ t)) (hl_lcY v D.int (fun t => .bl (decide (0 ≤ t))) (hi_tup (he_var rfl)) (by omega) fun a ha => ⟨_, _, hg_name, by decide, he_call (ha1 (he_var rfl)) ⟨a, rfl, rfl, trivial⟩⟩)))) ?_) fun e => hs_ret (he_bl.to ?_)) fun e0 => hs_seq (hs_set (he_meth (he_var rfl) rfl (by rfl) (ha1 (he_var rfl)) ⟨T0, l, rfl, rfl, h3, trivial⟩)) fun _ =>
      hs_seq (hs_forX (v.zip (along R l)) (ziD D.int prD) (hi_zipT (he_var rfl) (he_call (ha2 (he_var rfl) (he_var rfl)) ⟨R, l, rfl, rfl, h2, trivial⟩)) (fun i => [.da (.row R), .da (.talk T0), .da (ltD l), .da (.tup (v.map .int)), .da (.int (bef i)), .no, .no, .no]) (fun i => stepsOk (sent T0 l) v (along R l) = stepsOk (bef i) (v.drop i) ((along R l).drop i)) (by repeat (first | exact Sub.nil | refine Sub.eq ?_ | refine Sub.no ?_)) rfl fun i a ha hp => ⟨_, _, hg_tup (hgs_cons hg_name (hgs_cons (hg_tup (hgs_cons hg_name (hgs_cons hg_name hgs_nil)) rfl) hgs_nil)) rfl, ?_⟩) fun he => hs_ret (he_bl.to ?_)⟩
    · by_cases g : v.length ≤ R.boxes.length
      · have g2 : ¬ ((R.boxes.length : Int) < (v.length : Int)) := by omega
        rw [decide_eq_true g, decide_eq_false g2]
        rfl
      · have g2 : ((R.boxes.length : Int) < (v.length : Int)) := by omega
        rw [decide_eq_false g, decide_eq_true g2]
        rfl
    · unfold steps
      have e2 : (decide (v.length ≤ R.boxes.length) && v.all fun t => decide (0 ≤ t)) = false := by
        cases q : (decide (v.length ≤ R.boxes.length) && v.all fun t => decide (0 ≤ t)) with
        | false => rfl
        | true => rw [q] at e; cases e
      rw [e2]
      rfl
    · have hv : v[i]? = some a.1 := by
        rw [List.getElem?_zip_eq_some] at ha
        exact ha.1
      have hl : (along R l)[i]? = some a.2 := by
        rw [List.getElem?_zip_eq_some] at ha
        exact ha.2
      have dv : v.drop i = a.1 :: v.drop (i + 1) := by
        rw [List.drop_eq_getElem_cons (List.getElem?_eq_some_iff.mp hv).1, (List.getElem?_eq_some_iff.mp hv).2]
      have dl : (along R l).drop i = a.2 :: (along R l).drop (i + 1) := by
        rw [List.drop_eq_getElem_cons (List.getElem?_eq_some_iff.mp hl).1, (List.getElem?_eq_some_iff.mp hl).2]
      have hb : bef (i + 1) = a.1 := by
        show ((sent T0 l :: v)[i + 1]?).getD 0 = a.1
        rw [List.getElem?_cons_succ, hv]
        rfl
      rw [dv, dl] at hp
      have hp2 : stepsOk (sent T0 l) v (along R l) = ((decide (bef i + a.2.1 ≤ a.1) && decide (a.1 ≤ bef i + a.2.2)) && stepsOk a.1 (v.drop (i + 1)) ((along R l).drop (i + 1))) := hp
      refine hs_seq (hs_leave (HT.to (ht_not (ht_test (he_chain (he_op (he_var rfl) (he_var rfl) rr_add) (he_var rfl) rr_le (he_op (he_var rfl) (he_var rfl) rr_add) rr_le))) rfl) fun e => hs_ret (he_bl.to ?_)) fun e1 => (hs_set (he_var rfl)).weak fun _ => ⟨?_, ?_⟩
      · have e2 : (decide (bef i + a.2.1 ≤ a.1) && decide (a.1 ≤ bef i + a.2.2)) = false := by
          cases q : (decide (bef i + a.2.1 ≤ a.1) && decide (a.1 ≤ bef i + a.2.2)) with
          | false => rfl
          | true => rw [q] at e; cases e
        unfold steps
        rw [hp2, e2, Bool.false_and, Bool.and_false]
      · have e2 : (decide (bef i + a.2.1 ≤ a.1) && decide (a.1 ≤ bef i + a.2.2)) = true := by
          cases q : (decide (bef i + a.2.1 ≤ a.1) && decide (a.1 ≤ bef i + a.2.2)) with
          | true => rfl
          | false => rw [q] at e1; cases e1
        rw [hp2, e2, Bool.true_and, hb]
      · rw [hb]
        exact (by repeat (first | exact Sub.nil | refine Sub.eq ?_ | refine Sub.no ?_))
    · unfold steps
      have e2 : (decide (v.length ≤ R.boxes.length) && v.all fun t => decide (0 ≤ t)) = true := by
        cases q : (decide (v.length ≤ R.boxes.length) && v.all fun t => decide (0 ≤ t)) with
        | true => rfl
        | false => rw [q] at e0; cases e0
      rw [e2, he, List.length_zip]
      rcases Nat.le_total v.length (along R l).length with q | q
      · rw [Nat.min_eq_left q, List.drop_length]
        rfl
      · rw [Nat.min_eq_right q, List.drop_length]
        cases v.drop (along R l).length <;> rfl

def r_can_be_lost : List D → D → Prop := fun ds r => ∃ (T0 : TalkR) (ls : List Lt), ds = [.talk T0, .lst (ls.map ltD)] ∧ r = .bl (canLose T0.loss.toNat ls) ∧ (TalkOk T0) ∧ True
theorem C_can_be_lost (T : Tx K mg) : Cal P w K mg base "can_be_lost" 3 ["talk", "lost"] (SpR K r_can_be_lost) := by
  have S : FnScope ["talk", "lost", "letter", "followers", "at", "other"] ["talk", "lost"] (defScope (top 23)) := ⟨rfl, rfl, rfl, by decide +kernel, rfl, by decide +kernel, by decide +kernel⟩
  refine cal_of T (i := 23) (by decide +kernel) (fun fd F => fn_hs F S (fun ds r q => ?_) fun cdv A outer s H E hr => ⟨_, (pss_cons (ps_for PassesOwn.never rfl (pi_list (pv 1)) (pg_name (i := 2) S.nd rfl (Or.inr rfl))
  (pss_cons (ps_frz 3 (ps_setLc (i := 3) (own := [("at", 4)]) (g := (gName 4)) (tt := tYes) (te := (tTup (tCons (tOp (rIxT K) (tVar 2) (tC (.int 0))) (tCons (tOp (rI0 fun i j => .int (i + j)) (tOp (rIxT K) (tVar 2) (tC (.int 1))) (tVar 4)) tNil)))) (by rfl) S.nd rfl rfl (sw_true rfl rfl rfl (by decide +kernel)) (pi_range1 (by rfl) (T.fr "range" (by decide +kernel)) (pa_cons (pe_op op_add (pe_prp (pv 0) T.cTalk (hr.mono (by decide)) (C_Talk_losses T)) pe_int) pa_nil)) (blkOk_by (N := ["talk", "lost", "letter", "followers", "at", "other"]) (sc := defScope (top 23)) (by decide +kernel)) (fun _ _ _ _ _ => (pg_name (i := 4) S.nd rfl (Or.inl rfl))) (fun _ _ _ _ _ => pts_nil) (fun _ _ _ _ _ => (pe_tup (pa_cons (pe_ix ix_tup (pv 2) pe_int (fun _ _ => rfl)) (pa_cons (pe_op op_add (pe_ix ix_tup (pv 2) pe_int (fun _ _ => rfl)) (pv 4)) pa_nil))))))
  (pss_one (ps_if (pt_val (pe_callB (cr_all rfl) (by rfl) (T.fr "all" (by decide +kernel)) (by decide +kernel) (pa_cons (pe_frz (pe_lc (own := [("other", 5)]) (g := (gName 5)) (tt := tYes) (te := (tOp (rInD K) (tVar 5) (tVar 1))) (by rfl) S.nd (pi_list (pv 3)) (blkOk_by (N := ["talk", "lost", "letter", "followers", "at", "other"]) (sc := defScope (top 23)) (by decide +kernel)) (fun _ _ _ _ _ => (pg_name (i := 5) S.nd rfl (Or.inl rfl))) (fun _ _ _ _ _ => pts_nil) (fun _ _ _ _ _ => (pe_cmpR (op_inD (room65 hr)) (pv 5) (pv 1) (by rfl))))) pa_nil))) (pss_one (ps_ret pe_bl)) pss_nil))))
  (pss_one (ps_ret pe_bl))), fun ds r q => ?_⟩) (fun _ _ _ _ _ _ us hl => match us, hl with | [_, _], _ => rfl)
  · obtain ⟨_, _, rfl, _⟩ := q
    rfl
  · obtain ⟨T0, ls, rfl, rfl, h1, _⟩ := q
    have i1 := h1.2.2.1
    have i2 := h1.2.2.2
    let n := T0.loss.toNat
    let Pb : Lt → Bool := fun l => !((List.range (n + 1)).all fun at_ => decide ((⟨l.o, l.k + at_⟩ : Lt) ∈ ls))
    refine ⟨[], hs_seq (hs_forX ls ltD (hi_list (he_var rfl)) (fun i => [.da (.talk T0), .da (.lst (ls.map ltD)), .no, .no, .no, .no]) (fun i => ls.all Pb = (ls.drop i).all Pb) (by repeat (first | exact Sub.nil | refine Sub.eq ?_ | refine Sub.no ?_)) rfl fun i a ha hp => ⟨_, _, hg_name, ?_⟩) fun he => hs_ret (he_bl.to ?_)⟩
    · rw [all_drop ha] at hp
      refine hs_seq (hs_frz (hs_setL (hl_lcY (List.range (n + 1)) (fun i => .int (i : Int)) (fun i => ltD ⟨a.o, a.k + i⟩) (HI.to (hi_range (n := n + 1) (HE.to (he_op (he_prop (he_var rfl) rfl ⟨T0, rfl, rfl, trivial⟩) he_int rr_add) ?_) (by omega)) rfl) (by rw [List.length_range]; omega) fun j hj => ⟨_, _, hg_name, by decide, HE.to (he_tup2 (he_lo (he_var rfl)) (he_op (he_lk (he_var rfl)) (he_var rfl) rr_add)) ?_⟩)) rfl rfl) fun _ => (hs_leave (b := !(Pb a)) (HT.to (ht_B (he_all (xs := (List.range (n + 1)).map fun i => (⟨a.o, a.k + i⟩ : Lt)) (f := fun x => decide (x ∈ ls)) (hl_lcY _ ltD (fun x => .bl (decide (x ∈ ls))) (HI.to (hi_list (he_var rfl)) (by rw [List.map_map]; rfl)) (by rw [List.length_map, List.length_range]; omega) fun x hx => ⟨_, _, hg_name, by decide, he_op (he_var rfl) (he_var rfl) rr_inL⟩))) ?_) fun e => hs_ret (he_bl.to ?_)).weak fun e => ⟨?_, (by repeat (first | exact Sub.nil | refine Sub.eq ?_ | refine Sub.no ?_))⟩
      · have : ((n + 1 : Nat) : Int) = T0.loss + 1 := by omega
        rw [this]
      · show D.tup [.str (wd a.o), .int ((a.k : Int) + (j : Int))] = D.tup [.str (wd a.o), .int ((a.k + j : Nat) : Int)]
        rw [Int.natCast_add]
      · rw [List.all_map]
        show _ = !!_
        rw [Bool.not_not]
        rfl
      · have e2 : Pb a = false := by
          cases q : Pb a with
          | false => rfl
          | true => rw [q] at e; cases e
        rw [e2, Bool.false_and] at hp
        exact congrArg D.bl hp.symm
      · have e2 : Pb a = true := by
          cases q : Pb a with
          | true => rfl
          | false => rw [q] at e; cases e
        rw [hp, e2, Bool.true_and]
    · have : ls.all Pb = true := by
        rw [he, List.drop_length]
        rfl
      exact congrArg D.bl this.symm

end
end Q
/-! Quietdoors: the defs one by one (3): courses. -/
namespace Q
open PySem PySem.Spec PyProof.Rows L2
section
variable {P : Program} {w : World} {K : PySem.W.Frag} {mg : Str → Option Value} {base : Heap}
def r_is_course : List D → D → Prop := fun ds r => ∃ (R : RowR) (T0 : TalkR) (c : Crs), ds = [.row R, .talk T0, crsD c] ∧ r = .bl (isCourse R T0 c) ∧ (RowOk R) ∧ (TalkOk T0) ∧ (CrsOk c) ∧ True
theorem C_is_course (T : Tx K mg) : Cal P w K mg base "is_course" 5 ["row", "talk", "value"] (SpR K r_is_course) := by
  have S : FnScope ["row", "talk", "value", "letter"] ["row", "talk", "value"] (defScope (top 24)) := ⟨rfl, rfl, rfl, by decide +kernel, rfl, by decide +kernel, by decide +kernel⟩
  refine cal_of T (i := 24) (by decide +kernel) (fun fd F => fn_hs F S (fun ds r q => ?_) fun cdv A outer s H E hr => ⟨_, (pss_cons (ps_if (PW.pt (pw_or (pt_not (pt_val (pe_callB call_isF (by rfl) (T.fr "isinstance" (by decide +kernel)) (by decide +kernel) (pa_cons (pv 2) (pa_cons (pe_bltn (v := .ty "dict") (by rfl) (T.fr "dict" (by decide +kernel)) (by decide +kernel) rfl) pa_nil))))) (pw_or1 (pt_cmpR op_ne (pe_callB call_lenF (by rfl) (T.fr "len" (by decide +kernel)) (by decide +kernel) (pa_cons (pv 2) pa_nil)) (pe_callB call_len (by rfl) (T.fr "len" (by decide +kernel)) (by decide +kernel) (pa_cons (pe_mth0 (pv 1) T.cTalk (hr.mono (by decide)) (C_Talk_letters T)) pa_nil)) (nomark _))))) (pss_one (ps_ret pe_bl)) pss_nil)
  (pss_cons (ps_if (pt_not (pt_val (pe_callB (cr_all rfl) (by rfl) (T.fr "all" (by decide +kernel)) (by decide +kernel) (pa_cons (pe_frz (pe_lc (own := [("letter", 3)]) (g := (gName 3)) (tt := tYes) (te := (tOp (rInO (He.ga K "Talk") (SpR K r_Talk___contains__) false) (tVar 3) (tVar 1))) (by rfl) S.nd (pi_keys (pv 2)) (blkOk_by (N := ["row", "talk", "value", "letter"]) (sc := defScope (top 24)) (by decide +kernel)) (fun _ _ _ _ _ => (pg_name (i := 3) S.nd rfl (Or.inl rfl))) (fun _ _ _ _ _ => pts_nil) (fun _ _ _ _ _ => (pe_cmpR (op_inC (hr.mono (by decide)) (C_Talk___contains__ T) rfl) (pv 3) (pv 1) (by rfl))))) pa_nil)))) (pss_one (ps_ret pe_bl)) pss_nil)
  (pss_cons (ps_if (pt_not (pt_val (pe_callB (cr_all rfl) (by rfl) (T.fr "all" (by decide +kernel)) (by decide +kernel) (pa_cons (pe_frz (pe_lc (own := [("letter", 3)]) (g := (gName 3)) (tt := tYes) (te := (tCall (SpR K r_are_steps) [] L2.E0 (tCons (tVar 0) (tCons (tVar 1) (tCons (tVar 3) (tCons (tDGet (tVar 2) (tVar 3)) tNil)))))) (by rfl) S.nd (pi_keys (pv 2)) (blkOk_by (N := ["row", "talk", "value", "letter"]) (sc := defScope (top 24)) (by decide +kernel)) (fun _ _ _ _ _ => (pg_name (i := 3) S.nd rfl (Or.inl rfl))) (fun _ _ _ _ _ => pts_nil) (fun _ _ _ _ _ => (pe_cal (C_are_steps T) (hr.mono (by decide)) (by rfl) (pa_cons (pv 0) (pa_cons (pv 1) (pa_cons (pv 3) (pa_cons (pe_dget (hu_of hr) (pv 2) (pv 3) (fun _ _ => rfl)) pa_nil)))))))) pa_nil)))) (pss_one (ps_ret pe_bl)) pss_nil)
  (pss_one (ps_ret (pe_cal (C_can_be_lost T) (hr.mono (by decide)) (by rfl) (pa_cons (pv 1) (pa_cons (pe_frz (pe_lc (own := [("letter", 3)]) (g := (gName 3)) (tt := (tTest (tOp (rI0 fun i j => .bl (decide (i < j))) (tCB (rLn K) (tCons (tDGet (tVar 2) (tVar 3)) tNil)) (tCB (rLenO (He.ga K "Row") (SpR K r_Row___len__)) (tCons (tVar 0) tNil))))) (te := (tVar 3)) (by rfl) S.nd (pi_keys (pv 2)) (blkOk_by (N := ["row", "talk", "value", "letter"]) (sc := defScope (top 24)) (by decide +kernel)) (fun _ _ _ _ _ => (pg_name (i := 3) S.nd rfl (Or.inl rfl))) (fun _ _ _ _ _ => (pts_one (pt_cmpR op_lt (pe_callB call_len (by rfl) (T.fr "len" (by decide +kernel)) (by decide +kernel) (pa_cons (pe_dget (hu_of hr) (pv 2) (pv 3) (fun _ _ => rfl)) pa_nil)) (pe_callB (call_lenC (hr.mono (by decide)) (C_Row___len__ T)) (by rfl) (T.fr "len" (by decide +kernel)) (by decide +kernel) (pa_cons (pv 0) pa_nil)) (nomark _)))) (fun _ _ _ _ _ => (pv 3)))) pa_nil)))))))), fun ds r q => ?_⟩) (fun _ _ _ _ _ _ us hl => match us, hl with | [_, _, _], _ => rfl)
  · obtain ⟨_, _, _, rfl, _⟩ := q
    rfl
  · obtain ⟨R, T0, c, rfl, rfl, h1, h2, h3, _⟩ := q
    have hR := h1.2.2
    have hL := letters_small h2
    have hC := h3.2.1
    have look : ∀ p ∈ c, lookK (c.map fun p => (p.1, D.tup (p.2.map .int))) p.1 = some (.tup ((cAt c p.1).map .int)) := fun p hp => look_c (List.mem_map.mpr ⟨p, hp, rfl⟩)
    have neg : ∀ b : Bool, (!b) = true → b = false := fun b h => by cases b <;> simp_all
    have neg2 : ∀ b : Bool, (!b) = false → b = true := fun b h => by cases b <;> simp_all
    refine ⟨[], hs_seq (hs_leave (b := !decide (c.length = (letters T0).length)) (HT.to (ht_or (ht_not (ht_B (he_cb (ha2 (he_var rfl) he_ty) (rc_isF (b := true) rfl)))) fun _ => ht_test (he_op (he_cb (ha1 (he_var rfl)) rc_lenF) (he_lenT (he_meth (he_var rfl) rfl (by rfl) ha_nil ⟨T0, rfl, rfl, h2, trivial⟩)) rr_neI)) ?_) fun e => hs_ret (he_bl.to ?_)) fun e0 =>
      hs_seq (hs_leave (b := !(c.all fun p => decide (p.1 ∈ letters T0))) (ht_not (ht_B (he_all (xs := c) (f := fun p => decide (p.1 ∈ letters T0)) (hl_lcY c (fun p => ltD p.1) (fun p => .bl (decide (p.1 ∈ letters T0))) (hi_crs (he_var rfl)) (by omega) fun p hp => ⟨_, _, hg_name, by decide, he_op (he_var rfl) (he_var rfl) (rr_inO rfl ⟨T0, p.1, rfl, rfl, h2, trivial⟩)⟩)))) fun e => hs_ret (he_bl.to ?_)) fun e1 => ?_⟩
    · rw [List.length_map]
      show (!true || !decide (((c.length : Nat) : Int) = ((letters T0).length : Int))) = _
      rw [Bool.not_true, Bool.false_or]
      by_cases q : c.length = (letters T0).length
      · rw [decide_eq_true q, decide_eq_true (by omega)]
      · rw [decide_eq_false q, decide_eq_false (by omega)]
    · unfold isCourse
      rw [neg _ e]
      rfl
    · unfold isCourse
      rw [neg _ e, Bool.and_false, Bool.false_and, Bool.false_and]
    · have a0 := neg2 _ e0
      have a1 := neg2 _ e1
      have memL : ∀ p ∈ c, p.1 ∈ letters T0 := fun p hp => of_decide_eq_true (List.all_eq_true.mp a1 p hp)
      refine hs_seq (hs_leave (b := !(c.all fun p => steps R T0 p.1 (cAt c p.1))) (ht_not (ht_B (he_all (xs := c) (f := fun p => steps R T0 p.1 (cAt c p.1)) (hl_lcY c (fun p => ltD p.1) (fun p => .bl (steps R T0 p.1 (cAt c p.1))) (hi_crs (he_var rfl)) (by omega) fun p hp => ⟨_, _, hg_name, by decide, he_call (ha_cons (he_var rfl) (ha_cons (he_var rfl) (ha2 (he_var rfl) (he_dget (he_var rfl) (he_var rfl) (look p hp))))) ⟨R, T0, p.1, cAt c p.1, rfl, rfl, h1, memL p hp, cAt_small h3 p.1, trivial⟩⟩)))) fun e => hs_ret (he_bl.to ?_)) fun e2 => ?_
      · unfold isCourse
        rw [neg _ e, Bool.and_false, Bool.false_and]
      · have a2 := neg2 _ e2
        refine hs_ret (HE.to (he_call (ha2 (he_var rfl) (he_frz (hl_lc c (fun p => ltD p.1) (fun p => decide ((cAt c p.1).length < R.boxes.length)) (fun p => ltD p.1) (hi_crs (he_var rfl)) (by omega) fun p hp => ⟨_, _, hg_name, by decide, HT.to (ht_test (he_op (he_lenT (he_dget (he_var rfl) (he_var rfl) (look p hp))) (he_cb (ha1 (he_var rfl)) (rc_lenO rfl ⟨R, rfl, rfl, trivial⟩ (by omega))) rr_lt)) ?_, fun _ => he_var rfl⟩))) ⟨T0, (c.map (·.1)).filter fun l => decide ((cAt c l).length < R.boxes.length), ?_, rfl, h2, trivial⟩) ?_)
        · by_cases q : (cAt c p.1).length < R.boxes.length
          · rw [decide_eq_true q, decide_eq_true (by omega)]
          · rw [decide_eq_false q, decide_eq_false (by omega)]
        · rw [List.filter_map, List.map_map]
          rfl
        · unfold isCourse
          rw [a0, a1, a2]
          rfl

def r_check_course : List D → D → Prop := fun ds r => ∃ (R : RowR) (T0 : TalkR) (c : Crs), ds = [.row R, .talk T0, crsD c] ∧ r = .non ∧ (RowOk R) ∧ (TalkOk T0) ∧ (CrsOk c) ∧ (isCourse R T0 c = true) ∧ True
theorem C_check_course (T : Tx K mg) : Cal P w K mg base "check_course" 6 ["row", "talk", "course"] (SpR K r_check_course) := by
  have S : FnScope ["row", "talk", "course"] ["row", "talk", "course"] (defScope (top 25)) := ⟨rfl, rfl, rfl, by decide +kernel, rfl, by decide +kernel, by decide +kernel⟩
  refine cal_of T (i := 25) (by decide +kernel) (fun fd F => fn_hs F S (fun ds r q => ?_) fun cdv A outer s H E hr => ⟨_, (pss_one (ps_if (pt_not (pt_val (pe_cal (C_is_course T) (hr.mono (by decide)) (by rfl) (pa_cons (pv 0) (pa_cons (pv 1) (pa_cons (pv 2) pa_nil)))))) (pss_one ps_never) pss_nil)), fun ds r q => ?_⟩) (fun _ _ _ _ _ _ us hl => match us, hl with | [_, _, _], _ => rfl)
  · obtain ⟨_, _, _, rfl, _⟩ := q
    rfl
  · obtain ⟨R, T0, c, rfl, rfl, h1, h2, h3, h4, _⟩ := q
    exact HS.nx (hs_guard (ht_not (ht_B (he_call (ha_cons (he_var rfl) (ha2 (he_var rfl) (he_var rfl))) ⟨R, T0, c, rfl, rfl, h1, h2, h3, trivial⟩))) (by rw [h4]; rfl)) fun _ => rfl

def r_is_sight : List D → D → Prop := fun ds r => ∃ (R : RowR) (b : Nat) (l : Lt), ds = [.row R, .int (b : Int), ltD l] ∧ r = .bl (sightOk R b l) ∧ (b < R.boxes.length) ∧ True
theorem C_is_sight (T : Tx K mg) : Cal P w K mg base "is_sight" 3 ["row", "box", "letter"] (SpR K r_is_sight) := by
  have S : FnScope ["row", "box", "letter"] ["row", "box", "letter"] (defScope (top 27)) := ⟨rfl, rfl, rfl, by decide +kernel, rfl, by decide +kernel, by decide +kernel⟩
  refine cal_of T (i := 27) (by decide +kernel) (fun fd F => fn_hs F S (fun ds r q => ?_) fun cdv A outer s H E hr => ⟨_, (pss_one (ps_ret (pe_or (pe_cmpR op_eq (pe_ix ix_tup (pv 2) pe_int (fun _ _ => rfl)) pe_str (nomark _)) (pe_one (pe_cmpR op_eq (pe_prp (pe_ix ix_tup (pe_prp (pv 0) T.cRow (hr.mono (by decide)) (C_Row_boxes T)) (pv 1) (fun _ _ => rfl)) T.cBox (hr.mono (by decide)) (C_Box_sees T)) pe_str (nomark _)))))), fun ds r q => ?_⟩) (fun _ _ _ _ _ _ us hl => match us, hl with | [_, _, _], _ => rfl)
  · obtain ⟨_, _, _, rfl, _⟩ := q
    rfl
  · obtain ⟨R, b, l, rfl, rfl, h1, _⟩ := q
    have hb : R.boxes[b]? = some R.boxes[b] := List.getElem?_eq_getElem h1
    refine ⟨[], hs_ret (HE.to (he_or (he_isOut (he_var rfl)) fun _ => he_both (he_prop (he_ixTm (f := D.box) b (he_prop (he_var rfl) rfl ⟨R, rfl, rfl, trivial⟩) (he_var rfl) rfl hb) rfl ⟨R.boxes[b], rfl, rfl, trivial⟩)) ?_)⟩
    unfold sightOk
    rw [hb]
    rfl

def r_seen_at : List D → D → Prop := fun ds r => ∃ (R : RowR) (T0 : TalkR) (c : Crs) (b : Nat), ds = [.row R, .talk T0, crsD c, .int (b : Int)] ∧ r = .lst ((seenL R T0 c b).map rowD) ∧ (RowOk R) ∧ (TalkOk T0) ∧ (CrsOk c) ∧ (isCourse R T0 c = true) ∧ (b < R.boxes.length) ∧ True
theorem C_seen_at (T : Tx K mg) : Cal P w K mg base "seen_at" 4 ["row", "talk", "course", "box"] (SpR K r_seen_at) := by
  have S : FnScope ["row", "talk", "course", "box", "found", "at", "letter", "place", "time"] ["row", "talk", "course", "box"] (defScope (top 26)) := ⟨rfl, rfl, rfl, by decide +kernel, rfl, by decide +kernel, by decide +kernel⟩
  refine cal_of T (i := 26) (by decide +kernel) (fun fd F => fn_hs F S (fun ds r q => ?_) fun cdv A outer s H E hr => ⟨_, (pss_cons (ps_set (i := 4) S.nd rfl (Or.inl rfl) (pe_lst pa_nil))
  (pss_cons (ps_frz 4 (ps_for PassesOwn.never rfl (pi_enumT (by rfl) (T.fr "enumerate" (by decide +kernel)) (pa_cons (pe_mth0 (pv 1) T.cTalk (hr.mono (by decide)) (C_Talk_letters T)) pa_nil)) (pg_tup (by rfl) (pgs_cons (pg_name (i := 5) S.nd rfl (Or.inl rfl)) (pgs_cons (pg_name (i := 6) S.nd rfl (Or.inl rfl)) pgs_nil)))
  (pss_cons (ps_set (i := 7) S.nd rfl (Or.inl rfl) (pe_cal (C_place_along T) (hr.mono (by decide)) (by rfl) (pa_cons (pv 0) (pa_cons (pv 6) (pa_cons (pv 3) pa_nil)))))
  (pss_one (ps_if (pt_cmpR op_lt (pv 7) (pe_callB call_len (by rfl) (T.fr "len" (by decide +kernel)) (by decide +kernel) (pa_cons (pe_dget (hu_of hr) (pv 2) (pv 6) (fun _ _ => rfl)) pa_nil)) (nomark _)) (pss_one (ps_expr (pe_bm PySem.F.plainAttrs_list PySem.F.slot_list_append PySem.F.type_list_append mt_append (pv 4) (pa_cons (pe_tup (pa_cons (pe_ix ix_tup (pe_dget (hu_of hr) (pv 2) (pv 6) (fun _ _ => rfl)) (pv 7) (fun _ _ => rfl)) (pa_cons (pv 5) (pa_cons (pv 6) pa_nil)))) pa_nil)))) pss_nil)))))
  (pss_one (ps_ret (pe_frz (pe_lc (own := [("time", 8), ("at", 5), ("letter", 6)]) (g := (gTup K 3 (gCons (gName 8) (gCons (gName 5) (gCons (gName 6) gNil))))) (tt := tYes) (te := (tTup (tCons (tVar 8) (tCons (tVar 6) tNil)))) (by rfl) S.nd (pi_list (pe_frz (pe_callB (call_srt hr.units) (by rfl) (T.fr "sorted" (by decide +kernel)) (by decide +kernel) (pa_cons (pv 4) pa_nil)))) (blkOk_by (N := ["row", "talk", "course", "box", "found", "at", "letter", "place", "time"]) (sc := defScope (top 26)) (by decide +kernel)) (fun _ _ _ _ _ => (pg_tup (by rfl) (pgs_cons (pg_name (i := 8) S.nd rfl (Or.inl rfl)) (pgs_cons (pg_name (i := 5) S.nd rfl (Or.inl rfl)) (pgs_cons (pg_name (i := 6) S.nd rfl (Or.inl rfl)) pgs_nil))))) (fun _ _ _ _ _ => pts_nil) (fun _ _ _ _ _ => (pe_tup (pa_cons (pv 8) (pa_cons (pv 6) pa_nil)))))))))), fun ds r q => ?_⟩) (fun _ _ _ _ _ _ us hl => match us, hl with | [_, _, _, _], _ => rfl)
  · obtain ⟨_, _, _, _, rfl, _⟩ := q
    rfl
  · obtain ⟨R, T0, c, b, rfl, rfl, h1, h2, h3, h4, h5, _⟩ := q
    have hL := letters_small h2
    let zs := (letters T0).zipIdx
    let f : Lt × Nat → Bool := fun p => decide (place R p.1 b < (cAt c p.1).length)
    let v : Lt × Nat → T3 := fun p => ⟨((cAt c p.1)[place R p.1 b]?).getD 0, p.2, p.1⟩
    have look : ∀ l ∈ letters T0, lookK (c.map fun p => (p.1, D.tup (p.2.map .int))) l = some (.tup ((cAt c l).map .int)) := fun l hl => look_c (keys_of h3 h4 l hl)
    have hz : zs.length ≤ 120 := by
      show ((letters T0).zipIdx).length ≤ 120
      rw [List.length_zipIdx]
      exact hL
    have e3 : zs.take zs.length = zs := List.take_length
    have hf3 : (found3 R T0 c b).length ≤ 120 := by
      unfold found3
      rw [List.length_map]
      exact Nat.le_trans (List.length_filter_le _ _) hz
    refine ⟨[], hs_seq (hs_setL (hl_lst ha_nil (Nat.zero_le _))) fun _ => hs_seq (hs_frz (ds := (found3 R T0 c b).map d3) (hs_forX zs (enD ltD) (hi_enumT (he_meth (he_var rfl) rfl (by rfl) ha_nil ⟨T0, rfl, rfl, h2, trivial⟩)) (fun i => [.da (.row R), .da (.talk T0), .da (crsD c), .da (.int (b : Int)), .own ((((zs.take i).filter f).map v).map d3), .no, .no, .no, .no]) (fun _ => True) (by repeat (first | exact Sub.nil | refine Sub.eq ?_ | refine Sub.no ?_)) trivial fun i a ha _ => ⟨_, _, hg_tup (hgs_cons hg_name (hgs_cons hg_name hgs_nil)) rfl, ?_⟩) ?_ rfl) fun _ => hs_ret ?_⟩
    · have hm : a.1 ∈ letters T0 := List.fst_mem_of_mem_zipIdx (List.mem_of_getElem? ha)
      have step : (((zs.take (i + 1)).filter f).map v).map d3 = (((zs.take i).filter f).map v).map d3 ++ (if f a = true then [d3 (v a)] else []) := by
        rw [take_snoc ha, List.filter_append, List.map_append, List.map_append]
        by_cases q : f a = true
        · rw [if_pos q, List.filter_cons, if_pos q]
          rfl
        · rw [if_neg q, List.filter_cons, if_neg q]
          rfl
      have hsm : ((((zs.take i).filter f).map v).map d3).length ≤ 120 := by
        rw [List.length_map, List.length_map]
        exact Nat.le_trans (List.length_filter_le _ _) (Nat.le_trans (by rw [List.length_take]; exact Nat.min_le_right _ _) hz)
      refine hs_seq (hs_set (he_call (ha_cons (he_var rfl) (ha2 (he_var rfl) (he_var rfl))) ⟨R, a.1, b, rfl, rfl, h5, h1, trivial⟩)) fun _ => hs_if (b := f a) (HT.to (ht_test (he_op (he_var rfl) (he_lenT (he_dget (he_var rfl) (he_var rfl) (look a.1 hm))) rr_lt)) ?_) (fun e => ?_) (fun e => ?_)
      · show decide (((place R a.1 b : Nat) : Int) < (((cAt c a.1).length : Nat) : Int)) = decide (place R a.1 b < (cAt c a.1).length)
        by_cases q : place R a.1 b < (cAt c a.1).length
        · rw [decide_eq_true q, decide_eq_true (by omega)]
        · rw [decide_eq_false q, decide_eq_false (by omega)]
      · have hp : place R a.1 b < (cAt c a.1).length := of_decide_eq_true e
        have hg : (cAt c a.1)[place R a.1 b]? = some (((cAt c a.1)[place R a.1 b]?).getD 0) := by
          rw [List.getElem?_eq_getElem hp]
          rfl
        refine (hs_app (i := 4) rfl (by omega) rfl (he_tup3 (he_ixTm (f := D.int) (place R a.1 b) (he_dget (he_var rfl) (he_var rfl) (look a.1 hm)) (he_var rfl) rfl hg) (he_var rfl) (he_var rfl))).weak fun _ => ⟨trivial, ?_⟩
        rw [step, e, if_pos rfl]
        exact (by repeat (first | exact Sub.nil | refine Sub.eq ?_ | refine Sub.no ?_))
      · refine (hs_next (chi := True) trivial).weak fun _ => ⟨trivial, ?_⟩
        rw [step, e, if_neg Bool.false_ne_true, List.append_nil]
        exact (by repeat (first | exact Sub.nil | refine Sub.eq ?_ | refine Sub.no ?_))
    · rw [e3]
      rfl
    · rw [e3]
      refine HE.to (he_frz (hl_lcY (srt3 (found3 R T0 c b)) d3 (fun p => rowD (p.1, p.2.2)) (HI.to (hi_list (he_frz (hl_cb (ha1 (he_var rfl)) (rcl_srt (by omega))))) rfl) (by rw [(srt3_perm _).length_eq]; omega) fun p hp => ⟨_, _, hg_tup (hgs_cons hg_name (hgs_cons hg_name (hgs_cons hg_name hgs_nil))) rfl, by decide, he_tup2 (he_var rfl) (he_var rfl)⟩)) ?_
      unfold seenL
      rw [List.map_map]
      rfl

def r_quiet_before : List D → D → Prop := fun ds r => ∃ (R : RowR) (rs : List (Int × Lt)) (b : Nat) (t : Int), ds = [.row R, .lst (rs.map rowD), .int (b : Int), .int t] ∧ r = optD (quietB R b rs t) ∧ (b < R.boxes.length) ∧ (rs.length ≤ 200) ∧ True
theorem C_quiet_before (T : Tx K mg) : Cal P w K mg base "quiet_before" 4 ["row", "rows", "box", "time"] (SpR K r_quiet_before) := by
  have S : FnScope ["row", "rows", "box", "time", "sights", "other", "letter"] ["row", "rows", "box", "time"] (defScope (top 28)) := ⟨rfl, rfl, rfl, by decide +kernel, rfl, by decide +kernel, by decide +kernel⟩
  refine cal_of T (i := 28) (by decide +kernel) (fun fd F => fn_hs F S (fun ds r q => ?_) fun cdv A outer s H E hr => ⟨_, (pss_cons (ps_frz 4 (ps_setLc (i := 4) (own := [("other", 5), ("letter", 6)]) (g := (gTup K 2 (gCons (gName 5) (gCons (gName 6) gNil)))) (tt := (tAnd (tTest (tOp (rI0 fun i j => .bl (decide (i < j))) (tVar 5) (tVar 3))) (tB (tCall (SpR K r_is_sight) [] L2.E0 (tCons (tVar 0) (tCons (tVar 2) (tCons (tVar 6) tNil))))))) (te := (tVar 5)) (by rfl) S.nd rfl rfl (sw_true rfl rfl rfl (by decide +kernel)) (pi_list (pv 1)) (blkOk_by (N := ["row", "rows", "box", "time", "sights", "other", "letter"]) (sc := defScope (top 28)) (by decide +kernel)) (fun _ _ _ _ _ => (pg_tup (by rfl) (pgs_cons (pg_name (i := 5) S.nd rfl (Or.inl rfl)) (pgs_cons (pg_name (i := 6) S.nd rfl (Or.inl rfl)) pgs_nil)))) (fun _ _ _ _ _ => (pts_one (PW.pt (pw_and (pt_cmpR op_lt (pv 5) (pv 3) (nomark _)) (pw_and1 (pt_val (pe_cal (C_is_sight T) (hr.mono (by decide)) (by rfl) (pa_cons (pv 0) (pa_cons (pv 2) (pa_cons (pv 6) pa_nil)))))))))) (fun _ _ _ _ _ => (pv 5))))
  (pss_one (ps_ret (pe_ifExp (pt_cmpR (op_eqD hr.units) (pv 4) (pe_frz (pe_lst pa_nil)) (nomark _)) pe_non (pe_op op_sub (pv 3) (pe_callB (cr_max rfl) (by rfl) (T.fr "max" (by decide +kernel)) (by decide +kernel) (pa_cons (pv 4) pa_nil))))))), fun ds r q => ?_⟩) (fun _ _ _ _ _ _ us hl => match us, hl with | [_, _, _, _], _ => rfl)
  · obtain ⟨_, _, _, _, rfl, _⟩ := q
    rfl
  · obtain ⟨R, rs, b, t, rfl, rfl, h1, h2, _⟩ := q
    refine ⟨[], hs_seq (hs_frz (hs_setL (HL.to (hl_lc rs rowD (fun p => decide (p.1 < t) && sightOk R b p.2) (fun p => .int p.1) (hi_list (he_var rfl)) (by omega) fun p hp => ⟨_, _, hg_tup (hgs_cons hg_name (hgs_cons hg_name hgs_nil)) rfl, by decide, ht_and (ht_test (he_op (he_var rfl) (he_var rfl) rr_lt)) fun _ => ht_B (he_call (ha_cons (he_var rfl) (ha2 (he_var rfl) (he_var rfl))) ⟨R, b, p.2, rfl, rfl, h1, trivial⟩), fun _ => he_var rfl⟩) (es := (sightsB R b rs t).map .int) ?_)) rfl rfl) fun _ => hs_ret (he_if (b := (sightsB R b rs t).isEmpty) (ht_test (he_op (he_var rfl) (he_frz (hl_lst ha_nil (Nat.zero_le _))) rr_eqNil)) (fun e => he_non.to ?_) (fun e => HE.to (he_op (he_var rfl) (he_cb (ha1 (he_var rfl)) (rc_max (m := mxD (sightsB R b rs t) 0) ?_ fun k hk hj => mxD_is hk hj)) rr_sub) ?_))⟩
    · unfold sightsB
      rw [List.map_map]
      rfl
    · unfold quietB
      rw [e, if_pos rfl]
      rfl
    · cases q : sightsB R b rs t with
      | nil => rw [q] at e; cases e
      | cons x xs => exact Nat.succ_pos _
    · unfold quietB
      rw [e, if_neg Bool.false_ne_true]
      rfl

def r_course_gap : List D → D → Prop := fun ds r => ∃ (R : RowR) (T0 : TalkR) (c : Crs) (b : Nat), ds = [.row R, .talk T0, crsD c, .int (b : Int)] ∧ r = .int (courseGap R T0 c b) ∧ (RowOk R) ∧ (TalkOk T0) ∧ (CrsOk c) ∧ (isCourse R T0 c = true) ∧ (b < R.boxes.length) ∧ True
theorem C_course_gap (T : Tx K mg) : Cal P w K mg base "course_gap" 7 ["row", "talk", "course", "box"] (SpR K r_course_gap) := by
  have S : FnScope ["row", "talk", "course", "box", "rows", "quiets", "time", "letter", "quiet"] ["row", "talk", "course", "box"] (defScope (top 29)) := ⟨rfl, rfl, rfl, by decide +kernel, rfl, by decide +kernel, by decide +kernel⟩
  refine cal_of T (i := 29) (by decide +kernel) (fun fd F => fn_hs F S (fun ds r q => ?_) fun cdv A outer s H E hr => ⟨_, (pss_cons (ps_expr (pe_cal (C_check_course T) (hr.mono (by decide)) (by rfl) (pa_cons (pv 0) (pa_cons (pv 1) (pa_cons (pv 2) pa_nil)))))
  (pss_cons (ps_expr (pe_mth (pv 0) T.cRow (hr.mono (by decide)) (C_Row_check T) (pa_cons (pv 3) pa_nil)))
  (pss_cons (ps_set (i := 4) S.nd rfl (Or.inr rfl) (pe_cal (C_seen_at T) (hr.mono (by decide)) (by rfl) (pa_cons (pv 0) (pa_cons (pv 1) (pa_cons (pv 2) (pa_cons (pv 3) pa_nil))))))
  (pss_cons (ps_frz 5 (ps_setLc (i := 5) (own := [("time", 6), ("letter", 7)]) (g := (gTup K 2 (gCons (gName 6) (gCons (gName 7) gNil)))) (tt := tYes) (te := (tCall (SpR K r_quiet_before) [] L2.E0 (tCons (tVar 0) (tCons (tVar 4) (tCons (tVar 3) (tCons (tVar 6) tNil)))))) (by rfl) S.nd rfl rfl (sw_true rfl rfl rfl (by decide +kernel)) (pi_list (pv 4)) (blkOk_by (N := ["row", "talk", "course", "box", "rows", "quiets", "time", "letter", "quiet"]) (sc := defScope (top 29)) (by decide +kernel)) (fun _ _ _ _ _ => (pg_tup (by rfl) (pgs_cons (pg_name (i := 6) S.nd rfl (Or.inl rfl)) (pgs_cons (pg_name (i := 7) S.nd rfl (Or.inl rfl)) pgs_nil)))) (fun _ _ _ _ _ => pts_nil) (fun _ _ _ _ _ => (pe_cal (C_quiet_before T) (hr.mono (by decide)) (by rfl) (pa_cons (pv 0) (pa_cons (pv 4) (pa_cons (pv 3) (pa_cons (pv 6) pa_nil))))))))
  (pss_one (ps_ret (pe_callBK (call_maxDf rfl hr.units) (by rfl) (T.fr "max" (by decide +kernel)) (by decide +kernel) (pa_cons (pe_frz (pe_lc (own := [("quiet", 8)]) (g := (gName 8)) (tt := (tTest (tOp (fun x y H Q => y = V.non ∧ Q (.bl (!decide (x = .non))) H) (tVar 8) (tC .non)))) (te := (tVar 8)) (by rfl) S.nd (pi_list (pv 5)) (blkOk_by (N := ["row", "talk", "course", "box", "rows", "quiets", "time", "letter", "quiet"]) (sc := defScope (top 29)) (by decide +kernel)) (fun _ _ _ _ _ => (pg_name (i := 8) S.nd rfl (Or.inl rfl))) (fun _ _ _ _ _ => (pts_one (pt_cmpR op_notN (pv 8) pe_non (nomark _)))) (fun _ _ _ _ _ => (pv 8)))) pa_nil) (pk_cons pe_int pk_nil)))))))), fun ds r q => ?_⟩) (fun _ _ _ _ _ _ us hl => match us, hl with | [_, _, _, _], _ => rfl)
  · obtain ⟨_, _, _, _, rfl, _⟩ := q
    rfl
  · obtain ⟨R, T0, c, b, rfl, rfl, h1, h2, h3, h4, h5, _⟩ := q
    have hL := letters_small h2
    have hs : (seenL R T0 c b).length ≤ 120 := by
      unfold seenL
      rw [List.length_map, (srt3_perm _).length_eq]
      unfold found3
      rw [List.length_map]
      exact Nat.le_trans (List.length_filter_le _ _) (by rw [List.length_zipIdx]; exact hL)
    refine ⟨[], hs_seq (hs_drop (he_call (ha_cons (he_var rfl) (ha2 (he_var rfl) (he_var rfl))) ⟨R, T0, c, rfl, rfl, h1, h2, h3, h4, trivial⟩)) fun _ => hs_seq (hs_drop (he_meth (he_var rfl) rfl (by rfl) (ha1 (he_var rfl)) ⟨R, b, rfl, rfl, h5, trivial⟩)) fun _ =>
      hs_seq (hs_set (he_call (ha_cons (he_var rfl) (ha_cons (he_var rfl) (ha2 (he_var rfl) (he_var rfl)))) ⟨R, T0, c, b, rfl, rfl, h1, h2, h3, h4, h5, trivial⟩)) fun _ =>
      hs_seq (hs_frz (hs_setL (HL.to (hl_lcY (seenL R T0 c b) rowD (fun p => optD (quietB R b (seenL R T0 c b) p.1)) (hi_list (he_var rfl)) (by omega) fun p hp => ⟨_, _, hg_tup (hgs_cons hg_name (hgs_cons hg_name hgs_nil)) rfl, by decide, he_call (ha_cons (he_var rfl) (ha_cons (he_var rfl) (ha2 (he_var rfl) (he_var rfl)))) ⟨R, seenL R T0 c b, b, p.1, rfl, rfl, h5, by omega, trivial⟩⟩) (es := (quiets R b (seenL R T0 c b)).map optD) ?_)) rfl rfl) fun _ =>
      hs_ret (he_maxDf (ns := ((quiets R b (seenL R T0 c b)).filter (·.isSome)).map (·.getD 0)) (ha1 (HE.to (he_frz (hl_lc (quiets R b (seenL R T0 c b)) optD (·.isSome) (fun o => .int (o.getD 0)) (hi_list (he_var rfl)) (by unfold quiets; rw [List.length_map]; omega) fun o ho => ⟨_, _, hg_name, by decide, HT.to (ht_test (he_op (he_var rfl) he_non rr_isNot)) ?_, fun e => (he_var rfl).to ?_⟩)) ?_)) (ha1 he_int))⟩
    · unfold quiets
      rw [List.map_map]
      rfl
    · cases o <;> rfl
    · cases o with
      | none => cases e
      | some i => rfl
    · rw [List.map_map]
      rfl

end
end Q
/-! Quietdoors: lemmas for the defs about gaps. -/
namespace Q
open PySem PySem.Spec PyProof.Rows L2
theorem flat_le {α β : Type} {f : α → List β} {m : Nat} : ∀ xs : List α, (∀ x ∈ xs, (f x).length ≤ m) → (xs.flatMap f).length ≤ xs.length * m
  | [], _ => Nat.zero_le _
  | x :: xs, h => by
    have h1 := flat_le xs fun y hy => h y (List.mem_cons_of_mem _ hy)
    have h2 := h x List.mem_cons_self
    rw [List.flatMap_cons, List.length_append, List.length_cons, Nat.succ_mul]
    omega
theorem pairRow_le {R : RowR} {T : TalkR} {b : Nat} {f : Lt} {ls : List Lt} : (pairRow R T b f ls).length ≤ ls.length := by
  unfold pairRow
  rw [List.length_map]
  exact List.length_filter_le _ _
theorem pairs_le {R : RowR} {T : TalkR} {b : Nat} (h : TalkOk T) : (pairs R T b).length ≤ 14400 := by
  have hl := letters_small h
  have := flat_le (f := fun f => pairRow R T b f (letters T)) (m := 120) (letters T) fun x _ => Nat.le_trans pairRow_le hl
  unfold pairs
  have h2 : (letters T).length * 120 ≤ 120 * 120 := Nat.mul_le_mul_right _ hl
  omega
theorem mem_pairs {R : RowR} {T : TalkR} {b : Nat} {p : P3} : p ∈ pairs R T b ↔ (p.2.1 ∈ letters T ∧ p.2.2 ∈ letters T ∧ (lostIn R T b p.2.1 p.2.2).isSome = true ∧ p.1 = (win R T b p.2.2).2 - (win R T b p.2.1).1) := by
  obtain ⟨g, f, l⟩ := p
  unfold pairs pairRow
  simp only [List.mem_flatMap, List.mem_map, List.mem_filter, Prod.mk.injEq]
  constructor
  · rintro ⟨f', hf, l', ⟨hl, hs⟩, e1, e2, e3⟩
    subst e2 e3
    exact ⟨hf, hl, hs, e1.symm⟩
  · rintro ⟨hf, hl, hs, e⟩
    exact ⟨f, hf, l, ⟨hl, hs⟩, e.symm, rfl, rfl⟩
theorem gap_ends {R : RowR} {T : TalkR} {b : Nat} (h : 1 ≤ gapOf R T b) : ∃ f l ls, endsOf R T b = some (f, l) ∧ f ∈ letters T ∧ l ∈ letters T ∧ lostIn R T b f l = some ls ∧ (win R T b l).2 - (win R T b f).1 = gapOf R T b := by
  have hne : (pairs R T b).map (·.1) ≠ [] := fun e => by
    unfold gapOf at h
    rw [e] at h
    exact absurd h (by decide)
  have hm := mxD_mem (d := 0) hne
  obtain ⟨p, hp, ep⟩ := List.mem_map.mp hm
  have ep2 : p.1 = gapOf R T b := ep
  cases hq : (pairs R T b).find? fun p => decide (p.1 = gapOf R T b) with
  | none =>
    have := List.find?_eq_none.mp hq p hp
    rw [decide_eq_true ep2] at this
    exact absurd rfl this
  | some q =>
    have h1 := List.find?_some hq
    have h2 := mem_pairs.mp (List.mem_of_find?_eq_some hq)
    obtain ⟨g, f, l⟩ := q
    obtain ⟨hf, hl, hs, e⟩ := h2
    obtain ⟨ls, els⟩ := Option.isSome_iff_exists.mp hs
    refine ⟨f, l, ls, ?_, hf, hl, els, ?_⟩
    · unfold endsOf
      rw [hq]
      rfl
    · have h3 : g = gapOf R T b := of_decide_eq_true h1
      rw [← h3]
      exact e.symm
theorem runs_len : ∀ (xs : List (Int × Int)) (s : Int) (late : Bool), (runs s late xs).length = xs.length
  | [], _, _ => rfl
  | (a, b) :: xs, s, late => by
    unfold runs
    rw [List.length_cons, List.length_cons, runs_len xs]
theorem runs_at : ∀ (xs : List (Int × Int)) (s : Int) (late : Bool) (i : Nat) (p : Int × Int), xs[i]? = some p → (runs s late xs)[i]? = some (((s :: runs s late xs)[i]?).getD 0 + (if late = true then p.2 else p.1))
  | [], _, _, i, p, h => by simp at h
  | (a, b) :: xs, s, late, 0, p, h => by
    have e : (a, b) = p := Option.some.inj h
    subst e
    rfl
  | (a, b) :: xs, s, late, i + 1, p, h => by
    have h2 : xs[i]? = some p := by simpa using h
    have := runs_at xs (s + (if late = true then b else a)) late i p h2
    unfold runs
    rw [List.getElem?_cons_succ, this, List.getElem?_cons_succ]
theorem along_len {R : RowR} {l : Lt} (h : RowOk R) : (along R l).length = R.boxes.length := by
  have := h.1
  unfold along
  cases l.o
  · rw [if_neg Bool.false_ne_true, List.length_reverse, List.length_drop]
    omega
  · rw [if_pos rfl, List.length_take]
    omega
theorem place_lt {R : RowR} {l : Lt} {b : Nat} (h : b < R.boxes.length) : place R l b < R.boxes.length := by
  unfold place
  cases l.o
  · rw [if_neg Bool.false_ne_true]
    omega
  · rw [if_pos rfl]
    exact h
theorem lowAt_eq {R : RowR} {b : Nat} (h : b < R.boxes.length) : lowAt R b = R.boxes[b].low := by
  unfold lowAt
  rw [List.getElem?_eq_getElem h]
  rfl
def LowOk (R : RowR) : Prop := ∀ B ∈ R.boxes, 1 ≤ B.low
end Q
/-! Quietdoors: the defs one by one (4): gaps. -/
namespace Q
open PySem PySem.Spec PyProof.Rows L2
section
variable {P : Program} {w : World} {K : PySem.W.Frag} {mg : Str → Option Value} {base : Heap}
theorem hd_new {Γ : List En} : HD K Γ tDNewT [] := fun H0 σ H s Q q p hp => q p [] _ hp (Ex.new hp) upd_same .nil
def r_windows : List D → D → Prop := fun ds r => ∃ (R : RowR) (T0 : TalkR) (b : Nat), ds = [.row R, .talk T0, .int (b : Int)] ∧ r = .dct (winK R T0 b) ∧ (RowOk R) ∧ (TalkOk T0) ∧ (b < R.boxes.length) ∧ True
theorem C_windows (T : Tx K mg) : Cal P w K mg base "windows" 6 ["row", "talk", "box"] (SpR K r_windows) := by
  have S : FnScope ["row", "talk", "box", "letter"] ["row", "talk", "box"] (defScope (top 31)) := ⟨rfl, rfl, rfl, by decide +kernel, rfl, by decide +kernel, by decide +kernel⟩
  refine cal_of T (i := 31) (by decide +kernel) (fun fd F => fn_hs F S (fun ds r q => ?_) fun cdv A outer s H E hr => ⟨_, (pss_one (ps_ret (pe_frz (pe_dcT (own := [("letter", 3)]) (g := (gName 3)) (tk := (tVar 3)) (tv := (tCall (SpR K r_window_of) [] L2.E0 (tCons (tVar 0) (tCons (tVar 1) (tCons (tVar 2) (tCons (tVar 3) tNil)))))) (hu_of hr) (by rfl) S.nd (pi_tup (pe_mth0 (pv 1) T.cTalk (hr.mono (by decide)) (C_Talk_letters T))) (blkOk_by (N := ["row", "talk", "box", "letter"]) (sc := defScope (top 31)) (by decide +kernel)) (fun _ _ _ _ _ => (pg_name (i := 3) S.nd rfl (Or.inl rfl))) (fun _ _ _ _ _ => (pv 3)) (fun _ _ _ _ _ => (pe_cal (C_window_of T) (hr.mono (by decide)) (by rfl) (pa_cons (pv 0) (pa_cons (pv 1) (pa_cons (pv 2) (pa_cons (pv 3) pa_nil)))))))))), fun ds r q => ?_⟩) (fun _ _ _ _ _ _ us hl => match us, hl with | [_, _, _], _ => rfl)
  · obtain ⟨_, _, _, rfl, _⟩ := q
    rfl
  · obtain ⟨R, T0, b, rfl, rfl, h1, h2, h3, _⟩ := q
    have hL := letters_small h2
    exact ⟨[], hs_ret (he_frzD (hd_dc (fun l => prD (win R T0 b l)) (hi_tup (he_meth (he_var rfl) rfl (by rfl) ha_nil ⟨T0, rfl, rfl, h2, trivial⟩)) (letters_nodup T0) (by omega) fun l hl => ⟨_, _, hg_name, by decide, he_var rfl, he_call (ha_cons (he_var rfl) (ha_cons (he_var rfl) (ha2 (he_var rfl) (he_var rfl)))) ⟨R, T0, b, l, rfl, rfl, h3, h1, hl, trivial⟩⟩))⟩

def r_lost_in : List D → D → Prop := fun ds r => ∃ (R : RowR) (T0 : TalkR) (b : Nat) (f l : Lt), ds = [.row R, .talk T0, .int (b : Int), .dct (winK R T0 b), .tup [ltD f, ltD l]] ∧ r = optT (lostIn R T0 b f l) ∧ (RowOk R) ∧ (TalkOk T0) ∧ (b < R.boxes.length) ∧ (f ∈ letters T0) ∧ (l ∈ letters T0) ∧ True
theorem C_lost_in (T : Tx K mg) : Cal P w K mg base "lost_in" 4 ["row", "talk", "box", "table", "pair"] (SpR K r_lost_in) := by
  have S : FnScope ["row", "talk", "box", "table", "pair", "first", "last", "start", "end", "inside", "found", "letter"] ["row", "talk", "box", "table", "pair"] (defScope (top 32)) := ⟨rfl, rfl, rfl, by decide +kernel, rfl, by decide +kernel, by decide +kernel⟩
  refine cal_of T (i := 32) (by decide +kernel) (fun fd F => fn_hs F S (fun ds r q => ?_) fun cdv A outer s H E hr => ⟨_, (pss_cons (ps_asg (pv 4) (pg_tup (by rfl) (pgs_cons (pg_name (i := 5) S.nd rfl (Or.inl rfl)) (pgs_cons (pg_name (i := 6) S.nd rfl (Or.inl rfl)) pgs_nil))))
  (pss_cons (ps_asg (pe_tup (pa_cons (pe_ix ix_tup (pe_dget (hu_of hr) (pv 3) (pv 5) (fun _ _ => rfl)) pe_int (fun _ _ => rfl)) (pa_cons (pe_ix ix_tup (pe_dget (hu_of hr) (pv 3) (pv 6) (fun _ _ => rfl)) pe_int (fun _ _ => rfl)) pa_nil))) (pg_tup (by rfl) (pgs_cons (pg_name (i := 7) S.nd rfl (Or.inr rfl)) (pgs_cons (pg_name (i := 8) S.nd rfl (Or.inr rfl)) pgs_nil))))
  (pss_cons (ps_if (PW.pt (pw_or (pt_cmpR (op_eqD hr.units) (pv 5) (pv 6) (nomark _)) (pw_or (pt_not (pt_val (pe_cal (C_is_sight T) (hr.mono (by decide)) (by rfl) (pa_cons (pv 0) (pa_cons (pv 2) (pa_cons (pv 5) pa_nil)))))) (pw_or1 (pt_cmpR op_le (pv 8) (pv 7) (nomark _)))))) (pss_one (ps_ret pe_non)) pss_nil)
  (pss_cons (ps_frz 9 (ps_setLc (i := 9) (own := [("letter", 11)]) (g := (gName 11)) (tt := (tAnd (tTest (tOp (rI0 fun i j => .bl (decide (j < i))) (tOp (rIxT K) (tDGet (tVar 3) (tVar 11)) (tC (.int 0))) (tVar 7))) (tTest (tOp (rI0 fun i j => .bl (decide (i < j))) (tOp (rIxT K) (tDGet (tVar 3) (tVar 11)) (tC (.int 1))) (tVar 8))))) (te := (tVar 11)) (by rfl) S.nd rfl rfl (sw_true rfl rfl rfl (by decide +kernel)) (pi_keys (pv 3)) (blkOk_by (N := ["row", "talk", "box", "table", "pair", "first", "last", "start", "end", "inside", "found", "letter"]) (sc := defScope (top 32)) (by decide +kernel)) (fun _ _ _ _ _ => (pg_name (i := 11) S.nd rfl (Or.inl rfl))) (fun _ _ _ _ _ => (pts_one (PW.pt (pw_and (pt_cmpR op_gt (pe_ix ix_tup (pe_dget (hu_of hr) (pv 3) (pv 11) (fun _ _ => rfl)) pe_int (fun _ _ => rfl)) (pv 7) (nomark _)) (pw_and1 (pt_cmpR op_lt (pe_ix ix_tup (pe_dget (hu_of hr) (pv 3) (pv 11) (fun _ _ => rfl)) pe_int (fun _ _ => rfl)) (pv 8) (nomark _))))))) (fun _ _ _ _ _ => (pv 11))))
  (pss_cons (ps_frz 10 (ps_setLc (i := 10) (own := [("letter", 11)]) (g := (gName 11)) (tt := (tAnd (tTest (tOp (rInT K true) (tVar 11) (tVar 4))) (tB (tCall (SpR K r_is_sight) [] L2.E0 (tCons (tVar 0) (tCons (tVar 2) (tCons (tVar 11) tNil))))))) (te := (tVar 11)) (by rfl) S.nd rfl rfl (sw_true rfl rfl rfl (by decide +kernel)) (pi_list (pv 9)) (blkOk_by (N := ["row", "talk", "box", "table", "pair", "first", "last", "start", "end", "inside", "found", "letter"]) (sc := defScope (top 32)) (by decide +kernel)) (fun _ _ _ _ _ => (pg_name (i := 11) S.nd rfl (Or.inl rfl))) (fun _ _ _ _ _ => (pts_one (PW.pt (pw_and (pt_cmpR (op_notInT (room65 hr)) (pv 11) (pv 4) (by rfl)) (pw_and1 (pt_val (pe_cal (C_is_sight T) (hr.mono (by decide)) (by rfl) (pa_cons (pv 0) (pa_cons (pv 2) (pa_cons (pv 11) pa_nil)))))))))) (fun _ _ _ _ _ => (pv 11))))
  (pss_one (ps_ret (pe_ifExp (pt_val (pe_cal (C_can_be_lost T) (hr.mono (by decide)) (by rfl) (pa_cons (pv 1) (pa_cons (pv 10) pa_nil)))) (pe_callTy call_tuple_of (by rfl) (T.fr "tuple" (by decide +kernel)) (by decide +kernel) (pa_cons (pv 10) pa_nil)) pe_non)))))))), fun ds r q => ?_⟩) (fun _ _ _ _ _ _ us hl => match us, hl with | [_, _, _, _, _], _ => rfl)
  · obtain ⟨_, _, _, _, _, rfl, _⟩ := q
    rfl
  · obtain ⟨R, T0, b, f, l, rfl, rfl, h1, h2, h3, h4, h5, _⟩ := q
    have hL := letters_small h2
    have look : ∀ x ∈ letters T0, lookK (winK R T0 b) x = some (prD (win R T0 b x)) := fun x hx => look_t hx
    have hins : (insideL R T0 b (win R T0 b f).1 (win R T0 b l).2).length ≤ 120 := Nat.le_trans (List.length_filter_le _ _) hL
    refine ⟨[], hs_seq (hs_setG (he_var rfl) (hg_tup (hgs_cons hg_name (hgs_cons hg_name hgs_nil)) rfl)) fun _ => hs_seq (hs_setG (he_tup2 (he_fst (he_dget (he_var rfl) (he_var rfl) (look f h4))) (he_snd (he_dget (he_var rfl) (he_var rfl) (look l h5)))) (hg_tup (hgs_cons hg_name (hgs_cons hg_name hgs_nil)) rfl)) fun _ =>
      hs_seq (hs_leave (b := (decide (f = l) || (!sightOk R b f || decide ((win R T0 b l).2 ≤ (win R T0 b f).1)))) (ht_or (ht_test (he_op (he_var rfl) (he_var rfl) rr_eqLt)) fun _ => ht_or (ht_not (ht_B (he_call (ha_cons (he_var rfl) (ha2 (he_var rfl) (he_var rfl))) ⟨R, b, f, rfl, rfl, h3, trivial⟩))) fun _ => ht_test (he_op (he_var rfl) (he_var rfl) rr_le)) fun e => hs_ret (he_non.to ?_)) fun e0 =>
      hs_seq (hs_frz (hs_setL (HL.to (hl_lc (letters T0) ltD (fun x => decide ((win R T0 b f).1 < (win R T0 b x).1) && decide ((win R T0 b x).2 < (win R T0 b l).2)) ltD (HI.to (hi_keys (he_var rfl)) ?_) (by omega) fun x hx => ⟨_, _, hg_name, by decide, ht_and (ht_test (he_op (he_fst (he_dget (he_var rfl) (he_var rfl) (look x hx))) (he_var rfl) rr_gt)) fun _ => ht_test (he_op (he_snd (he_dget (he_var rfl) (he_var rfl) (look x hx))) (he_var rfl) rr_lt), fun _ => he_var rfl⟩) (es := (insideL R T0 b (win R T0 b f).1 (win R T0 b l).2).map ltD) rfl)) rfl rfl) fun _ =>
      hs_seq (hs_frz (hs_setL (HL.to (hl_lc (insideL R T0 b (win R T0 b f).1 (win R T0 b l).2) ltD (fun x => (!decide (x = f) && !decide (x = l)) && sightOk R b x) ltD (hi_list (he_var rfl)) (by omega) fun x hx => ⟨_, _, hg_name, by decide, ht_and (ht_test (he_op (he_var rfl) (he_var rfl) rr_notInT2)) fun _ => ht_B (he_call (ha_cons (he_var rfl) (ha2 (he_var rfl) (he_var rfl))) ⟨R, b, x, rfl, rfl, h3, trivial⟩), fun _ => he_var rfl⟩) (es := (foundL R T0 b f l).map ltD) rfl)) rfl rfl) fun _ =>
      hs_ret (he_if (b := canLose T0.loss.toNat (foundL R T0 b f l)) (ht_B (he_call (ha2 (he_var rfl) (he_var rfl)) ⟨T0, foundL R T0 b f l, rfl, rfl, h2, trivial⟩)) (fun e => HE.to (he_cb (ha1 (he_var rfl)) rc_tup) ?_) (fun e => he_non.to ?_))⟩
    · unfold lostIn
      rw [if_pos e]
      rfl
    · unfold winK
      rw [List.map_map]
      rfl
    · unfold lostIn
      rw [if_neg (by rw [e0]; exact Bool.false_ne_true), if_pos e]
      rfl
    · unfold lostIn
      rw [if_neg (by rw [e0]; exact Bool.false_ne_true), if_neg (by rw [e]; exact Bool.false_ne_true)]
      rfl

def r_lost_between : List D → D → Prop := fun ds r => ∃ (R : RowR) (T0 : TalkR) (b : Nat) (f l : Lt), ds = [.row R, .talk T0, .int (b : Int), ltD f, ltD l] ∧ r = optT (lostIn R T0 b f l) ∧ (RowOk R) ∧ (TalkOk T0) ∧ (b < R.boxes.length) ∧ (f ∈ letters T0) ∧ (l ∈ letters T0) ∧ True
theorem C_lost_between (T : Tx K mg) : Cal P w K mg base "lost_between" 7 ["row", "talk", "box", "first", "last"] (SpR K r_lost_between) := by
  have S : FnScope ["row", "talk", "box", "first", "last"] ["row", "talk", "box", "first", "last"] (defScope (top 33)) := ⟨rfl, rfl, rfl, by decide +kernel, rfl, by decide +kernel, by decide +kernel⟩
  refine cal_of T (i := 33) (by decide +kernel) (fun fd F => fn_hs F S (fun ds r q => ?_) fun cdv A outer s H E hr => ⟨_, (pss_one (ps_ret (pe_cal (C_lost_in T) (hr.mono (by decide)) (by rfl) (pa_cons (pv 0) (pa_cons (pv 1) (pa_cons (pv 2) (pa_cons (pe_cal (C_windows T) (hr.mono (by decide)) (by rfl) (pa_cons (pv 0) (pa_cons (pv 1) (pa_cons (pv 2) pa_nil)))) (pa_cons (pe_tup (pa_cons (pv 3) (pa_cons (pv 4) pa_nil))) pa_nil)))))))), fun ds r q => ?_⟩) (fun _ _ _ _ _ _ us hl => match us, hl with | [_, _, _, _, _], _ => rfl)
  · obtain ⟨_, _, _, _, _, rfl, _⟩ := q
    rfl
  · obtain ⟨R, T0, b, f, l, rfl, rfl, h1, h2, h3, h4, h5, _⟩ := q
    exact ⟨[], hs_ret (he_call (ha_cons (he_var rfl) (ha_cons (he_var rfl) (ha_cons (he_var rfl) (ha2 (he_call (ha_cons (he_var rfl) (ha2 (he_var rfl) (he_var rfl))) ⟨R, T0, b, rfl, rfl, h1, h2, h3, trivial⟩) (he_tup2 (he_var rfl) (he_var rfl)))))) ⟨R, T0, b, f, l, rfl, rfl, h1, h2, h3, h4, h5, trivial⟩)⟩

def r_pairs_of : List D → D → Prop := fun ds r => ∃ (R : RowR) (T0 : TalkR) (b : Nat), ds = [.row R, .talk T0, .int (b : Int)] ∧ r = .lst ((pairs R T0 b).map p3D) ∧ (RowOk R) ∧ (TalkOk T0) ∧ (b < R.boxes.length) ∧ True
theorem C_pairs_of (T : Tx K mg) : Cal P w K mg base "pairs_of" 7 ["row", "talk", "box"] (SpR K r_pairs_of) := by
  have S : FnScope ["row", "talk", "box", "table", "found", "first", "last"] ["row", "talk", "box"] (defScope (top 34)) := ⟨rfl, rfl, rfl, by decide +kernel, rfl, by decide +kernel, by decide +kernel⟩
  refine cal_of T (i := 34) (by decide +kernel) (fun fd F => fn_hs F S (fun ds r q => ?_) fun cdv A outer s H E hr => ⟨_, (pss_cons (ps_par (by rfl) S.nd (i := 3) (j := 4) rfl rfl (by decide) rfl rfl (pa_cons (pe_cal (C_windows T) (hr.mono (by decide)) (by rfl) (pa_cons (pv 0) (pa_cons (pv 1) (pa_cons (pv 2) pa_nil)))) (pa_cons (pe_lst pa_nil) pa_nil)) (by rfl))
  (pss_cons (ps_frz 4 (ps_for PassesOwn.never rfl (pi_keys (pv 3)) (pg_name (i := 5) S.nd rfl (Or.inl rfl))
  (pss_one (ps_for PassesOwn.never rfl (pi_keys (pv 3)) (pg_name (i := 6) S.nd rfl (Or.inl rfl))
  (pss_one (ps_if (pt_cmpR op_notN (pe_cal (C_lost_in T) (hr.mono (by decide)) (by rfl) (pa_cons (pv 0) (pa_cons (pv 1) (pa_cons (pv 2) (pa_cons (pv 3) (pa_cons (pe_tup (pa_cons (pv 5) (pa_cons (pv 6) pa_nil))) pa_nil)))))) pe_non (nomark _)) (pss_one (ps_expr (pe_bm PySem.F.plainAttrs_list PySem.F.slot_list_append PySem.F.type_list_append mt_append (pv 4) (pa_cons (pe_tup (pa_cons (pe_op op_sub (pe_ix ix_tup (pe_dget (hu_of hr) (pv 3) (pv 6) (fun _ _ => rfl)) pe_int (fun _ _ => rfl)) (pe_ix ix_tup (pe_dget (hu_of hr) (pv 3) (pv 5) (fun _ _ => rfl)) pe_int (fun _ _ => rfl))) (pa_cons (pv 5) (pa_cons (pv 6) pa_nil)))) pa_nil)))) pss_nil))))))
  (pss_one (ps_ret (pv 4))))), fun ds r q => ?_⟩) (fun _ _ _ _ _ _ us hl => match us, hl with | [_, _, _], _ => rfl)
  · obtain ⟨_, _, _, rfl, _⟩ := q
    rfl
  · obtain ⟨R, T0, b, rfl, rfl, h1, h2, h3, _⟩ := q
    have hL := letters_small h2
    have look : ∀ x ∈ letters T0, lookK (winK R T0 b) x = some (prD (win R T0 b x)) := fun x hx => look_t hx
    let L := letters T0
    have ek : (winK R T0 b).map (fun p => ltD p.1) = L.map ltD := by
      unfold winK
      rw [List.map_map]
      rfl
    let oi : Nat → List P3 := fun i => (L.take i).flatMap fun f => pairRow R T0 b f L
    have hoi : ∀ i, (oi i).length ≤ 14400 := fun i => by
      have h := flat_le (f := fun f => pairRow R T0 b f L) (m := 120) (L.take i) fun x _ => Nat.le_trans pairRow_le hL
      have h2 : (L.take i).length ≤ 120 := Nat.le_trans (by rw [List.length_take]; exact Nat.min_le_right _ _) hL
      have h3 : (L.take i).length * 120 ≤ 120 * 120 := Nat.mul_le_mul_right _ h2
      show ((L.take i).flatMap fun f => pairRow R T0 b f L).length ≤ 14400
      omega
    refine ⟨[], hs_seq (hs_parDL (he_call (ha_cons (he_var rfl) (ha2 (he_var rfl) (he_var rfl))) ⟨R, T0, b, rfl, rfl, h1, h2, h3, trivial⟩) (hl_lst ha_nil (Nat.zero_le _))) fun _ => hs_seq (hs_frz (ds := (pairs R T0 b).map p3D) (hs_forX L ltD (HI.to (hi_keys (he_var rfl)) ek) (fun i => [.da (.row R), .da (.talk T0), .da (.int (b : Int)), .da (.dct (winK R T0 b)), .own ((oi i).map p3D), .no, .no]) (fun _ => True) (by repeat (first | exact Sub.nil | refine Sub.eq ?_ | refine Sub.no ?_)) trivial fun i f hf _ => ⟨_, _, hg_name, ?_⟩) ?_ rfl) fun _ => hs_ret (he_var rfl)⟩
    · have hfm : f ∈ letters T0 := List.mem_of_getElem? hf
      have eo : oi (i + 1) = oi i ++ pairRow R T0 b f L := by
        show (L.take (i + 1)).flatMap _ = _
        rw [take_snoc hf, List.flatMap_append, List.flatMap_cons, List.flatMap_nil, List.append_nil]
      refine (hs_forX L ltD (HI.to (hi_keys (he_var rfl)) ek) (fun j => [.da (.row R), .da (.talk T0), .da (.int (b : Int)), .da (.dct (winK R T0 b)), .own ((oi i ++ pairRow R T0 b f (L.take j)).map p3D), .da (ltD f), .no]) (fun _ => True) ?_ trivial fun j l hl _ => ⟨_, _, hg_name, ?_⟩).weak fun _ => ⟨trivial, ?_⟩
      · rw [List.take_zero]
        show Sub _ [_, _, _, _, .own ((oi i ++ []).map p3D), _, _]
        rw [List.append_nil]
        exact (by repeat (first | exact Sub.nil | refine Sub.eq ?_ | refine Sub.no ?_))
      · have hlm : l ∈ letters T0 := List.mem_of_getElem? hl
        have er : pairRow R T0 b f (L.take (j + 1)) = pairRow R T0 b f (L.take j) ++ (if (lostIn R T0 b f l).isSome = true then [((win R T0 b l).2 - (win R T0 b f).1, f, l)] else []) := by
          unfold pairRow
          rw [take_snoc hl, List.filter_append, List.map_append]
          by_cases q : (lostIn R T0 b f l).isSome = true
          · rw [if_pos q, List.filter_cons, if_pos q]
            rfl
          · rw [if_neg q, List.filter_cons, if_neg q]
            rfl
        have hsz : ((oi i ++ pairRow R T0 b f (L.take j)).map p3D).length ≤ 14520 := by
          have a1 := hoi i
          have a2 : (pairRow R T0 b f (L.take j)).length ≤ 120 := Nat.le_trans pairRow_le (Nat.le_trans (by rw [List.length_take]; exact Nat.min_le_right _ _) hL)
          rw [List.length_map, List.length_append]
          omega
        refine hs_if (b := (lostIn R T0 b f l).isSome) (HT.to (ht_test (he_op (he_call (ha_cons (he_var rfl) (ha_cons (he_var rfl) (ha_cons (he_var rfl) (ha2 (he_var rfl) (he_tup2 (he_var rfl) (he_var rfl)))))) ⟨R, T0, b, f, l, rfl, rfl, h1, h2, h3, hfm, hlm, trivial⟩) he_non rr_isNot)) ?_) (fun e => ?_) (fun e => ?_)
        · cases lostIn R T0 b f l <;> rfl
        · refine (hs_app (i := 4) rfl (by omega) rfl (he_tup3 (he_op (he_snd (he_dget (he_var rfl) (he_var rfl) (look l hlm))) (he_fst (he_dget (he_var rfl) (he_var rfl) (look f hfm))) rr_sub) (he_var rfl) (he_var rfl))).weak fun _ => ⟨trivial, ?_⟩
          have el : (oi i ++ pairRow R T0 b f (L.take (j + 1))).map p3D = (oi i ++ pairRow R T0 b f (L.take j)).map p3D ++ [p3D ((win R T0 b l).2 - (win R T0 b f).1, f, l)] := by
            rw [er, e, if_pos rfl, ← List.append_assoc, List.map_append]
            rfl
          rw [el]
          exact (by repeat (first | exact Sub.nil | refine Sub.eq ?_ | refine Sub.no ?_))
        · refine (hs_next (chi := True) trivial).weak fun _ => ⟨trivial, ?_⟩
          rw [er, e, if_neg Bool.false_ne_true, List.append_nil]
          exact (by repeat (first | exact Sub.nil | refine Sub.eq ?_ | refine Sub.no ?_))
      · rw [eo, List.take_length]
        exact (by repeat (first | exact Sub.nil | refine Sub.eq ?_ | refine Sub.no ?_))
    · show some (En.own ((oi L.length).map p3D)) = some (En.own ((pairs R T0 b).map p3D))
      have : oi L.length = pairs R T0 b := by
        show (L.take L.length).flatMap _ = _
        rw [List.take_length]
        rfl
      rw [this]

def r_gap : List D → D → Prop := fun ds r => ∃ (R : RowR) (T0 : TalkR) (b : Nat), ds = [.row R, .talk T0, .int (b : Int)] ∧ r = .int (gapOf R T0 b) ∧ (RowOk R) ∧ (TalkOk T0) ∧ (b < R.boxes.length) ∧ True
theorem C_gap (T : Tx K mg) : Cal P w K mg base "gap" 8 ["row", "talk", "box"] (SpR K r_gap) := by
  have S : FnScope ["row", "talk", "box", "found", "first", "last"] ["row", "talk", "box"] (defScope (top 35)) := ⟨rfl, rfl, rfl, by decide +kernel, rfl, by decide +kernel, by decide +kernel⟩
  refine cal_of T (i := 35) (by decide +kernel) (fun fd F => fn_hs F S (fun ds r q => ?_) fun cdv A outer s H E hr => ⟨_, (pss_cons (ps_expr (pe_mth (pv 0) T.cRow (hr.mono (by decide)) (C_Row_check T) (pa_cons (pv 2) pa_nil)))
  (pss_one (ps_ret (pe_callBK (call_maxDf rfl hr.units) (by rfl) (T.fr "max" (by decide +kernel)) (by decide +kernel) (pa_cons (pe_frz (pe_lc (own := [("found", 3), ("first", 4), ("last", 5)]) (g := (gTup K 3 (gCons (gName 3) (gCons (gName 4) (gCons (gName 5) gNil))))) (tt := tYes) (te := (tVar 3)) (by rfl) S.nd (pi_list (pe_cal (C_pairs_of T) (hr.mono (by decide)) (by rfl) (pa_cons (pv 0) (pa_cons (pv 1) (pa_cons (pv 2) pa_nil))))) (blkOk_by (N := ["row", "talk", "box", "found", "first", "last"]) (sc := defScope (top 35)) (by decide +kernel)) (fun _ _ _ _ _ => (pg_tup (by rfl) (pgs_cons (pg_name (i := 3) S.nd rfl (Or.inl rfl)) (pgs_cons (pg_name (i := 4) S.nd rfl (Or.inl rfl)) (pgs_cons (pg_name (i := 5) S.nd rfl (Or.inl rfl)) pgs_nil))))) (fun _ _ _ _ _ => pts_nil) (fun _ _ _ _ _ => (pv 3)))) pa_nil) (pk_cons pe_int pk_nil))))), fun ds r q => ?_⟩) (fun _ _ _ _ _ _ us hl => match us, hl with | [_, _, _], _ => rfl)
  · obtain ⟨_, _, _, rfl, _⟩ := q
    rfl
  · obtain ⟨R, T0, b, rfl, rfl, h1, h2, h3, _⟩ := q
    have hp := pairs_le (R := R) (b := b) h2
    refine ⟨[], hs_seq (hs_drop (he_meth (he_var rfl) rfl (by rfl) (ha1 (he_var rfl)) ⟨R, b, rfl, rfl, h3, trivial⟩)) fun _ => hs_ret (he_maxDf (ns := (pairs R T0 b).map (·.1)) (ha1 (HE.to (he_frz (hl_lcY (pairs R T0 b) p3D (fun p => .int p.1) (hi_list (he_call (ha_cons (he_var rfl) (ha2 (he_var rfl) (he_var rfl))) ⟨R, T0, b, rfl, rfl, h1, h2, h3, trivial⟩)) (by omega) fun p hp => ⟨_, _, hg_tup (hgs_cons hg_name (hgs_cons hg_name (hgs_cons hg_name hgs_nil))) rfl, by decide, he_var rfl⟩)) ?_)) (ha1 he_int))⟩
    rw [List.map_map]
    rfl

def r_ends : List D → D → Prop := fun ds r => ∃ (R : RowR) (T0 : TalkR) (b : Nat), ds = [.row R, .talk T0, .int (b : Int)] ∧ r = optP (endsOf R T0 b) ∧ (RowOk R) ∧ (TalkOk T0) ∧ (b < R.boxes.length) ∧ True
theorem C_ends (T : Tx K mg) : Cal P w K mg base "ends" 8 ["row", "talk", "box"] (SpR K r_ends) := by
  have S : FnScope ["row", "talk", "box", "pairs", "most", "found", "first", "last"] ["row", "talk", "box"] (defScope (top 36)) := ⟨rfl, rfl, rfl, by decide +kernel, rfl, by decide +kernel, by decide +kernel⟩
  refine cal_of T (i := 36) (by decide +kernel) (fun fd F => fn_hs F S (fun ds r q => ?_) fun cdv A outer s H E hr => ⟨_, (pss_cons (ps_expr (pe_mth (pv 0) T.cRow (hr.mono (by decide)) (C_Row_check T) (pa_cons (pv 2) pa_nil)))
  (pss_cons (ps_set (i := 3) S.nd rfl (Or.inl rfl) (pe_cal (C_pairs_of T) (hr.mono (by decide)) (by rfl) (pa_cons (pv 0) (pa_cons (pv 1) (pa_cons (pv 2) pa_nil)))))
  (pss_cons (ps_set (i := 4) S.nd rfl (Or.inl rfl) (pe_callBK (call_maxDf rfl hr.units) (by rfl) (T.fr "max" (by decide +kernel)) (by decide +kernel) (pa_cons (pe_frz (pe_lc (own := [("found", 5), ("first", 6), ("last", 7)]) (g := (gTup K 3 (gCons (gName 5) (gCons (gName 6) (gCons (gName 7) gNil))))) (tt := tYes) (te := (tVar 5)) (by rfl) S.nd (pi_list (pv 3)) (blkOk_by (N := ["row", "talk", "box", "pairs", "most", "found", "first", "last"]) (sc := defScope (top 36)) (by decide +kernel)) (fun _ _ _ _ _ => (pg_tup (by rfl) (pgs_cons (pg_name (i := 5) S.nd rfl (Or.inl rfl)) (pgs_cons (pg_name (i := 6) S.nd rfl (Or.inl rfl)) (pgs_cons (pg_name (i := 7) S.nd rfl (Or.inl rfl)) pgs_nil))))) (fun _ _ _ _ _ => pts_nil) (fun _ _ _ _ _ => (pv 5)))) pa_nil) (pk_cons pe_int pk_nil)))
  (pss_cons (ps_for PassesOwn.never rfl (pi_list (pv 3)) (pg_tup (by rfl) (pgs_cons (pg_name (i := 5) S.nd rfl (Or.inl rfl)) (pgs_cons (pg_name (i := 6) S.nd rfl (Or.inl rfl)) (pgs_cons (pg_name (i := 7) S.nd rfl (Or.inl rfl)) pgs_nil))))
  (pss_one (ps_if (pt_cmpR op_eq (pv 5) (pv 4) (nomark _)) (pss_one (ps_ret (pe_tup (pa_cons (pv 6) (pa_cons (pv 7) pa_nil))))) pss_nil)))
  (pss_one (ps_ret pe_non)))))), fun ds r q => ?_⟩) (fun _ _ _ _ _ _ us hl => match us, hl with | [_, _, _], _ => rfl)
  · obtain ⟨_, _, _, rfl, _⟩ := q
    rfl
  · obtain ⟨R, T0, b, rfl, rfl, h1, h2, h3, _⟩ := q
    have hp := pairs_le (R := R) (b := b) h2
    refine ⟨[], hs_seq (hs_drop (he_meth (he_var rfl) rfl (by rfl) (ha1 (he_var rfl)) ⟨R, b, rfl, rfl, h3, trivial⟩)) fun _ => hs_seq (hs_set (he_call (ha_cons (he_var rfl) (ha2 (he_var rfl) (he_var rfl))) ⟨R, T0, b, rfl, rfl, h1, h2, h3, trivial⟩)) fun _ =>
      hs_seq (hs_set (d := .int (gapOf R T0 b)) (he_maxDf (ns := (pairs R T0 b).map (·.1)) (ha1 (HE.to (he_frz (hl_lcY (pairs R T0 b) p3D (fun p => .int p.1) (hi_list (he_var rfl)) (by omega) fun p hp => ⟨_, _, hg_tup (hgs_cons hg_name (hgs_cons hg_name (hgs_cons hg_name hgs_nil))) rfl, by decide, he_var rfl⟩)) ?_)) (ha1 he_int))) fun _ =>
      hs_seq (hs_forX (pairs R T0 b) p3D (hi_list (he_var rfl)) (fun i => [.da (.row R), .da (.talk T0), .da (.int (b : Int)), .da (.lst ((pairs R T0 b).map p3D)), .da (.int (gapOf R T0 b)), .no, .no, .no]) (fun i => (pairs R T0 b).find? (fun p => decide (p.1 = gapOf R T0 b)) = ((pairs R T0 b).drop i).find? (fun p => decide (p.1 = gapOf R T0 b))) (by repeat (first | exact Sub.nil | refine Sub.eq ?_ | refine Sub.no ?_)) rfl fun i p hpi hph => ⟨_, _, hg_tup (hgs_cons hg_name (hgs_cons hg_name (hgs_cons hg_name hgs_nil))) rfl, ?_⟩) fun he => hs_retN ?_⟩
    · rw [List.map_map]
      rfl
    · have dp : (pairs R T0 b).drop i = p :: (pairs R T0 b).drop (i + 1) := by
        rw [List.drop_eq_getElem_cons (List.getElem?_eq_some_iff.mp hpi).1, (List.getElem?_eq_some_iff.mp hpi).2]
      rw [dp, List.find?_cons] at hph
      refine (hs_leave (ht_test (he_op (he_var rfl) (he_var rfl) rr_eqI)) fun e => hs_ret (HE.to (he_tup2 (he_var rfl) (he_var rfl)) ?_)).weak fun e => ⟨?_, (by repeat (first | exact Sub.nil | refine Sub.eq ?_ | refine Sub.no ?_))⟩
      · rw [e] at hph
        unfold endsOf
        rw [hph]
        rfl
      · rw [e] at hph
        exact hph
    · rw [List.drop_length] at he
      unfold endsOf
      rw [he]
      rfl

def r_times_along : List D → D → Prop := fun ds r => ∃ (R : RowR) (T0 : TalkR) (l : Lt) (late : Bool) (m : Nat), ds = [.row R, .talk T0, ltD l, .bl late, .int (m : Int)] ∧ r = .tup ((timesAl R T0 l late m).map .int) ∧ (RowOk R) ∧ (l ∈ letters T0) ∧ (m ≤ R.boxes.length) ∧ True
theorem C_times_along (T : Tx K mg) : Cal P w K mg base "times_along" 4 ["row", "talk", "letter", "is_late", "many"] (SpR K r_times_along) := by
  have S : FnScope ["row", "talk", "letter", "is_late", "many", "found", "time", "least", "most"] ["row", "talk", "letter", "is_late", "many"] (defScope (top 37)) := ⟨rfl, rfl, rfl, by decide +kernel, rfl, by decide +kernel, by decide +kernel⟩
  refine cal_of T (i := 37) (by decide +kernel) (fun fd F => fn_hs F S (fun ds r q => ?_) fun cdv A outer s H E hr => ⟨_, (pss_cons (ps_par (by rfl) S.nd (i := 5) (j := 6) rfl rfl (by decide) rfl rfl (pa_cons (pe_lst pa_nil) (pa_cons (pe_mth (pv 1) T.cTalk (hr.mono (by decide)) (C_Talk_time T) (pa_cons (pv 2) pa_nil)) pa_nil)) (by rfl))
  (pss_cons (ps_frz 5 (ps_for PassesOwn.never rfl (pi_tup (pe_slice sl_tupA (pe_cal (C_links_along T) (hr.mono (by decide)) (by rfl) (pa_cons (pv 0) (pa_cons (pv 2) pa_nil))) po_none (po_some (pv 4)))) (pg_tup (by rfl) (pgs_cons (pg_name (i := 7) S.nd rfl (Or.inl rfl)) (pgs_cons (pg_name (i := 8) S.nd rfl (Or.inl rfl)) pgs_nil)))
  (pss_cons (ps_set (i := 6) S.nd rfl (Or.inl rfl) (pe_op op_add (pv 6) (pe_ifExp (pt_val (pv 3)) (pv 8) (pv 7))))
  (pss_one (ps_expr (pe_bm PySem.F.plainAttrs_list PySem.F.slot_list_append PySem.F.type_list_append mt_append (pv 5) (pa_cons (pv 6) pa_nil)))))))
  (pss_one (ps_ret (pe_callTy call_tuple_of (by rfl) (T.fr "tuple" (by decide +kernel)) (by decide +kernel) (pa_cons (pv 5) pa_nil)))))), fun ds r q => ?_⟩) (fun _ _ _ _ _ _ us hl => match us, hl with | [_, _, _, _, _], _ => rfl)
  · obtain ⟨_, _, _, _, _, rfl, _⟩ := q
    rfl
  · obtain ⟨R, T0, l, late, m, rfl, rfl, h1, h2, h3, _⟩ := q
    have hR := h1.2.2
    have hA := along_len (l := l) h1
    let xs := (along R l).take m
    let rs := runs (sent T0 l) late xs
    let at_ : Nat → Int := fun i => ((sent T0 l :: rs)[i]?).getD 0
    have hxs : xs.length ≤ 4 := Nat.le_trans (by rw [List.length_take]; exact Nat.min_le_right _ _) (by omega)
    have hrs : rs.length = xs.length := runs_len _ _ _
    refine ⟨[], hs_seq (hs_parLD (hl_lst ha_nil (Nat.zero_le _)) (he_meth (he_var rfl) rfl (by rfl) (ha1 (he_var rfl)) ⟨T0, l, rfl, rfl, h2, trivial⟩)) fun _ => hs_seq (hs_frz (ds := rs.map .int) (hs_forX xs prD (hi_tup (HE.to (he_slT (he_call (ha2 (he_var rfl) (he_var rfl)) ⟨R, l, rfl, rfl, h1, trivial⟩) ho_none (ho_some (he_var rfl))) (congrArg D.tup (cutD_to m rfl (by omega))))) (fun i => [.da (.row R), .da (.talk T0), .da (ltD l), .da (.bl late), .da (.int (m : Int)), .own ((rs.take i).map .int), .da (.int (at_ i)), .no, .no]) (fun _ => True) (by repeat (first | exact Sub.nil | refine Sub.eq ?_ | refine Sub.no ?_)) trivial fun i p hp _ => ⟨_, _, hg_tup (hgs_cons hg_name (hgs_cons hg_name hgs_nil)) rfl, ?_⟩) ?_ rfl) fun _ => hs_ret (he_cb (ha1 (he_var rfl)) rc_tup)⟩
    · have hr : rs[i]? = some (at_ i + (if late = true then p.2 else p.1)) := runs_at xs (sent T0 l) late i p hp
      have ha : at_ (i + 1) = at_ i + (if late = true then p.2 else p.1) := by
        show ((sent T0 l :: rs)[i + 1]?).getD 0 = _
        rw [List.getElem?_cons_succ, hr]
        rfl
      have hsz : ((rs.take i).map D.int).length ≤ 4 := by
        rw [List.length_map, List.length_take]
        omega
      refine hs_seq (hs_set (he_op (he_var rfl) (he_if (z := .int (if late = true then p.2 else p.1)) (ht_B (he_var rfl)) (fun e => (he_var rfl).to (by rw [e]; rfl)) (fun e => (he_var rfl).to (by rw [e]; rfl))) rr_add)) fun _ => (hs_app (i := 5) rfl (by omega) rfl (he_var rfl)).weak fun _ => ⟨trivial, ?_⟩
      rw [ha, take_snoc hr, List.map_append]
      exact (by repeat (first | exact Sub.nil | refine Sub.eq ?_ | refine Sub.no ?_))
    · rw [← hrs, List.take_length]
      rfl

end
end Q
/-! Quietdoors: the defs one by one (5): papers. -/
namespace Q
open PySem PySem.Spec PyProof.Rows L2
section
variable {P : Program} {w : World} {K : PySem.W.Frag} {mg : Str → Option Value} {base : Heap}
def r_worst_course : List D → D → Prop := fun ds r => ∃ (R : RowR) (T0 : TalkR) (b : Nat), ds = [.row R, .talk T0, .int (b : Int)] ∧ r = crsD (worstOf R T0 b) ∧ (RowOk R) ∧ (TalkOk T0) ∧ (b < R.boxes.length) ∧ (1 ≤ gapOf R T0 b) ∧ True
theorem C_worst_course (T : Tx K mg) : Cal P w K mg base "worst_course" 9 ["row", "talk", "box"] (SpR K r_worst_course) := by
  have S : FnScope ["row", "talk", "box", "pair", "lost", "start", "found", "letter", "is_late", "many"] ["row", "talk", "box"] (defScope (top 38)) := ⟨rfl, rfl, rfl, by decide +kernel, rfl, by decide +kernel, by decide +kernel⟩
  refine cal_of T (i := 38) (by decide +kernel) (fun fd F => fn_hs F S (fun ds r q => ?_) fun cdv A outer s H E hr => ⟨_, (pss_cons (ps_set (i := 3) S.nd rfl (Or.inl rfl) (pe_cal (C_ends T) (hr.mono (by decide)) (by rfl) (pa_cons (pv 0) (pa_cons (pv 1) (pa_cons (pv 2) pa_nil)))))
  (pss_cons (ps_if (pt_cmpR op_isN (pv 3) pe_non (nomark _)) (pss_one (ps_ret (pe_frz (pe_dcT (own := [("letter", 7)]) (g := (gName 7)) (tk := (tVar 7)) (tv := (tCall (SpR K r_times_along) [] L2.E0 (tCons (tVar 0) (tCons (tVar 1) (tCons (tVar 7) (tCons (tC (.bl false)) (tCons (tCB (rLenO (He.ga K "Row") (SpR K r_Row___len__)) (tCons (tVar 0) tNil)) tNil))))))) (hu_of hr) (by rfl) S.nd (pi_tup (pe_mth0 (pv 1) T.cTalk (hr.mono (by decide)) (C_Talk_letters T))) (blkOk_by (N := ["row", "talk", "box", "pair", "lost", "start", "found", "letter", "is_late", "many"]) (sc := defScope (top 38)) (by decide +kernel)) (fun _ _ _ _ _ => (pg_name (i := 7) S.nd rfl (Or.inl rfl))) (fun _ _ _ _ _ => (pv 7)) (fun _ _ _ _ _ => (pe_cal (C_times_along T) (hr.mono (by decide)) (by rfl) (pa_cons (pv 0) (pa_cons (pv 1) (pa_cons (pv 7) (pa_cons pe_bl (pa_cons (pe_callB (call_lenC (hr.mono (by decide)) (C_Row___len__ T)) (by rfl) (T.fr "len" (by decide +kernel)) (by decide +kernel) (pa_cons (pv 0) pa_nil)) pa_nil))))))))))) pss_nil)
  (pss_cons (ps_set (i := 4) S.nd rfl (Or.inl rfl) (pe_cal (C_lost_between T) (hr.mono (by decide)) (by rfl) (pa_cons (pv 0) (pa_cons (pv 1) (pa_cons (pv 2) (pa_cons (pe_ix ix_tup (pv 3) pe_int (fun _ _ => rfl)) (pa_cons (pe_ix ix_tup (pv 3) pe_int (fun _ _ => rfl)) pa_nil)))))))
  (pss_cons (ps_set (i := 5) S.nd rfl (Or.inl rfl) (pe_ix ix_tup (pe_cal (C_window_of T) (hr.mono (by decide)) (by rfl) (pa_cons (pv 0) (pa_cons (pv 1) (pa_cons (pv 2) (pa_cons (pe_ix ix_tup (pv 3) pe_int (fun _ _ => rfl)) pa_nil))))) pe_int (fun _ _ => rfl)))
  (pss_cons (ps_set (i := 6) S.nd rfl (Or.inl rfl) pe_dnewT)
  (pss_cons (ps_frz 6 (ps_for PassesOwn.never rfl (pi_tup (pe_mth0 (pv 1) T.cTalk (hr.mono (by decide)) (C_Talk_letters T))) (pg_name (i := 7) S.nd rfl (Or.inl rfl))
  (pss_cons (ps_set (i := 8) S.nd rfl (Or.inl rfl) (pe_and (pe_cmpR (op_neD hr.units) (pv 7) (pe_ix ix_tup (pv 3) pe_int (fun _ _ => rfl)) (nomark _)) (pe_one (pe_or (pe_cmpR (op_eqD hr.units) (pv 7) (pe_ix ix_tup (pv 3) pe_int (fun _ _ => rfl)) (nomark _)) (pe_one (pe_cmpR op_gt (pe_ix ix_tup (pe_cal (C_window_of T) (hr.mono (by decide)) (by rfl) (pa_cons (pv 0) (pa_cons (pv 1) (pa_cons (pv 2) (pa_cons (pv 7) pa_nil))))) pe_int (fun _ _ => rfl)) (pv 5) (nomark _)))))))
  (pss_cons (ps_set (i := 9) S.nd rfl (Or.inl rfl) (pe_ifExp (pt_cmpR (op_inT (room65 hr)) (pv 7) (pv 4) (by rfl)) (pe_cal (C_place_along T) (hr.mono (by decide)) (by rfl) (pa_cons (pv 0) (pa_cons (pv 7) (pa_cons (pv 2) pa_nil)))) (pe_callB (call_lenC (hr.mono (by decide)) (C_Row___len__ T)) (by rfl) (T.fr "len" (by decide +kernel)) (by decide +kernel) (pa_cons (pv 0) pa_nil))))
  (pss_one (ps_dput (hu_of hr) (pv 6) (pv 7) (pe_cal (C_times_along T) (hr.mono (by decide)) (by rfl) (pa_cons (pv 0) (pa_cons (pv 1) (pa_cons (pv 7) (pa_cons (pv 8) (pa_cons (pv 9) pa_nil)))))) rfl))))))
  (pss_one (ps_ret (pv 6))))))))), fun ds r q => ?_⟩) (fun _ _ _ _ _ _ us hl => match us, hl with | [_, _, _], _ => rfl)
  · obtain ⟨_, _, _, rfl, _⟩ := q
    rfl
  · obtain ⟨R, T0, b, rfl, rfl, h1, h2, h3, h4, _⟩ := q
    obtain ⟨f, l, ls, e1, hf, hl, e2, _⟩ := gap_ends h4
    have hL := letters_small h2
    have ew : worstOf R T0 b = worst R T0 b f l ls := by
      unfold worstOf
      rw [e1]
      show worst R T0 b f l ((lostIn R T0 b f l).getD []) = _
      rw [e2]
      rfl
    rw [ew]
    let g : Lt → List Int := fun x => timesAl R T0 x (isLate R T0 b f l x) (manyOf R b ls x)
    let L := letters T0
    let kv : Nat → List (Lt × D) := fun i => (L.take i).map fun x => (x, D.tup ((g x).map .int))
    refine ⟨[], hs_seq (hs_set (d := .tup [ltD f, ltD l]) (HE.to (he_call (ha_cons (he_var rfl) (ha2 (he_var rfl) (he_var rfl))) ⟨R, T0, b, rfl, rfl, h1, h2, h3, trivial⟩) (by rw [e1]; rfl))) fun _ => hs_seq (hs_guard (b := false) (ht_test (he_op (he_var rfl) he_non rr_isN)) rfl) fun _ =>
      hs_seq (hs_set (d := .tup (ls.map ltD)) (HE.to (he_call (ha_cons (he_var rfl) (ha_cons (he_var rfl) (ha_cons (he_var rfl) (ha2 (he_op (he_var rfl) he_int (rr_ixT at0)) (he_op (he_var rfl) he_int (rr_ixT at1)))))) ⟨R, T0, b, f, l, rfl, rfl, h1, h2, h3, hf, hl, trivial⟩) (by rw [e2]; rfl))) fun _ =>
      hs_seq (hs_set (d := .int (win R T0 b f).1) (he_fst (he_call (ha_cons (he_var rfl) (ha_cons (he_var rfl) (ha2 (he_var rfl) (he_op (he_var rfl) he_int (rr_ixT at0))))) ⟨R, T0, b, f, rfl, rfl, h3, h1, hf, trivial⟩))) fun _ =>
      hs_seq (hs_setD hd_new) fun _ => hs_seq (hs_frzD (kvs := (worst R T0 b f l ls).map fun p => (p.1, D.tup (p.2.map .int))) (hs_forX L ltD (hi_tup (he_meth (he_var rfl) rfl (by rfl) ha_nil ⟨T0, rfl, rfl, h2, trivial⟩)) (fun i => [.da (.row R), .da (.talk T0), .da (.int (b : Int)), .da (.tup [ltD f, ltD l]), .da (.tup (ls.map ltD)), .da (.int (win R T0 b f).1), .ownT (kv i), .no, .no, .no]) (fun _ => True) (by repeat (first | exact Sub.nil | refine Sub.eq ?_ | refine Sub.no ?_)) trivial fun i x hx _ => ⟨_, _, hg_name, ?_⟩) ?_ rfl) fun _ => hs_ret (he_var rfl)⟩
    · have hxm : x ∈ letters T0 := List.mem_of_getElem? hx
      have hp := place_lt (l := x) h3
      have hm : manyOf R b ls x ≤ R.boxes.length := by
        unfold manyOf
        by_cases q : x ∈ ls
        · rw [if_pos q]
          omega
        · rw [if_neg q]
          exact Nat.le_refl _
      have hkl : (kv i).length ≤ 120 := by
        show ((L.take i).map _).length ≤ 120
        rw [List.length_map]
        exact Nat.le_trans (by rw [List.length_take]; exact Nat.min_le_right _ _) hL
      have hnd : (L.take (i + 1)).Nodup := List.Nodup.sublist (List.take_sublist _ _) (letters_nodup T0)
      have hout : x ∉ (kv i).map (·.1) := fun q => by
        have q2 : x ∈ L.take i := by
          have e : (kv i).map (·.1) = L.take i := by
            show ((L.take i).map _).map _ = _
            rw [List.map_map]
            exact List.map_id _
          rw [e] at q
          exact q
        rw [take_snoc hx] at hnd
        exact (List.nodup_append.mp hnd).2.2 x q2 x List.mem_cons_self rfl
      refine hs_seq (hs_set (d := .bl (isLate R T0 b f l x)) (he_and (he_op (he_var rfl) (he_op (he_var rfl) he_int (rr_ixT at0)) rr_neLt) fun _ => he_or (he_op (he_var rfl) (he_op (he_var rfl) he_int (rr_ixT at1)) rr_eqLt) fun _ => he_op (he_fst (he_call (ha_cons (he_var rfl) (ha_cons (he_var rfl) (ha2 (he_var rfl) (he_var rfl)))) ⟨R, T0, b, x, rfl, rfl, h3, h1, hxm, trivial⟩)) (he_var rfl) rr_gt)) fun _ =>
        hs_seq (hs_set (d := .int (manyOf R b ls x : Int)) (he_if (b := decide (x ∈ ls)) (ht_test (he_op (he_var rfl) (he_var rfl) rr_inT)) (fun e => HE.to (he_call (ha_cons (he_var rfl) (ha2 (he_var rfl) (he_var rfl))) ⟨R, x, b, rfl, rfl, h3, h1, trivial⟩) ?_) (fun e => HE.to (he_cb (ha1 (he_var rfl)) (rc_lenO rfl ⟨R, rfl, rfl, trivial⟩ ?_)) ?_))) fun _ =>
        (hs_dput (i := 6) rfl (by omega) rfl (he_var rfl) (he_call (ha_cons (he_var rfl) (ha_cons (he_var rfl) (ha_cons (he_var rfl) (ha2 (he_var rfl) (he_var rfl))))) ⟨R, T0, x, isLate R T0 b f l x, manyOf R b ls x, rfl, rfl, h1, hxm, hm, trivial⟩) hout).weak fun _ => ⟨trivial, ?_⟩
      · unfold manyOf
        rw [if_pos (of_decide_eq_true e)]
      · have := h1.2.2
        omega
      · unfold manyOf
        rw [if_neg (of_decide_eq_false e)]
      · have ek : kv (i + 1) = kv i ++ [(x, D.tup ((g x).map .int))] := by
          show (L.take (i + 1)).map _ = _
          rw [take_snoc hx, List.map_append]
          rfl
        rw [ek]
        exact (by repeat (first | exact Sub.nil | refine Sub.eq ?_ | refine Sub.no ?_))
    · show some (En.ownT (kv L.length)) = _
      have ek : kv L.length = (worst R T0 b f l ls).map fun p => (p.1, D.tup (p.2.map .int)) := by
        show (L.take L.length).map _ = _
        rw [List.take_length]
        unfold worst
        rw [List.map_map]
        rfl
      rw [ek]

def r_gaps : List D → D → Prop := fun ds r => ∃ (R : RowR) (T0 : TalkR), ds = [.row R, .talk T0] ∧ r = .tup ((gapsOf R T0).map .int) ∧ (RowOk R) ∧ (TalkOk T0) ∧ True
theorem C_gaps (T : Tx K mg) : Cal P w K mg base "gaps" 9 ["row", "talk"] (SpR K r_gaps) := by
  have S : FnScope ["row", "talk", "box"] ["row", "talk"] (defScope (top 39)) := ⟨rfl, rfl, rfl, by decide +kernel, rfl, by decide +kernel, by decide +kernel⟩
  refine cal_of T (i := 39) (by decide +kernel) (fun fd F => fn_hs F S (fun ds r q => ?_) fun cdv A outer s H E hr => ⟨_, (pss_one (ps_ret (pe_callTy call_tuple_of (by rfl) (T.fr "tuple" (by decide +kernel)) (by decide +kernel) (pa_cons (pe_frz (pe_lc (own := [("box", 2)]) (g := (gName 2)) (tt := tYes) (te := (tCall (SpR K r_gap) [] L2.E0 (tCons (tVar 0) (tCons (tVar 1) (tCons (tVar 2) tNil))))) (by rfl) S.nd (pi_range1 (by rfl) (T.fr "range" (by decide +kernel)) (pa_cons (pe_callB (call_lenC (hr.mono (by decide)) (C_Row___len__ T)) (by rfl) (T.fr "len" (by decide +kernel)) (by decide +kernel) (pa_cons (pv 0) pa_nil)) pa_nil)) (blkOk_by (N := ["row", "talk", "box"]) (sc := defScope (top 39)) (by decide +kernel)) (fun _ _ _ _ _ => (pg_name (i := 2) S.nd rfl (Or.inl rfl))) (fun _ _ _ _ _ => pts_nil) (fun _ _ _ _ _ => (pe_cal (C_gap T) (hr.mono (by decide)) (by rfl) (pa_cons (pv 0) (pa_cons (pv 1) (pa_cons (pv 2) pa_nil))))))) pa_nil)))), fun ds r q => ?_⟩) (fun _ _ _ _ _ _ us hl => match us, hl with | [_, _], _ => rfl)
  · obtain ⟨_, _, rfl, _⟩ := q
    rfl
  · obtain ⟨R, T0, rfl, rfl, h1, h2, _⟩ := q
    have hR := h1.2.2
    refine ⟨[], hs_ret (HE.to (he_cb (ha1 (he_frz (hl_lcY (List.range R.boxes.length) (fun i => .int (i : Int)) (fun i => .int (gapOf R T0 i)) (hi_range (he_cb (ha1 (he_var rfl)) (rc_lenO rfl ⟨R, rfl, rfl, trivial⟩ (by omega))) (by omega)) (by rw [List.length_range]; omega) fun i hi => ⟨_, _, hg_name, by decide, he_call (ha_cons (he_var rfl) (ha2 (he_var rfl) (he_var rfl))) ⟨R, T0, i, rfl, rfl, h1, h2, List.mem_range.mp hi, trivial⟩⟩))) rc_tup) ?_)⟩
    unfold gapsOf
    rw [List.map_map]
    rfl

def r_paper : List D → D → Prop := fun ds r => ∃ (R : RowR) (T0 : TalkR), ds = [.row R, .talk T0] ∧ r = pprD (paperOf R T0) ∧ (RowOk R) ∧ (TalkOk T0) ∧ (LowOk R) ∧ True
theorem C_paper (T : Tx K mg) : Cal P w K mg base "paper" 10 ["row", "talk"] (SpR K r_paper) := by
  have S : FnScope ["row", "talk", "table", "box", "found"] ["row", "talk"] (defScope (top 41)) := ⟨rfl, rfl, rfl, by decide +kernel, rfl, by decide +kernel, by decide +kernel⟩
  refine cal_of T (i := 41) (by decide +kernel) (fun fd F => fn_hs F S (fun ds r q => ?_) fun cdv A outer s H E hr => ⟨_, (pss_cons (ps_set (i := 2) S.nd rfl (Or.inl rfl) (pe_cal (C_gaps T) (hr.mono (by decide)) (by rfl) (pa_cons (pv 0) (pa_cons (pv 1) pa_nil))))
  (pss_cons (ps_for PassesOwn.never rfl (pi_enumT (by rfl) (T.fr "enumerate" (by decide +kernel)) (pa_cons (pv 2) pa_nil)) (pg_tup (by rfl) (pgs_cons (pg_name (i := 3) S.nd rfl (Or.inl rfl)) (pgs_cons (pg_name (i := 4) S.nd rfl (Or.inl rfl)) pgs_nil)))
  (pss_one (ps_if (pt_cmpR op_ge (pv 4) (pe_prp (pe_ix ix_tup (pe_prp (pv 0) T.cRow (hr.mono (by decide)) (C_Row_boxes T)) (pv 3) (fun _ _ => rfl)) T.cBox (hr.mono (by decide)) (C_Box_low T)) (nomark _)) (pss_one (ps_ret (pe_tup (pa_cons pe_str (pa_cons (pv 3) (pa_cons (pe_cal (C_worst_course T) (hr.mono (by decide)) (by rfl) (pa_cons (pv 0) (pa_cons (pv 1) (pa_cons (pv 3) pa_nil)))) pa_nil)))))) pss_nil)))
  (pss_one (ps_ret (pe_tup (pa_cons pe_str (pa_cons (pv 2) pa_nil))))))), fun ds r q => ?_⟩) (fun _ _ _ _ _ _ us hl => match us, hl with | [_, _], _ => rfl)
  · obtain ⟨_, _, rfl, _⟩ := q
    rfl
  · obtain ⟨R, T0, rfl, rfl, h1, h2, h3, _⟩ := q
    have hlen : (gapsOf R T0).length = R.boxes.length := by
      unfold gapsOf
      rw [List.length_map, List.length_range]
    refine ⟨[], hs_seq (hs_set (he_call (ha2 (he_var rfl) (he_var rfl)) ⟨R, T0, rfl, rfl, h1, h2, trivial⟩)) fun _ => hs_seq (hs_forX (gapsOf R T0).zipIdx (enD D.int) (hi_enumT (he_var rfl)) (fun i => [.da (.row R), .da (.talk T0), .da (.tup ((gapsOf R T0).map .int)), .no, .no]) (fun i => ∀ j, j < i → decide (lowAt R j ≤ gapOf R T0 j) = false) (by repeat (first | exact Sub.nil | refine Sub.eq ?_ | refine Sub.no ?_)) (fun j hj => absurd hj (Nat.not_lt_zero _)) fun i a ha hp => ⟨_, _, hg_tup (hgs_cons hg_name (hgs_cons hg_name hgs_nil)) rfl, ?_⟩) fun he => hs_ret (HE.to (he_tup2 he_str (he_var rfl)) ?_)⟩
    · obtain ⟨v, j⟩ := a
      have hz : (gapsOf R T0).zipIdx[i]? = ((gapsOf R T0)[i]?).map fun a => (a, 0 + i) := List.getElem?_zipIdx
      rw [ha] at hz
      cases hv : (gapsOf R T0)[i]? with
      | none =>
        rw [hv] at hz
        cases hz
      | some v' =>
        rw [hv] at hz
        have hz2 : (v, j) = (v', 0 + i) := Option.some.inj hz
        have ej : j = i := by
          have := (Prod.mk.inj hz2).2
          omega
        have ev := (Prod.mk.inj hz2).1
        subst ej
        have hb : j < R.boxes.length := by
          rw [← hlen]
          exact (List.getElem?_eq_some_iff.mp hv).1
        have evg : v = gapOf R T0 j := by
          rw [ev]
          have q := (List.getElem?_eq_some_iff.mp hv).2
          rw [← q]
          unfold gapsOf
          rw [List.getElem_map, List.getElem_range]
        subst evg
        have hbx : R.boxes[j]? = some R.boxes[j] := List.getElem?_eq_getElem hb
        refine (hs_leave (b := decide (lowAt R j ≤ gapOf R T0 j)) (HT.to (ht_test (he_op (he_var rfl) (he_prop (he_ixTm (f := D.box) j (he_prop (he_var rfl) rfl ⟨R, rfl, rfl, trivial⟩) (he_var rfl) rfl hbx) rfl ⟨R.boxes[j], rfl, rfl, trivial⟩) rr_ge)) (by rw [lowAt_eq hb])) fun e => hs_ret (HE.to (he_tup3 he_str (he_var rfl) (he_call (ha_cons (he_var rfl) (ha2 (he_var rfl) (he_var rfl))) ⟨R, T0, j, rfl, rfl, h1, h2, hb, ?gp, trivial⟩)) ?eq)).weak fun e => ⟨?nx, (by repeat (first | exact Sub.nil | refine Sub.eq ?_ | refine Sub.no ?_))⟩
        case gp =>
          have q := of_decide_eq_true e
          have q2 : 1 ≤ R.boxes[j].low := h3 _ (List.getElem_mem hb)
          rw [lowAt_eq hb] at q
          omega
        case eq =>
          have hfind : (List.range R.boxes.length).find? (fun b => decide (lowAt R b ≤ gapOf R T0 b)) = some j := by
            rw [List.find?_range_eq_some]
            exact ⟨e, List.mem_range.mpr hb, fun k hk => by rw [hp k hk]; rfl⟩
          unfold paperOf
          rw [hfind]
          rfl
        case nx =>
          intro k hk
          by_cases q : k = j
          · rw [q]
            exact e
          · exact hp k (by omega)
    · have hfind : (List.range R.boxes.length).find? (fun b => decide (lowAt R b ≤ gapOf R T0 b)) = none := by
        rw [List.find?_range_eq_none]
        intro k hk
        rw [he k (by rw [List.length_zipIdx, hlen]; exact hk)]
        rfl
      unfold paperOf
      rw [hfind]
      rfl

def r_accepts_broken : List D → D → Prop := fun ds r => ∃ (R : RowR) (T0 : TalkR) (b : Nat) (c : Crs), ds = [.row R, .talk T0, .int (b : Int), crsD c] ∧ r = .bl (accBroken R T0 b c) ∧ (RowOk R) ∧ (TalkOk T0) ∧ (CrsOk c) ∧ True
theorem C_accepts_broken (T : Tx K mg) : Cal P w K mg base "accepts_broken" 8 ["row", "talk", "box", "course"] (SpR K r_accepts_broken) := by
  have S : FnScope ["row", "talk", "box", "course"] ["row", "talk", "box", "course"] (defScope (top 42)) := ⟨rfl, rfl, rfl, by decide +kernel, rfl, by decide +kernel, by decide +kernel⟩
  refine cal_of T (i := 42) (by decide +kernel) (fun fd F => fn_hs F S (fun ds r q => ?_) fun cdv A outer s H E hr => ⟨_, (pss_cons (ps_if (PW.pt (pw_or (pt_not (pt_val (pe_cal (C_is_between T) (hr.mono (by decide)) (by rfl) (pa_cons (pv 2) (pa_cons pe_int (pa_cons (pe_op op_sub (pe_callB (call_lenC (hr.mono (by decide)) (C_Row___len__ T)) (by rfl) (T.fr "len" (by decide +kernel)) (by decide +kernel) (pa_cons (pv 0) pa_nil)) pe_int) pa_nil)))))) (pw_or1 (pt_not (pt_val (pe_cal (C_is_course T) (hr.mono (by decide)) (by rfl) (pa_cons (pv 0) (pa_cons (pv 1) (pa_cons (pv 3) pa_nil))))))))) (pss_one (ps_ret pe_bl)) pss_nil)
  (pss_one (ps_ret (pe_cmpR op_ge (pe_cal (C_course_gap T) (hr.mono (by decide)) (by rfl) (pa_cons (pv 0) (pa_cons (pv 1) (pa_cons (pv 3) (pa_cons (pv 2) pa_nil))))) (pe_prp (pe_ix ix_tup (pe_prp (pv 0) T.cRow (hr.mono (by decide)) (C_Row_boxes T)) (pv 2) (fun _ _ => rfl)) T.cBox (hr.mono (by decide)) (C_Box_low T)) (nomark _))))), fun ds r q => ?_⟩) (fun _ _ _ _ _ _ us hl => match us, hl with | [_, _, _, _], _ => rfl)
  · obtain ⟨_, _, _, _, rfl, _⟩ := q
    rfl
  · obtain ⟨R, T0, b, c, rfl, rfl, h1, h2, h3, _⟩ := q
    have hR := h1.2.2
    refine ⟨[], hs_seq (hs_leave (b := (!decide (b < R.boxes.length) || !isCourse R T0 c)) (ht_or (HT.to (ht_not (ht_B (he_call (ha_cons (he_var rfl) (ha2 he_int (he_op (he_cb (ha1 (he_var rfl)) (rc_lenO rfl ⟨R, rfl, rfl, trivial⟩ (by omega))) he_int rr_sub))) ⟨_, _, _, rfl, rfl, trivial⟩))) ?_) fun _ => ht_not (ht_B (he_call (ha_cons (he_var rfl) (ha2 (he_var rfl) (he_var rfl))) ⟨R, T0, c, rfl, rfl, h1, h2, h3, trivial⟩))) fun e => hs_ret (he_bl.to ?_)) fun e => ?_⟩
    · have a1 : decide ((0 : Int) ≤ (b : Int)) = true := decide_eq_true (by omega)
      rw [a1, Bool.true_and]
      by_cases q : b < R.boxes.length
      · rw [decide_eq_true q, decide_eq_true (by omega)]
      · rw [decide_eq_false q, decide_eq_false (by omega)]
    · unfold accBroken
      cases q1 : decide (b < R.boxes.length) <;> cases q2 : isCourse R T0 c <;> rw [q1, q2] at e <;> first | rfl | cases e
    · have q1 : decide (b < R.boxes.length) = true := by
        cases q : decide (b < R.boxes.length) with
        | true => rfl
        | false => rw [q] at e; cases e
      have q2 : isCourse R T0 c = true := by
        cases q : isCourse R T0 c with
        | true => rfl
        | false => rw [q1, q] at e; cases e
      have hb := of_decide_eq_true q1
      have hbx : R.boxes[b]? = some R.boxes[b] := List.getElem?_eq_getElem hb
      refine hs_ret (HE.to (he_op (he_call (ha_cons (he_var rfl) (ha_cons (he_var rfl) (ha2 (he_var rfl) (he_var rfl)))) ⟨R, T0, c, b, rfl, rfl, h1, h2, h3, q2, hb, trivial⟩) (he_prop (he_ixTm (f := D.box) b (he_prop (he_var rfl) rfl ⟨R, rfl, rfl, trivial⟩) (he_var rfl) rfl hbx) rfl ⟨R.boxes[b], rfl, rfl, trivial⟩) rr_ge) ?_)
      unfold accBroken
      rw [q1, q2, lowAt_eq hb]
      rfl

def r_accepts_gap : List D → D → Prop := fun ds r => ∃ (R : RowR) (T0 : TalkR) (b : Nat) (v : Int), ds = [.row R, .talk T0, .int (b : Int), .int v] ∧ r = .bl (accGap R T0 b v) ∧ (RowOk R) ∧ (TalkOk T0) ∧ (b < R.boxes.length) ∧ True
theorem C_accepts_gap (T : Tx K mg) : Cal P w K mg base "accepts_gap" 7 ["row", "talk", "box", "value"] (SpR K r_accepts_gap) := by
  have S : FnScope ["row", "talk", "box", "value", "table", "first", "last", "is_longer"] ["row", "talk", "box", "value"] (defScope (top 43)) := ⟨rfl, rfl, rfl, by decide +kernel, rfl, by decide +kernel, by decide +kernel⟩
  refine cal_of T (i := 43) (by decide +kernel) (fun fd F => fn_hs F S (fun ds r q => ?_) fun cdv A outer s H E hr => ⟨_, (pss_cons (ps_if (pt_not (pt_val (pe_cal (C_is_between T) (hr.mono (by decide)) (by rfl) (pa_cons (pv 3) (pa_cons pe_int (pa_cons (pe_op op_sub (pe_prp (pe_ix ix_tup (pe_prp (pv 0) T.cRow (hr.mono (by decide)) (C_Row_boxes T)) (pv 2) (fun _ _ => rfl)) T.cBox (hr.mono (by decide)) (C_Box_low T)) pe_int) pa_nil)))))) (pss_one (ps_ret pe_bl)) pss_nil)
  (pss_cons (ps_set (i := 4) S.nd rfl (Or.inl rfl) (pe_cal (C_windows T) (hr.mono (by decide)) (by rfl) (pa_cons (pv 0) (pa_cons (pv 1) (pa_cons (pv 2) pa_nil)))))
  (pss_cons (ps_for PassesOwn.never rfl (pi_keys (pv 4)) (pg_name (i := 5) S.nd rfl (Or.inl rfl))
  (pss_one (ps_for PassesOwn.never rfl (pi_keys (pv 4)) (pg_name (i := 6) S.nd rfl (Or.inl rfl))
  (pss_cons (ps_set (i := 7) S.nd rfl (Or.inl rfl) (pe_cmpR op_gt (pe_op op_sub (pe_ix ix_tup (pe_dget (hu_of hr) (pv 4) (pv 6) (fun _ _ => rfl)) pe_int (fun _ _ => rfl)) (pe_ix ix_tup (pe_dget (hu_of hr) (pv 4) (pv 5) (fun _ _ => rfl)) pe_int (fun _ _ => rfl))) (pv 3) (nomark _)))
  (pss_one (ps_if (PW.pt (pw_and (pt_val (pv 7)) (pw_and1 (pt_cmpR op_notN (pe_cal (C_lost_in T) (hr.mono (by decide)) (by rfl) (pa_cons (pv 0) (pa_cons (pv 1) (pa_cons (pv 2) (pa_cons (pv 4) (pa_cons (pe_tup (pa_cons (pv 5) (pa_cons (pv 6) pa_nil))) pa_nil)))))) pe_non (nomark _))))) (pss_one (ps_ret pe_bl)) pss_nil))))))
  (pss_one (ps_ret pe_bl))))), fun ds r q => ?_⟩) (fun _ _ _ _ _ _ us hl => match us, hl with | [_, _, _, _], _ => rfl)
  · obtain ⟨_, _, _, _, rfl, _⟩ := q
    rfl
  · obtain ⟨R, T0, b, v, rfl, rfl, h1, h2, h3, _⟩ := q
    have hL := letters_small h2
    have hbx : R.boxes[b]? = some R.boxes[b] := List.getElem?_eq_getElem h3
    have look : ∀ x ∈ letters T0, lookK (winK R T0 b) x = some (prD (win R T0 b x)) := fun x hx => look_t hx
    let L := letters T0
    have ek : (winK R T0 b).map (fun p => ltD p.1) = L.map ltD := by
      unfold winK
      rw [List.map_map]
      rfl
    let P1 : Lt → Lt → Bool := fun f l => !(decide (v < (win R T0 b l).2 - (win R T0 b f).1) && (lostIn R T0 b f l).isSome)
    let P2 : Lt → Bool := fun f => L.all (P1 f)
    have eacc : accGap R T0 b v = ((decide (0 ≤ v) && decide (v ≤ lowAt R b - 1)) && L.all P2) := rfl
    refine ⟨[], hs_seq (hs_leave (b := !(decide (0 ≤ v) && decide (v ≤ lowAt R b - 1))) (ht_not (ht_B (HE.to (he_call (ha_cons (he_var rfl) (ha2 he_int (he_op (he_prop (he_ixTm (f := D.box) b (he_prop (he_var rfl) rfl ⟨R, rfl, rfl, trivial⟩) (he_var rfl) rfl hbx) rfl ⟨R.boxes[b], rfl, rfl, trivial⟩) he_int rr_sub))) ⟨_, _, _, rfl, rfl, trivial⟩) (by rw [lowAt_eq h3])))) fun e => hs_ret (he_bl.to ?_)) fun e0 => hs_seq (hs_set (he_call (ha_cons (he_var rfl) (ha2 (he_var rfl) (he_var rfl))) ⟨R, T0, b, rfl, rfl, h1, h2, h3, trivial⟩)) fun _ =>
      hs_seq (hs_forX L ltD (HI.to (hi_keys (he_var rfl)) ek) (fun i => [.da (.row R), .da (.talk T0), .da (.int (b : Int)), .da (.int v), .da (.dct (winK R T0 b)), .no, .no, .no]) (fun i => L.all P2 = (L.drop i).all P2) (by repeat (first | exact Sub.nil | refine Sub.eq ?_ | refine Sub.no ?_)) rfl fun i f hf hp => ⟨_, _, hg_name, ?_⟩) fun he => hs_ret (he_bl.to ?_)⟩
    · rw [eacc]
      cases q : (decide (0 ≤ v) && decide (v ≤ lowAt R b - 1)) with
      | false => rfl
      | true => rw [q] at e; cases e
    · have q0 : (decide (0 ≤ v) && decide (v ≤ lowAt R b - 1)) = true := by
        cases q : (decide (0 ≤ v) && decide (v ≤ lowAt R b - 1)) with
        | true => rfl
        | false => rw [q] at e0; cases e0
      have hfm : f ∈ letters T0 := List.mem_of_getElem? hf
      rw [all_drop hf] at hp
      refine (hs_forX L ltD (HI.to (hi_keys (he_var rfl)) ek) (fun i => [.da (.row R), .da (.talk T0), .da (.int (b : Int)), .da (.int v), .da (.dct (winK R T0 b)), .da (ltD f), .no, .no]) (fun j => P2 f = (L.drop j).all (P1 f)) (by repeat (first | exact Sub.nil | refine Sub.eq ?_ | refine Sub.no ?_)) rfl fun j l hl hq => ⟨_, _, hg_name, ?_⟩).weak fun he => ⟨?_, (by repeat (first | exact Sub.nil | refine Sub.eq ?_ | refine Sub.no ?_))⟩
      · have hlm : l ∈ letters T0 := List.mem_of_getElem? hl
        rw [all_drop hl] at hq
        refine hs_seq (hs_set (he_op (he_op (he_snd (he_dget (he_var rfl) (he_var rfl) (look l hlm))) (he_fst (he_dget (he_var rfl) (he_var rfl) (look f hfm))) rr_sub) (he_var rfl) rr_gt)) fun _ => (hs_leave (b := !(P1 f l)) (HT.to (ht_and (ht_B (he_var rfl)) fun _ => HT.to (ht_test (he_op (he_call (ha_cons (he_var rfl) (ha_cons (he_var rfl) (ha_cons (he_var rfl) (ha2 (he_var rfl) (he_tup2 (he_var rfl) (he_var rfl)))))) ⟨R, T0, b, f, l, rfl, rfl, h1, h2, h3, hfm, hlm, trivial⟩) he_non rr_isNot)) (b := (lostIn R T0 b f l).isSome) (by cases lostIn R T0 b f l <;> rfl)) ?_) fun e => hs_ret (he_bl.to ?_)).weak fun e => ⟨?_, (by repeat (first | exact Sub.nil | refine Sub.eq ?_ | refine Sub.no ?_))⟩
        · show _ = !!_
          rw [Bool.not_not]
        · have e2 : P1 f l = false := by
            cases q : P1 f l with
            | false => rfl
            | true => rw [q] at e; cases e
          rw [e2, Bool.false_and] at hq
          rw [hq, Bool.false_and] at hp
          rw [eacc, hp, Bool.and_false]
        · have e2 : P1 f l = true := by
            cases q : P1 f l with
            | true => rfl
            | false => rw [q] at e; cases e
          rw [hq, e2, Bool.true_and]
      · have : P2 f = true := by
          rw [he, List.drop_length]
          rfl
        rw [hp, this, Bool.true_and]
    · have q0 : (decide (0 ≤ v) && decide (v ≤ lowAt R b - 1)) = true := by
        cases q : (decide (0 ≤ v) && decide (v ≤ lowAt R b - 1)) with
        | true => rfl
        | false => rw [q] at e0; cases e0
      rw [eacc, he, List.drop_length, q0]
      rfl

def r_accepts : List D → D → Prop := fun ds r => ∃ (R : RowR) (T0 : TalkR) (p : Ppr), ds = [.row R, .talk T0, pprD p] ∧ r = .bl (acc R T0 p) ∧ (RowOk R) ∧ (TalkOk T0) ∧ (PprOk p) ∧ True
theorem C_accepts (T : Tx K mg) : Cal P w K mg base "accepts" 9 ["row", "talk", "value"] (SpR K r_accepts) := by
  have S : FnScope ["row", "talk", "value", "box", "found"] ["row", "talk", "value"] (defScope (top 44)) := ⟨rfl, rfl, rfl, by decide +kernel, rfl, by decide +kernel, by decide +kernel⟩
  refine cal_of T (i := 44) (by decide +kernel) (fun fd F => fn_hs F S (fun ds r q => ?_) fun cdv A outer s H E hr => ⟨_, (pss_cons (ps_if (PW.pt (pw_or (pt_not (pt_val (pe_callB call_isi (by rfl) (T.fr "isinstance" (by decide +kernel)) (by decide +kernel) (pa_cons (pv 2) (pa_cons (pe_bltn (v := .ty "tuple") (by rfl) (T.fr "tuple" (by decide +kernel)) (by decide +kernel) rfl) pa_nil))))) (pw_or (pt_cmpR op_lt (pe_callB call_len (by rfl) (T.fr "len" (by decide +kernel)) (by decide +kernel) (pa_cons (pv 2) pa_nil)) pe_int (nomark _)) (pw_or1 (pt_not (pt_val (pe_callB call_isi (by rfl) (T.fr "isinstance" (by decide +kernel)) (by decide +kernel) (pa_cons (pe_ix ix_tup (pv 2) pe_int (fun _ _ => rfl)) (pa_cons (pe_bltn (v := .ty "str") (by rfl) (T.fr "str" (by decide +kernel)) (by decide +kernel) rfl) pa_nil))))))))) (pss_one (ps_ret pe_bl)) pss_nil)
  (pss_cons (ps_if (pt_cmpR op_eq (pe_ix ix_tup (pv 2) pe_int (fun _ _ => rfl)) pe_str (nomark _)) (pss_one (ps_ret (pe_and (pe_cmpR op_eq (pe_callB call_len (by rfl) (T.fr "len" (by decide +kernel)) (by decide +kernel) (pa_cons (pv 2) pa_nil)) pe_int (nomark _)) (pe_one (pe_cal (C_accepts_broken T) (hr.mono (by decide)) (by rfl) (pa_cons (pv 0) (pa_cons (pv 1) (pa_cons (pe_ix ix_tup (pv 2) pe_int (fun _ _ => rfl)) (pa_cons (pe_ix ix_tup (pv 2) pe_int (fun _ _ => rfl)) pa_nil))))))))) pss_nil)
  (pss_cons (ps_if (PW.pt (pw_or (pt_cmpR op_ne (pe_ix ix_tup (pv 2) pe_int (fun _ _ => rfl)) pe_str (nomark _)) (pw_or (pt_cmpR op_ne (pe_callB call_len (by rfl) (T.fr "len" (by decide +kernel)) (by decide +kernel) (pa_cons (pv 2) pa_nil)) pe_int (nomark _)) (pw_or (pt_not (pt_val (pe_callB call_isi (by rfl) (T.fr "isinstance" (by decide +kernel)) (by decide +kernel) (pa_cons (pe_ix ix_tup (pv 2) pe_int (fun _ _ => rfl)) (pa_cons (pe_bltn (v := .ty "tuple") (by rfl) (T.fr "tuple" (by decide +kernel)) (by decide +kernel) rfl) pa_nil))))) (pw_or1 (pt_cmpR op_ne (pe_callB call_len (by rfl) (T.fr "len" (by decide +kernel)) (by decide +kernel) (pa_cons (pe_ix ix_tup (pv 2) pe_int (fun _ _ => rfl)) pa_nil)) (pe_callB (call_lenC (hr.mono (by decide)) (C_Row___len__ T)) (by rfl) (T.fr "len" (by decide +kernel)) (by decide +kernel) (pa_cons (pv 0) pa_nil)) (nomark _))))))) (pss_one (ps_ret pe_bl)) pss_nil)
  (pss_one (ps_ret (pe_callB (cr_all rfl) (by rfl) (T.fr "all" (by decide +kernel)) (by decide +kernel) (pa_cons (pe_frz (pe_lc (own := [("box", 3), ("found", 4)]) (g := (gTup K 2 (gCons (gName 3) (gCons (gName 4) gNil)))) (tt := tYes) (te := (tCall (SpR K r_accepts_gap) [] L2.E0 (tCons (tVar 0) (tCons (tVar 1) (tCons (tVar 3) (tCons (tVar 4) tNil)))))) (by rfl) S.nd (pi_enumT (by rfl) (T.fr "enumerate" (by decide +kernel)) (pa_cons (pe_ix ix_tup (pv 2) pe_int (fun _ _ => rfl)) pa_nil)) (blkOk_by (N := ["row", "talk", "value", "box", "found"]) (sc := defScope (top 44)) (by decide +kernel)) (fun _ _ _ _ _ => (pg_tup (by rfl) (pgs_cons (pg_name (i := 3) S.nd rfl (Or.inl rfl)) (pgs_cons (pg_name (i := 4) S.nd rfl (Or.inl rfl)) pgs_nil)))) (fun _ _ _ _ _ => pts_nil) (fun _ _ _ _ _ => (pe_cal (C_accepts_gap T) (hr.mono (by decide)) (by rfl) (pa_cons (pv 0) (pa_cons (pv 1) (pa_cons (pv 3) (pa_cons (pv 4) pa_nil)))))))) pa_nil))))))), fun ds r q => ?_⟩) (fun _ _ _ _ _ _ us hl => match us, hl with | [_, _, _], _ => rfl)
  · obtain ⟨_, _, _, rfl, _⟩ := q
    rfl
  · obtain ⟨R, T0, p, rfl, rfl, h1, h2, h3, _⟩ := q
    have hR := h1.2.2
    cases p with
    | broken b c =>
      exact ⟨[], hs_seq (hs_guard (b := false) (HT.to (ht_or (ht_not (ht_B (he_isi (he_var rfl) (b := true) rfl rfl))) fun _ => ht_or (ht_test (he_op (he_cb (ha1 (he_var rfl)) (rc_lenT (ds := [.str "broken", .int (b : Int), crsD c]))) he_int rr_lt)) fun _ => ht_not (ht_B (he_isi (he_op (he_var rfl) he_int (rr_ixT at0)) (b := true) rfl rfl))) rfl) rfl) fun _ => hs_seq (hs_if (chi := False) (Γ' := []) (b := true) (HT.to (ht_test (he_op (he_op (he_var rfl) he_int (rr_ixT at0)) he_str rr_eqS)) (decide_eq_true rfl)) (fun _ => hs_ret (HE.to (he_and (he_op (he_cb (ha1 (he_var rfl)) (rc_lenT (ds := [.str "broken", .int (b : Int), crsD c]))) he_int rr_eqI) fun _ => he_call (ha_cons (he_var rfl) (ha_cons (he_var rfl) (ha2 (he_op (he_var rfl) he_int (rr_ixT at1)) (he_op (he_var rfl) he_int (rr_ixT at2))))) ⟨R, T0, b, c, rfl, rfl, h1, h2, h3, trivial⟩) rfl)) (fun q => nomatch q)) fun f => f.elim⟩
    | kept vs =>
      have hv : vs.length ≤ 100 := h3
      have ne : decide (("kept" : Str) = ("broken" : Str)) = false := by decide +kernel
      refine ⟨[], hs_seq (hs_guard (b := false) (HT.to (ht_or (ht_not (ht_B (he_isi (he_var rfl) (b := true) rfl rfl))) fun _ => ht_or (ht_test (he_op (he_cb (ha1 (he_var rfl)) (rc_lenT (ds := [.str "kept", .tup (vs.map .int)]))) he_int rr_lt)) fun _ => ht_not (ht_B (he_isi (he_op (he_var rfl) he_int (rr_ixT at0)) (b := true) rfl rfl))) rfl) rfl) fun _ => hs_seq (hs_guard (b := false) (HT.to (ht_test (he_op (he_op (he_var rfl) he_int (rr_ixT at0)) he_str rr_eqS)) ne) rfl) fun _ =>
        hs_seq (hs_leave (b := !decide (vs.length = R.boxes.length)) (HT.to (ht_or (HT.to (ht_test (he_op (he_op (he_var rfl) he_int (rr_ixT at0)) he_str rr_neS)) (b := false) (by rw [decide_eq_true rfl]; rfl)) fun _ => ht_or (HT.to (ht_test (he_op (he_cb (ha1 (he_var rfl)) (rc_lenT (ds := [.str "kept", .tup (vs.map .int)]))) he_int rr_neI)) (b := false) rfl) fun _ => ht_or (ht_not (ht_B (he_isi (he_op (he_var rfl) he_int (rr_ixT at1)) (b := true) rfl rfl))) fun _ => ht_test (he_op (he_lenT (he_op (he_var rfl) he_int (rr_ixT at1))) (he_cb (ha1 (he_var rfl)) (rc_lenO rfl ⟨R, rfl, rfl, trivial⟩ (by omega))) rr_neI)) ?_) fun e => hs_ret (he_bl.to ?_)) fun e => ?_⟩
      · show (!decide ((vs.length : Int) = (R.boxes.length : Int))) = _
        by_cases q : vs.length = R.boxes.length
        · rw [decide_eq_true q, decide_eq_true (by omega)]
        · rw [decide_eq_false q, decide_eq_false (by omega)]
      · have eacc : acc R T0 (.kept vs) = (decide (vs.length = R.boxes.length) && vs.zipIdx.all fun p => accGap R T0 p.2 p.1) := rfl
        rw [eacc]
        cases q : decide (vs.length = R.boxes.length) with
        | false => rfl
        | true => rw [q] at e; cases e
      · have q1 : decide (vs.length = R.boxes.length) = true := by
          cases q : decide (vs.length = R.boxes.length) with
          | true => rfl
          | false => rw [q] at e; cases e
        refine hs_ret (HE.to (he_all (xs := vs.zipIdx) (f := fun p => accGap R T0 p.2 p.1) (hl_lcY vs.zipIdx (enD D.int) (fun p => .bl (accGap R T0 p.2 p.1)) (hi_enumT (he_op (he_var rfl) he_int (rr_ixT at1))) (by rw [List.length_zipIdx]; omega) fun p hp => ⟨_, _, hg_tup (hgs_cons hg_name (hgs_cons hg_name hgs_nil)) rfl, by decide, he_call (ha_cons (he_var rfl) (ha_cons (he_var rfl) (ha2 (he_var rfl) (he_var rfl)))) ⟨R, T0, p.2, p.1, rfl, rfl, h1, h2, ?_, trivial⟩⟩)) ?_)
        · obtain ⟨v, j⟩ := p
          have := (List.mem_zipIdx hp).2.1
          have q2 := of_decide_eq_true q1
          show j < _
          omega
        · have eacc : acc R T0 (.kept vs) = (decide (vs.length = R.boxes.length) && vs.zipIdx.all fun p => accGap R T0 p.2 p.1) := rfl
          rw [eacc, q1]
          rfl

end
end Q
/-! Quietdoors: what the law's own defs compute. -/
namespace Q
open PySem PySem.Spec PyProof.Rows L2
def caseD (B : BoxR) : D := .lst [.int B.low, .int B.high, .int B.rest, .str B.sees]
def lineD (R : RowR) : D := .lst [.lst (R.boxes.map caseD), .lst (R.links.map prD)]
def talkD (T : TalkR) : D := .lst [.lst (T.out.map .int), .lst (T.back.map .int), .int T.loss]
def spD (p : Int × Int) : D := .lst [.int p.1, .int p.2]
def runLen (o : Bool) (ls : List Lt) : Nat → Nat
  | 0 => 0
  | k + 1 => if (⟨o, k⟩ : Lt) ∈ ls then runLen o ls k + 1 else 0
def lawCan1 (T : TalkR) (ls : List Lt) (o : Bool) : Bool := (List.range (ways T o).length).all fun k => decide ((runLen o ls (k + 1) : Int) ≤ T.loss)
def lawCan (T : TalkR) (ls : List Lt) : Bool := [true, false].all (lawCan1 T ls)
def goneF (R : RowR) (T : TalkR) (b : Nat) (f l : Lt) : List Lt := (letters T).filter fun x => ((!decide (x = f) && !decide (x = l)) && sightOk R b x) && (decide ((win R T b f).1 < (win R T b x).1) && decide ((win R T b x).2 < (win R T b l).2))
def gone (R : RowR) (T : TalkR) (b : Nat) (f l : Lt) : Option (List Lt) :=
  if (decide ((win R T b l).2 ≤ (win R T b f).1) || !sightOk R b f) = true then none else if lawCan T (goneF R T b f l) = true then some (goneF R T b f l) else none
def optG : Option (List Lt) → D
  | none => .non
  | some ls => .lst (ls.map ltD)
def lawRow (R : RowR) (T : TalkR) (b : Nat) (f : Lt) (ls : List Lt) : List P3 := (ls.filter fun l => !decide (f = l) && (gone R T b f l).isSome).map fun l => ((win R T b l).2 - (win R T b f).1, f, l)
def lawPairs (R : RowR) (T : TalkR) (b : Nat) : List P3 := (letters T).flatMap fun f => lawRow R T b f (letters T)
def lawGreat (R : RowR) (T : TalkR) (b : Nat) : Int := mxD (0 :: (lawPairs R T b).map (·.1)) 0
def badsOf (R : RowR) (T : TalkR) (vs : List Int) : List Nat := (List.range R.boxes.length).filter fun k => decide ((vs[k]?).getD 0 < lawGreat R T k) || decide (lowAt R k ≤ (vs[k]?).getD 0)
def lawDue (R : RowR) (T : TalkR) : Ppr → Bool
  | .kept vs => decide (vs.length = R.boxes.length) && (badsOf R T vs).isEmpty
  | .broken b c => accBroken R T b c
theorem lawRow_le {R : RowR} {T : TalkR} {b : Nat} {f : Lt} {ls : List Lt} : (lawRow R T b f ls).length ≤ ls.length := by
  unfold lawRow
  rw [List.length_map]
  exact List.length_filter_le _ _
theorem lawPairs_le {R : RowR} {T : TalkR} {b : Nat} (h : TalkOk T) : (lawPairs R T b).length ≤ 14400 := by
  have hl := letters_small h
  have := flat_le (f := fun f => lawRow R T b f (letters T)) (m := 120) (letters T) fun x _ => Nat.le_trans lawRow_le hl
  unfold lawPairs
  have h2 : (letters T).length * 120 ≤ 120 * 120 := Nat.mul_le_mul_right _ hl
  omega
/-! ### the plain law: the lost by followers, the lost by runs -/
theorem runLen_follow {o : Bool} {ls : List Lt} : ∀ (n k : Nat), n ≤ runLen o ls k → ∀ j, j < n → k ≥ n ∧ (⟨o, k - n + j⟩ : Lt) ∈ ls
  | 0, k, _, j, hj => absurd hj (Nat.not_lt_zero j)
  | n + 1, 0, h, j, hj => absurd h (Nat.not_succ_le_zero n)
  | n + 1, k + 1, h, j, hj => by
    unfold runLen at h
    by_cases q : (⟨o, k⟩ : Lt) ∈ ls
    · rw [if_pos q] at h
      have h2 : n ≤ runLen o ls k := by omega
      have hk : n ≤ k := by
        cases n with
        | zero => exact Nat.zero_le _
        | succ m => exact (runLen_follow (m + 1) k h2 0 (Nat.succ_pos _)).1
      refine ⟨by omega, ?_⟩
      by_cases e : j = n
      · have : k + 1 - (n + 1) + j = k := by omega
        rw [this]
        exact q
      · have := (runLen_follow n k h2 j (by omega)).2
        have e2 : k + 1 - (n + 1) + j = k - n + j := by omega
        rw [e2]
        exact this
    · rw [if_neg q] at h
      exact absurd h (Nat.not_succ_le_zero n)
theorem follow_runLen {o : Bool} {ls : List Lt} {k : Nat} : ∀ n : Nat, (∀ j, j < n → (⟨o, k + j⟩ : Lt) ∈ ls) → n ≤ runLen o ls (k + n)
  | 0, _ => Nat.zero_le _
  | n + 1, h => by
    have h1 := follow_runLen n fun j hj => h j (by omega)
    show n + 1 ≤ runLen o ls ((k + n) + 1)
    unfold runLen
    rw [if_pos (h n (Nat.lt_succ_self n))]
    omega
theorem can_eq {T : TalkR} {ls : List Lt} (h0 : 0 ≤ T.loss) (hs : ∀ x ∈ ls, x ∈ letters T) : canLose T.loss.toNat ls = lawCan T ls := by
  rw [Bool.eq_iff_iff]
  unfold canLose lawCan
  rw [List.all_eq_true, List.all_eq_true]
  constructor
  · intro h o _
    unfold lawCan1
    rw [List.all_eq_true]
    intro k hk
    refine decide_eq_true ?_
    by_cases q : (runLen o ls (k + 1) : Int) ≤ T.loss
    · exact q
    · have h1 : T.loss.toNat + 1 ≤ runLen o ls (k + 1) := by omega
      have h2 := runLen_follow (T.loss.toNat + 1) (k + 1) h1
      have h3 := h2 0 (Nat.succ_pos _)
      have h4 := h _ h3.2
      rw [Bool.not_eq_true', List.all_eq_false] at h4
      obtain ⟨j, hj, hn⟩ := h4
      have h5 := (h2 j (List.mem_range.mp hj)).2
      exact absurd (decide_eq_true (by
        show (⟨o, k + 1 - (T.loss.toNat + 1) + 0 + j⟩ : Lt) ∈ ls
        rw [Nat.add_zero]
        exact h5)) hn
  · intro h x hx
    rw [Bool.not_eq_true', List.all_eq_false]
    by_cases q : ∃ j, j ∈ List.range (T.loss.toNat + 1) ∧ ¬ decide ((⟨x.o, x.k + j⟩ : Lt) ∈ ls) = true
    · exact q
    · have h1 : ∀ j, j < T.loss.toNat + 1 → (⟨x.o, x.k + j⟩ : Lt) ∈ ls := fun j hj => by
        by_cases q2 : (⟨x.o, x.k + j⟩ : Lt) ∈ ls
        · exact q2
        · exact absurd ⟨j, List.mem_range.mpr hj, fun e => q2 (of_decide_eq_true e)⟩ q
      have h2 := follow_runLen (T.loss.toNat + 1) h1
      have h3 := mem_letters.mp (hs _ (h1 T.loss.toNat (Nat.lt_succ_self _)))
      have h4 := h x.o (by cases x.o <;> simp)
      unfold lawCan1 at h4
      rw [List.all_eq_true] at h4
      have h5 := of_decide_eq_true (h4 (x.k + T.loss.toNat) (List.mem_range.mpr h3))
      have h6 : x.k + (T.loss.toNat + 1) = x.k + T.loss.toNat + 1 := by omega
      rw [h6] at h2
      omega
theorem found_eq {R : RowR} {T : TalkR} {b : Nat} {f l : Lt} : foundL R T b f l = goneF R T b f l := by
  unfold foundL insideL goneF
  rw [List.filter_filter]
theorem lost_gone {R : RowR} {T : TalkR} {b : Nat} {f l : Lt} (h : TalkOk T) : (lostIn R T b f l).isSome = (!decide (f = l) && (gone R T b f l).isSome) := by
  have hs : ∀ x ∈ goneF R T b f l, x ∈ letters T := fun x hx => (List.mem_filter.mp hx).1
  have hc := can_eq h.2.2.1 hs
  unfold lostIn gone
  rw [found_eq, hc]
  cases decide (f = l) <;> cases sightOk R b f <;> cases decide ((win R T b l).2 ≤ (win R T b f).1) <;> cases lawCan T (goneF R T b f l) <;> rfl
theorem pairs_eq {R : RowR} {T : TalkR} {b : Nat} (h : TalkOk T) : lawPairs R T b = pairs R T b := by
  unfold lawPairs pairs lawRow pairRow
  have e : ∀ f : Lt, (fun l => !decide (f = l) && (gone R T b f l).isSome) = fun l => (lostIn R T b f l).isSome := fun f => funext fun l => (lost_gone h).symm
  simp only [e]
theorem gap_pos {R : RowR} {T : TalkR} {b : Nat} {p : P3} (h : p ∈ pairs R T b) : 0 < p.1 := by
  obtain ⟨_, _, hs, e⟩ := mem_pairs.mp h
  unfold lostIn at hs
  by_cases q : (decide (p.2.1 = p.2.2) || (!sightOk R b p.2.1 || decide ((win R T b p.2.2).2 ≤ (win R T b p.2.1).1))) = true
  · rw [if_pos q] at hs
    cases hs
  · have : ¬ (win R T b p.2.2).2 ≤ (win R T b p.2.1).1 := fun q2 => q (by rw [decide_eq_true q2, Bool.or_true, Bool.or_true])
    omega
theorem great_eq {R : RowR} {T : TalkR} {b : Nat} (h : TalkOk T) : lawGreat R T b = gapOf R T b := by
  unfold lawGreat gapOf
  rw [pairs_eq h]
  cases q : (pairs R T b).map (·.1) with
  | nil => rfl
  | cons x xs =>
    have hm := mxD_mem (ns := x :: xs) (d := 0) (List.cons_ne_nil _ _)
    have hp : 0 < mxD (x :: xs) 0 := by
      rw [← q] at hm ⊢
      obtain ⟨p, hp, e⟩ := List.mem_map.mp hm
      rw [← e]
      exact gap_pos hp
    refine (mxD_is (List.mem_cons_of_mem _ hm) fun j hj => ?_).symm
    rcases List.mem_cons.mp hj with e | hj
    · omega
    · exact mxD_ge hj
theorem gapOf_nn {R : RowR} {T : TalkR} {b : Nat} : 0 ≤ gapOf R T b := by
  unfold gapOf
  cases q : (pairs R T b).map (·.1) with
  | nil => exact Int.le_refl _
  | cons x xs =>
    have hm := mxD_mem (ns := x :: xs) (d := 0) (List.cons_ne_nil _ _)
    rw [← q] at hm ⊢
    obtain ⟨p, hp, e⟩ := List.mem_map.mp hm
    rw [← e]
    exact Int.le_of_lt (gap_pos hp)
theorem accGap_eq {R : RowR} {T : TalkR} {b : Nat} {v : Int} : accGap R T b v = (!(decide (v < gapOf R T b) || decide (lowAt R b ≤ v))) := by
  rw [Bool.eq_iff_iff]
  have hnn := gapOf_nn (R := R) (T := T) (b := b)
  simp only [accGap, Bool.and_eq_true, List.all_eq_true, decide_eq_true_eq, Bool.not_eq_true', Bool.or_eq_false_iff, decide_eq_false_iff_not, Bool.and_eq_false_iff]
  constructor
  · rintro ⟨⟨h1, h2⟩, h3⟩
    refine ⟨fun q => ?_, by omega⟩
    have hp : 1 ≤ gapOf R T b := by omega
    obtain ⟨f, l, ls, _, hf, hl, hs, e⟩ := gap_ends hp
    rcases h3 f hf l hl with g | g
    · omega
    · rw [hs] at g
      cases g
  · rintro ⟨h1, h2⟩
    refine ⟨⟨by omega, by omega⟩, fun f hf l hl => ?_⟩
    by_cases q : (lostIn R T b f l).isSome = true
    · refine .inl fun q2 => ?_
      have hm : ((win R T b l).2 - (win R T b f).1, f, l) ∈ pairs R T b := mem_pairs.mpr ⟨hf, hl, q, rfl⟩
      have := mxD_ge (d := 0) (List.mem_map.mpr ⟨_, hm, rfl⟩ : (win R T b l).2 - (win R T b f).1 ∈ (pairs R T b).map (·.1))
      have e : gapOf R T b = mxD ((pairs R T b).map (·.1)) 0 := rfl
      omega
    · exact .inr (by simpa using q)
theorem all_zipIdx {P : Int → Nat → Bool} : ∀ {vs : List Int} {n s : Nat}, vs.length = n → ((vs.zipIdx s).all fun p => P p.1 p.2) = (List.range n).all fun k => P ((vs[k]?).getD 0) (s + k)
  | [], _, s, rfl => rfl
  | v :: vs, _, s, rfl => by
    rw [List.zipIdx_cons, List.all_cons, all_zipIdx (s := s + 1) rfl, List.length_cons, List.range_succ_eq_map, List.all_cons, List.all_map]
    have e : (fun k => P ((vs[k]?).getD 0) (s + 1 + k)) = ((fun k => P (((v :: vs)[k]?).getD 0) (s + k)) ∘ Nat.succ) := funext fun k => by
      show P ((vs[k]?).getD 0) (s + 1 + k) = P (((v :: vs)[k + 1]?).getD 0) (s + (k + 1))
      rw [List.getElem?_cons_succ]
      have : s + 1 + k = s + (k + 1) := by omega
      rw [this]
    rw [e]
    rfl
theorem filter_empty {α : Type} {P : α → Bool} : ∀ xs : List α, (xs.filter P).isEmpty = xs.all fun x => !P x
  | [] => rfl
  | x :: xs => by
    rw [List.filter_cons, List.all_cons, ← filter_empty xs]
    cases P x <;> rfl
/-- the law's due is what accepts says -/
theorem due_acc {R : RowR} {T : TalkR} (h : TalkOk T) (p : Ppr) : lawDue R T p = acc R T p := by
  cases p with
  | broken b c => rfl
  | kept vs =>
    show (decide (vs.length = R.boxes.length) && (badsOf R T vs).isEmpty) = (decide (vs.length = R.boxes.length) && vs.zipIdx.all fun p => accGap R T p.2 p.1)
    by_cases q : vs.length = R.boxes.length
    · rw [decide_eq_true q, Bool.true_and, Bool.true_and]
      unfold badsOf
      rw [filter_empty, all_zipIdx (P := fun v k => accGap R T k v) q]
      have e : (fun k => !(decide ((vs[k]?).getD 0 < lawGreat R T k) || decide (lowAt R k ≤ (vs[k]?).getD 0))) = fun k => accGap R T (0 + k) ((vs[k]?).getD 0) := funext fun k => by
        rw [Nat.zero_add, accGap_eq, great_eq h]
      rw [e]
    · rw [decide_eq_false q]
      rfl
end Q
/-! Quietdoors: the plain law: the worst course is a course and shows the gap. -/
namespace Q
open PySem PySem.Spec PyProof.Rows L2
def LinkOk (p : Int × Int) : Prop := 0 ≤ p.1 ∧ p.1 ≤ p.2 ∧ p.2 ≤ 1000
def BoxOk (B : BoxR) : Prop := 1 ≤ B.low ∧ B.low ≤ B.high ∧ B.high ≤ 10000 ∧ 0 ≤ B.rest ∧ B.rest ≤ 10000
def TimesOk (ts : List Int) : Prop := ts.length ≤ 60 ∧ (∀ t ∈ ts, 0 ≤ t ∧ t ≤ 10000) ∧ ∀ p ∈ ts.zip (ts.drop 1), p.1 < p.2
def RowV (R : RowR) : Prop := RowOk R ∧ ∀ p ∈ R.links, LinkOk p
def TalkV (T : TalkR) : Prop := 1 ≤ T.out.length ∧ TimesOk T.out ∧ TimesOk T.back ∧ 0 ≤ T.loss ∧ T.loss ≤ 5
theorem TalkV.ok {T : TalkR} (h : TalkV T) : TalkOk T := ⟨h.2.1.1, h.2.2.1.1, h.2.2.2.1, h.2.2.2.2⟩
def cho (late : Bool) (p : Int × Int) : Int := if late = true then p.2 else p.1
theorem runs_get : ∀ (xs : List (Int × Int)) (s : Int) (late : Bool) (i : Nat), i < xs.length → (runs s late xs)[i]? = some (s + ((xs.take (i + 1)).map (cho late)).sum)
  | [], _, _, i, h => absurd h (Nat.not_lt_zero i)
  | (a, b) :: xs, s, late, 0, _ => by
    unfold runs
    rw [List.take_succ_cons, List.take_zero, List.map_cons, List.map_nil, List.sum_cons, List.sum_nil, Int.add_zero]
    rfl
  | (a, b) :: xs, s, late, i + 1, h => by
    have := runs_get xs (s + (if late = true then b else a)) late i (by simpa using h)
    unfold runs
    rw [List.getElem?_cons_succ, this, List.take_succ_cons, List.map_cons, List.sum_cons]
    have e : cho late (a, b) = if late = true then b else a := rfl
    rw [e, Int.add_assoc]
theorem sum_rev (f : Int × Int → Int) : ∀ xs : List (Int × Int), (xs.reverse.map f).sum = (xs.map f).sum
  | [] => rfl
  | x :: xs => by
    rw [List.reverse_cons, List.map_append, List.sum_append, sum_rev f xs, List.map_cons, List.map_cons, List.map_nil, List.sum_cons, List.sum_cons, List.sum_nil]
    omega
theorem cho_sum (late : Bool) (xs : List (Int × Int)) : (xs.map (cho late)).sum = if late = true then (sumP xs).2 else (sumP xs).1 := by
  cases late <;> rfl
/-- the first places along the way to a box -/
theorem along_take {R : RowR} {l : Lt} {b : Nat} (h : RowOk R) (hb : b < R.boxes.length) (late : Bool) : (((along R l).take (place R l b + 1)).map (cho late)).sum = if late = true then (dly R b l).2 else (dly R b l).1 := by
  have hl := h.1
  unfold along place dly outD backD
  cases l.o
  · rw [if_neg Bool.false_ne_true, if_neg Bool.false_ne_true, if_neg Bool.false_ne_true, List.take_reverse, sum_rev, List.drop_drop, List.length_drop, cho_sum]
    have e : 1 + (R.links.length - 1 - (R.boxes.length - 1 - b + 1)) = b + 1 := by omega
    rw [e]
  · rw [if_pos rfl, if_pos rfl, if_pos rfl, List.take_take, Nat.min_eq_left (by omega), cho_sum]
theorem runs_nn : ∀ (xs : List (Int × Int)) (s : Int) (late : Bool), 0 ≤ s → (∀ p ∈ xs, 0 ≤ p.1 ∧ p.1 ≤ p.2) → ∀ t ∈ runs s late xs, 0 ≤ t
  | [], _, _, _, _, t, ht => by cases ht
  | (a, b) :: xs, s, late, hs, hx, t, ht => by
    have h1 := hx (a, b) List.mem_cons_self
    have h2 : 0 ≤ s + (if late = true then b else a) := by
      have := h1.1
      have := h1.2
      cases late
      · rw [if_neg Bool.false_ne_true]; omega
      · rw [if_pos rfl]; omega
    unfold runs at ht
    rcases List.mem_cons.mp ht with e | ht
    · rw [e]
      exact h2
    · exact runs_nn xs _ late h2 (fun p hp => hx p (List.mem_cons_of_mem _ hp)) t ht
theorem runs_steps : ∀ (m : Nat) (xs : List (Int × Int)) (s : Int) (late : Bool), (∀ p ∈ xs, p.1 ≤ p.2) → stepsOk s (runs s late (xs.take m)) xs = true
  | 0, xs, s, late, _ => by
    rw [List.take_zero]
    rfl
  | m + 1, [], s, late, _ => rfl
  | m + 1, (a, b) :: xs, s, late, h => by
    have h1 := h (a, b) List.mem_cons_self
    rw [List.take_succ_cons]
    show ((decide (s + a ≤ s + (if late = true then b else a)) && decide (s + (if late = true then b else a) ≤ s + b)) && stepsOk (s + (if late = true then b else a)) (runs (s + (if late = true then b else a)) late (xs.take m)) xs) = true
    rw [runs_steps m xs _ late fun p hp => h p (List.mem_cons_of_mem _ hp)]
    cases late
    · rw [if_neg Bool.false_ne_true, decide_eq_true (Int.le_refl _), decide_eq_true (show s + a ≤ s + b by have : a ≤ b := h1; omega)]
      rfl
    · rw [if_pos rfl, decide_eq_true (Int.le_refl _), decide_eq_true (show s + a ≤ s + b by have : a ≤ b := h1; omega)]
      rfl
theorem along_mem {R : RowR} {l : Lt} {p : Int × Int} (h : p ∈ along R l) : p ∈ R.links := by
  unfold along at h
  cases q : l.o
  · rw [q, if_neg Bool.false_ne_true] at h
    exact List.mem_of_mem_drop (List.mem_reverse.mp h)
  · rw [q, if_pos rfl] at h
    exact List.mem_of_mem_take h
theorem sent_nn {T : TalkR} {l : Lt} (h : TalkV T) (hl : l ∈ letters T) : 0 ≤ sent T l := by
  have h2 := mem_letters.mp hl
  have key : ∀ o : Bool, ∀ t ∈ ways T o, 0 ≤ t := fun o t htm => by
    cases o
    · exact (h.2.2.1.2.1 t htm).1
    · exact (h.2.1.2.1 t htm).1
  unfold sent
  rw [List.getElem?_eq_getElem h2]
  exact key l.o _ (List.getElem_mem h2)
section
variable {R : RowR} {T : TalkR} {b : Nat} {f l : Lt} {ls : List Lt}
theorem worst_keys : (worst R T b f l ls).map (·.1) = letters T := by
  unfold worst
  rw [List.map_map]
  exact List.map_id _
theorem cAt_map {g : Lt → List Int} : ∀ {xs : List Lt} {x : Lt}, x ∈ xs → cAt (xs.map fun y => (y, g y)) x = g x
  | [], x, h => by cases h
  | y :: xs, x, h => by
    by_cases e : y = x
    · simp [cAt, e]
    · have h2 : x ∈ xs := by
        rcases List.mem_cons.mp h with q | q
        · exact absurd q.symm e
        · exact q
      have := cAt_map (g := g) h2
      have e2 : cAt ((y :: xs).map fun y => (y, g y)) x = cAt (xs.map fun y => (y, g y)) x := by simp [cAt, e]
      rw [e2]
      exact this
theorem worst_at {x : Lt} (hx : x ∈ letters T) : cAt (worst R T b f l ls) x = timesAl R T x (isLate R T b f l x) (manyOf R b ls x) := cAt_map (g := fun x => timesAl R T x (isLate R T b f l x) (manyOf R b ls x)) hx
theorem many_le {x : Lt} (hb : b < R.boxes.length) : manyOf R b ls x ≤ R.boxes.length := by
  have := place_lt (l := x) hb
  unfold manyOf
  by_cases q : x ∈ ls
  · rw [if_pos q]
    omega
  · rw [if_neg q]
    exact Nat.le_refl _
theorem times_len {x : Lt} {late : Bool} {m : Nat} (h : RowOk R) (hm : m ≤ R.boxes.length) : (timesAl R T x late m).length = m := by
  unfold timesAl
  rw [runs_len, List.length_take, along_len h]
  omega
theorem worst_crs (h : RowOk R) (ht : TalkOk T) (hb : b < R.boxes.length) : CrsOk (worst R T b f l ls) := by
  refine ⟨by rw [worst_keys]; exact letters_nodup T, ?_, fun p hp => ?_⟩
  · unfold worst
    rw [List.length_map]
    have := letters_small ht
    omega
  · obtain ⟨x, hx, e⟩ := List.mem_map.mp hp
    rw [← e]
    show (timesAl R T x (isLate R T b f l x) (manyOf R b ls x)).length ≤ 100
    rw [times_len h (many_le hb)]
    have := many_le (ls := ls) (x := x) hb
    have := h.2.2
    omega
theorem filter_mem {P : Lt → Bool} : ∀ xs : List Lt, (xs.filter fun x => decide (x ∈ xs.filter P)) = xs.filter P := fun xs => by
  refine List.filter_congr fun x hx => ?_
  cases q : P x with
  | true => exact decide_eq_true (List.mem_filter.mpr ⟨hx, q⟩)
  | false => exact decide_eq_false fun h => by rw [(List.mem_filter.mp h).2] at q; cases q
theorem worst_course (h : RowV R) (ht : TalkV T) (hb : b < R.boxes.length) (hl : lostIn R T b f l = some ls) : isCourse R T (worst R T b f l ls) = true := by
  have hc : canLose T.loss.toNat (foundL R T b f l) = true ∧ foundL R T b f l = ls := by
    unfold lostIn at hl
    by_cases q1 : (decide (f = l) || (!sightOk R b f || decide ((win R T b l).2 ≤ (win R T b f).1))) = true
    · rw [if_pos q1] at hl
      cases hl
    · rw [if_neg q1] at hl
      by_cases q2 : canLose T.loss.toNat (foundL R T b f l) = true
      · rw [if_pos q2] at hl
        exact ⟨q2, Option.some.inj hl⟩
      · rw [if_neg q2] at hl
        cases hl
  obtain ⟨hc1, hc2⟩ := hc
  have hls : ls = goneF R T b f l := by rw [← hc2, found_eq]
  have e1 : (worst R T b f l ls).length = (letters T).length := by
    unfold worst
    rw [List.length_map]
  have hmem : ∀ p ∈ worst R T b f l ls, p.1 ∈ letters T := fun p hp => by
    have : p.1 ∈ (worst R T b f l ls).map (·.1) := List.mem_map.mpr ⟨p, hp, rfl⟩
    rw [worst_keys] at this
    exact this
  have hst : ∀ x ∈ letters T, steps R T x (cAt (worst R T b f l ls) x) = true := fun x hx => by
    rw [worst_at hx]
    unfold steps
    have a1 : decide ((timesAl R T x (isLate R T b f l x) (manyOf R b ls x)).length ≤ R.boxes.length) = true := decide_eq_true (by rw [times_len h.1 (many_le hb)]; exact many_le hb)
    have lk : ∀ p ∈ along R x, 0 ≤ p.1 ∧ p.1 ≤ p.2 := fun p hp => ⟨(h.2 p (along_mem hp)).1, (h.2 p (along_mem hp)).2.1⟩
    have a2 : ((timesAl R T x (isLate R T b f l x) (manyOf R b ls x)).all fun t => decide (0 ≤ t)) = true := List.all_eq_true.mpr fun t htt => decide_eq_true (runs_nn _ _ _ (sent_nn ht hx) (fun p hp => lk p (List.mem_of_mem_take hp)) t htt)
    have a3 : stepsOk (sent T x) (timesAl R T x (isLate R T b f l x) (manyOf R b ls x)) (along R x) = true := runs_steps _ _ _ _ fun p hp => (lk p hp).2
    rw [a1, a2, a3]
    rfl
  unfold isCourse
  rw [decide_eq_true e1, worst_keys]
  have b1 : ((worst R T b f l ls).all fun p => decide (p.1 ∈ letters T)) = true := List.all_eq_true.mpr fun p hp => decide_eq_true (hmem p hp)
  have b2 : ((worst R T b f l ls).all fun p => steps R T p.1 (cAt (worst R T b f l ls) p.1)) = true := List.all_eq_true.mpr fun p hp => hst p.1 (hmem p hp)
  have b3 : ((letters T).filter fun x => decide ((cAt (worst R T b f l ls) x).length < R.boxes.length)) = ls := by
    have e : ((letters T).filter fun x => decide ((cAt (worst R T b f l ls) x).length < R.boxes.length)) = (letters T).filter fun x => decide (x ∈ ls) := by
      refine List.filter_congr fun x hx => ?_
      rw [worst_at hx, times_len h.1 (many_le hb)]
      unfold manyOf
      by_cases q : x ∈ ls
      · rw [if_pos q, decide_eq_true (place_lt hb), decide_eq_true q]
      · rw [if_neg q, decide_eq_false (Nat.lt_irrefl _), decide_eq_false q]
    rw [e, hls]
    unfold goneF
    exact filter_mem _
  rw [b1, b2, b3, ← hc2, hc1]
  rfl
/-- the time at the box -/
theorem worst_time {x : Lt} (h : RowOk R) (hb : b < R.boxes.length) (hx : x ∈ letters T) (hn : x ∉ ls) : (cAt (worst R T b f l ls) x).length = R.boxes.length ∧ (cAt (worst R T b f l ls) x)[place R x b]? = some (if isLate R T b f l x = true then (win R T b x).2 else (win R T b x).1) := by
  have hm : manyOf R b ls x = R.boxes.length := by
    unfold manyOf
    rw [if_neg hn]
  rw [worst_at hx, hm]
  refine ⟨times_len h (Nat.le_refl _), ?_⟩
  have ea : (along R x).take R.boxes.length = along R x := List.take_of_length_le (by rw [along_len h]; exact Nat.le_refl _)
  unfold timesAl
  rw [ea, runs_get _ _ _ _ (by rw [along_len h]; exact place_lt hb), along_take h hb]
  unfold win
  cases isLate R T b f l x <;> rfl
theorem mem_seen {c : Crs} {p : Int × Lt} : p ∈ seenL R T c b ↔ (p.2 ∈ letters T ∧ place R p.2 b < (cAt c p.2).length ∧ p.1 = ((cAt c p.2)[place R p.2 b]?).getD 0) := by
  obtain ⟨t, x⟩ := p
  unfold seenL
  constructor
  · intro h
    obtain ⟨q, hq, e⟩ := List.mem_map.mp h
    have hq2 := (srt3_perm _).mem_iff.mp hq
    obtain ⟨z, hz, ez⟩ := List.mem_map.mp hq2
    obtain ⟨hz1, hz2⟩ := List.mem_filter.mp hz
    subst ez
    injection e with e1 e2
    subst e1 e2
    exact ⟨List.fst_mem_of_mem_zipIdx hz1, of_decide_eq_true hz2, rfl⟩
  · rintro ⟨h1, h2, h3⟩
    obtain ⟨i, hi, ei⟩ := List.mem_iff_getElem.mp h1
    refine List.mem_map.mpr ⟨(t, i, x), (srt3_perm _).mem_iff.mpr (List.mem_map.mpr ⟨(x, i), List.mem_filter.mpr ⟨?_, decide_eq_true h2⟩, ?_⟩), rfl⟩
    · rw [List.mem_zipIdx_iff_getElem?, List.getElem?_eq_getElem hi, ei]
    · show _ = (t, i, x)
      have h3' : t = ((cAt c x)[place R x b]?).getD 0 := h3
      rw [h3']
theorem worst_gap (h : RowV R) (ht : TalkV T) (hb : b < R.boxes.length) (hf : f ∈ letters T) (hlm : l ∈ letters T) (hl : lostIn R T b f l = some ls) : (win R T b l).2 - (win R T b f).1 ≤ courseGap R T (worst R T b f l ls) b := by
  have hc : (decide (f = l) || (!sightOk R b f || decide ((win R T b l).2 ≤ (win R T b f).1))) = false ∧ foundL R T b f l = ls := by
    unfold lostIn at hl
    by_cases q1 : (decide (f = l) || (!sightOk R b f || decide ((win R T b l).2 ≤ (win R T b f).1))) = true
    · rw [if_pos q1] at hl
      cases hl
    · rw [if_neg q1] at hl
      by_cases q2 : canLose T.loss.toNat (foundL R T b f l) = true
      · rw [if_pos q2] at hl
        exact ⟨Bool.eq_false_iff.mpr q1, Option.some.inj hl⟩
      · rw [if_neg q2] at hl
        cases hl
  obtain ⟨hc1, hc2⟩ := hc
  have hls : ls = goneF R T b f l := by rw [← hc2, found_eq]
  have hfl : f ≠ l := fun q => by rw [decide_eq_true q] at hc1; cases hc1
  have hsf : sightOk R b f = true := by
    cases q : sightOk R b f with
    | true => rfl
    | false => simp [q] at hc1
  have hlt : (win R T b f).1 < (win R T b l).2 := by
    by_cases q : (win R T b l).2 ≤ (win R T b f).1
    · rw [decide_eq_true q, Bool.or_true, Bool.or_true] at hc1
      cases hc1
    · omega
  have in_ls : ∀ x, x ∈ ls ↔ (x ∈ letters T ∧ (x ≠ f ∧ x ≠ l) ∧ sightOk R b x = true ∧ (win R T b f).1 < (win R T b x).1 ∧ (win R T b x).2 < (win R T b l).2) := fun x => by
    rw [hls]
    unfold goneF
    simp only [List.mem_filter, Bool.and_eq_true, Bool.not_eq_true', decide_eq_false_iff_not, decide_eq_true_eq]
    constructor
    · rintro ⟨a, ⟨b1, b2⟩, c⟩
      exact ⟨a, b1, b2, c⟩
    · rintro ⟨a, b1, b2, c⟩
      exact ⟨a, ⟨b1, b2⟩, c⟩
  have fn : f ∉ ls := fun q => ((in_ls f).mp q).2.1.1 rfl
  have ln : l ∉ ls := fun q => ((in_ls l).mp q).2.1.2 rfl
  let c := worst R T b f l ls
  obtain ⟨fl1, fl2⟩ := worst_time (f := f) (l := l) h.1 hb hf fn
  obtain ⟨ll1, ll2⟩ := worst_time (f := f) (l := l) h.1 hb hlm ln
  have flate : isLate R T b f l f = false := by
    unfold isLate
    rw [decide_eq_true rfl]
    rfl
  have llate : isLate R T b f l l = true := by
    unfold isLate
    rw [decide_eq_false (Ne.symm hfl), decide_eq_true rfl]
    rfl
  rw [flate, if_neg Bool.false_ne_true] at fl2
  rw [llate, if_pos rfl] at ll2
  have fs : ((win R T b f).1, f) ∈ seenL R T c b := mem_seen.mpr ⟨hf, by show _ < (cAt (worst R T b f l ls) f).length; rw [fl1]; exact place_lt hb, by show _ = ((cAt (worst R T b f l ls) f)[place R f b]?).getD 0; rw [fl2]; rfl⟩
  have lsn : ((win R T b l).2, l) ∈ seenL R T c b := mem_seen.mpr ⟨hlm, by show _ < (cAt (worst R T b f l ls) l).length; rw [ll1]; exact place_lt hb, by show _ = ((cAt (worst R T b f l ls) l)[place R l b]?).getD 0; rw [ll2]; rfl⟩
  have hmem : (win R T b f).1 ∈ sightsB R b (seenL R T c b) (win R T b l).2 := List.mem_map.mpr ⟨_, List.mem_filter.mpr ⟨fs, by show (decide ((win R T b f).1 < (win R T b l).2) && sightOk R b f) = true; rw [decide_eq_true hlt, hsf]; rfl⟩, rfl⟩
  have hall : ∀ t ∈ sightsB R b (seenL R T c b) (win R T b l).2, t ≤ (win R T b f).1 := fun t htm => by
    obtain ⟨⟨t', x⟩, hp, e⟩ := List.mem_map.mp htm
    have e' : t' = t := e
    subst e'
    obtain ⟨hp1, hp2⟩ := List.mem_filter.mp hp
    obtain ⟨hp3, hp4⟩ := Bool.and_eq_true_iff.mp hp2
    have hlt2 : t' < (win R T b l).2 := of_decide_eq_true hp3
    have hsx : sightOk R b x = true := hp4
    obtain ⟨hx1, hx2, hx3⟩ := mem_seen.mp hp1
    have hx1' : x ∈ letters T := hx1
    have hx3' : t' = ((cAt c x)[place R x b]?).getD 0 := hx3
    have hx2' : place R x b < (cAt (worst R T b f l ls) x).length := hx2
    have xn : x ∉ ls := fun q => by
      rw [worst_at hx1', times_len h.1 (many_le hb)] at hx2'
      unfold manyOf at hx2'
      rw [if_pos q] at hx2'
      exact Nat.lt_irrefl _ hx2'
    obtain ⟨_, xt⟩ := worst_time (f := f) (l := l) h.1 hb hx1' xn
    have ex : t' = if isLate R T b f l x = true then (win R T b x).2 else (win R T b x).1 := by
      rw [hx3']
      show ((cAt (worst R T b f l ls) x)[place R x b]?).getD 0 = _
      rw [xt]
      rfl
    by_cases qf : x = f
    · rw [qf, flate, if_neg Bool.false_ne_true] at ex
      omega
    · by_cases ql : x = l
      · rw [ql, llate, if_pos rfl] at ex
        omega
      · by_cases qs : (win R T b f).1 < (win R T b x).1
        · have lx : isLate R T b f l x = true := by
            unfold isLate
            rw [decide_eq_false qf, decide_eq_true qs, Bool.or_true]
            rfl
          rw [lx, if_pos rfl] at ex
          exact absurd ((in_ls x).mpr ⟨hx1', ⟨qf, ql⟩, hsx, qs, by omega⟩) xn
        · have lx : isLate R T b f l x = false := by
            unfold isLate
            rw [decide_eq_false ql, decide_eq_false qs, Bool.or_false, Bool.and_false]
          rw [lx, if_neg Bool.false_ne_true] at ex
          omega
  have hq : quietB R b (seenL R T c b) (win R T b l).2 = some ((win R T b l).2 - (win R T b f).1) := by
    unfold quietB
    have ne : (sightsB R b (seenL R T c b) (win R T b l).2).isEmpty = false := by
      cases q : sightsB R b (seenL R T c b) (win R T b l).2 with
      | nil => rw [q] at hmem; cases hmem
      | cons _ _ => rfl
    rw [ne, if_neg Bool.false_ne_true, ← mxD_is hmem hall]
  unfold courseGap
  refine mxD_ge (List.mem_map.mpr ⟨some ((win R T b l).2 - (win R T b f).1), List.mem_filter.mpr ⟨?_, rfl⟩, rfl⟩)
  unfold quiets
  exact List.mem_map.mpr ⟨_, lsn, hq⟩
end
section
variable {R : RowR} {T : TalkR}
theorem paper_ok (h : RowOk R) (ht : TalkOk T) (hl : LowOk R) : PprOk (paperOf R T) := by
  unfold paperOf
  cases q : (List.range R.boxes.length).find? fun b => decide (lowAt R b ≤ gapOf R T b) with
  | none =>
    show (gapsOf R T).length ≤ 100
    unfold gapsOf
    rw [List.length_map, List.length_range]
    have := h.2.2
    omega
  | some b =>
    show CrsOk (worstOf R T b)
    have hb := List.mem_range.mp (List.mem_of_find?_eq_some q)
    unfold worstOf
    cases endsOf R T b with
    | none => exact ⟨List.nodup_nil, Nat.zero_le _, fun p hp => by cases hp⟩
    | some p => exact worst_crs h ht hb
/-- the own paper is taken -/
theorem own_ok (h : RowV R) (ht : TalkV T) (hl : LowOk R) : acc R T (paperOf R T) = true := by
  unfold paperOf
  cases q : (List.range R.boxes.length).find? fun b => decide (lowAt R b ≤ gapOf R T b) with
  | none =>
    rw [List.find?_range_eq_none] at q
    show (decide ((gapsOf R T).length = R.boxes.length) && (gapsOf R T).zipIdx.all fun p => accGap R T p.2 p.1) = true
    have hlen : (gapsOf R T).length = R.boxes.length := by
      unfold gapsOf
      rw [List.length_map, List.length_range]
    rw [decide_eq_true hlen, Bool.true_and, all_zipIdx (P := fun v k => accGap R T k v) hlen, List.all_eq_true]
    intro k hk
    have hk2 := List.mem_range.mp hk
    have e : ((gapsOf R T)[k]?).getD 0 = gapOf R T k := by
      rw [List.getElem?_eq_getElem (by rw [hlen]; exact hk2)]
      show (gapsOf R T)[k] = _
      unfold gapsOf
      rw [List.getElem_map, List.getElem_range]
    rw [e, Nat.zero_add, accGap_eq, decide_eq_false (Int.lt_irrefl _)]
    have := q k hk2
    simpa using this
  | some b =>
    have hb := List.mem_range.mp (List.mem_of_find?_eq_some q)
    have hc0 := List.find?_some q
    have hc : lowAt R b ≤ gapOf R T b := of_decide_eq_true hc0
    have hlow : 1 ≤ lowAt R b := by
      rw [lowAt_eq hb]
      exact hl _ (List.getElem_mem hb)
    obtain ⟨f, l, ls, e1, hf, hlm, e2, e3⟩ := gap_ends (R := R) (T := T) (b := b) (by omega)
    have ew : worstOf R T b = worst R T b f l ls := by
      unfold worstOf
      rw [e1]
      show worst R T b f l ((lostIn R T b f l).getD []) = _
      rw [e2]
      rfl
    show accBroken R T b (worstOf R T b) = true
    unfold accBroken
    have g := worst_gap h ht hb hf hlm e2
    rw [ew, decide_eq_true hb, worst_course h ht hb e2, decide_eq_true (show lowAt R b ≤ courseGap R T (worst R T b f l ls) b by omega)]
    rfl
end
end Q
/-! Quietdoors: the defs one by one (6): boxes, rows and talks are made. -/
namespace Q
open PySem PySem.Spec PyProof.Rows L2
section
variable {P : Program} {w : World} {K : PySem.W.Frag} {mg : Str → Option Value} {base : Heap}
def r_is_part_value : List D → D → Prop := fun ds r => ∃ (p : Str) (v : D), ds = [.str p, v] ∧ r = .bl true ∧ ((p = "sees" ∧ (v = .str "out" ∨ v = .str "both")) ∨ (p ≠ "sees" ∧ ∃ i : Int, v = .int i ∧ (if p = "rest" then 0 else 1) ≤ i ∧ i ≤ 10000)) ∧ True
theorem C_is_part_value (T : Tx K mg) : Cal P w K mg base "is_part_value" 3 ["part", "value"] (SpR K r_is_part_value) := by
  have S : FnScope ["part", "value"] ["part", "value"] (defScope (top 16)) := ⟨rfl, rfl, rfl, by decide +kernel, rfl, by decide +kernel, by decide +kernel⟩
  refine cal_of T (i := 16) (by decide +kernel) (fun fd F => fn_hs F S (fun ds r q => ?_) fun cdv A outer s H E hr => ⟨_, (pss_cons (ps_if (pt_cmpR op_eq (pv 0) pe_str (nomark _)) (pss_one (ps_ret (pe_and (pe_callB call_isi (by rfl) (T.fr "isinstance" (by decide +kernel)) (by decide +kernel) (pa_cons (pv 1) (pa_cons (pe_bltn (v := .ty "str") (by rfl) (T.fr "str" (by decide +kernel)) (by decide +kernel) rfl) pa_nil))) (pe_one (pe_cmpR op_in_seq (pv 1) (pe_tup (pa_cons pe_str (pa_cons pe_str pa_nil))) (by rfl)))))) pss_nil)
  (pss_one (ps_ret (pe_cal (C_is_between T) (hr.mono (by decide)) (by rfl) (pa_cons (pv 1) (pa_cons (pe_ifExp (pt_cmpR op_eq (pv 0) pe_str (nomark _)) pe_int pe_int) (pa_cons (pe_glob (v := .int 10000) rfl T.mMOST_TIME.choose_spec ⟨_, rfl⟩) pa_nil))))))), fun ds r q => ?_⟩) (fun _ _ _ _ _ _ us hl => match us, hl with | [_, _], _ => rfl)
  · obtain ⟨_, _, rfl, _⟩ := q
    rfl
  · obtain ⟨p, v, rfl, rfl, h1, _⟩ := q
    rcases h1 with ⟨e, hv⟩ | ⟨e, i, ev, h1, h2⟩
    · have hs : ∃ s : Str, v = .str s ∧ (decide (s = "out") || decide (s = "both")) = true := by
        rcases hv with q | q
        · exact ⟨_, q, by rw [decide_eq_true rfl]; rfl⟩
        · exact ⟨_, q, by rw [decide_eq_true (p := ("both" : Str) = "both") rfl, Bool.or_true]⟩
      obtain ⟨s, ev, hs⟩ := hs
      subst ev
      exact ⟨[], hs_seq (hs_if (chi := False) (Γ' := []) (b := true) (HT.to (ht_test (he_op (he_var rfl) he_str rr_eqS)) (decide_eq_true e)) (fun _ => hs_ret (HE.to (he_and (he_isi (he_var rfl) (b := true) rfl rfl) fun _ => he_op (he_var rfl) (he_tup2 he_str he_str) rr_inS) (by rw [hs]; rfl))) (fun q => nomatch q)) fun f => f.elim⟩
    · subst ev
      refine ⟨[], hs_seq (hs_guard (b := false) (HT.to (ht_test (he_op (he_var rfl) he_str rr_eqS)) (decide_eq_false e)) rfl) fun _ => hs_ret (HE.to (he_call (ha_cons (he_var rfl) (ha2 (he_if (z := .int (if p = "rest" then 0 else 1)) (b := decide (p = "rest")) (ht_test (he_op (he_var rfl) he_str rr_eqS)) (fun q => he_int.to ?_) (fun q => he_int.to ?_)) he_int)) ⟨_, _, _, rfl, rfl, trivial⟩) ?_)⟩
      · rw [if_pos (of_decide_eq_true q)]
      · rw [if_neg (of_decide_eq_false q)]
      · rw [decide_eq_true h1, decide_eq_true h2]
        rfl

def r_is_link : List D → D → Prop := fun ds r => ∃ (p : Int × Int), ds = [prD p] ∧ r = .bl true ∧ (LinkOk p) ∧ True
theorem C_is_link (T : Tx K mg) : Cal P w K mg base "is_link" 3 ["value"] (SpR K r_is_link) := by
  have S : FnScope ["value"] ["value"] (defScope (top 48)) := ⟨rfl, rfl, rfl, by decide +kernel, rfl, by decide +kernel, by decide +kernel⟩
  refine cal_of T (i := 48) (by decide +kernel) (fun fd F => fn_hs F S (fun ds r q => ?_) fun cdv A outer s H E hr => ⟨_, (pss_cons (ps_if (PW.pt (pw_or (pt_not (pt_val (pe_callB call_isi (by rfl) (T.fr "isinstance" (by decide +kernel)) (by decide +kernel) (pa_cons (pv 0) (pa_cons (pe_bltn (v := .ty "tuple") (by rfl) (T.fr "tuple" (by decide +kernel)) (by decide +kernel) rfl) pa_nil))))) (pw_or (pt_cmpR op_ne (pe_callB call_len (by rfl) (T.fr "len" (by decide +kernel)) (by decide +kernel) (pa_cons (pv 0) pa_nil)) pe_int (nomark _)) (pw_or1 (pt_not (pt_val (pe_cal (C_is_between T) (hr.mono (by decide)) (by rfl) (pa_cons (pe_ix ix_tup (pv 0) pe_int (fun _ _ => rfl)) (pa_cons pe_int (pa_cons (pe_glob (v := .int 1000) rfl T.mMOST_LINK.choose_spec ⟨_, rfl⟩) pa_nil)))))))))) (pss_one (ps_ret pe_bl)) pss_nil)
  (pss_one (ps_ret (pe_cal (C_is_between T) (hr.mono (by decide)) (by rfl) (pa_cons (pe_ix ix_tup (pv 0) pe_int (fun _ _ => rfl)) (pa_cons (pe_ix ix_tup (pv 0) pe_int (fun _ _ => rfl)) (pa_cons (pe_glob (v := .int 1000) rfl T.mMOST_LINK.choose_spec ⟨_, rfl⟩) pa_nil))))))), fun ds r q => ?_⟩) (fun _ _ _ _ _ _ us hl => match us, hl with | [_], _ => rfl)
  · obtain ⟨_, rfl, _⟩ := q
    rfl
  · obtain ⟨p, rfl, rfl, h1, _⟩ := q
    obtain ⟨a1, a2, a3⟩ := h1
    refine ⟨[], hs_seq (hs_guard (b := false) (HT.to (ht_or (ht_not (ht_B (he_isi (he_var rfl) (b := true) rfl rfl))) fun _ => ht_or (HT.to (ht_test (he_op (he_cb (ha1 (he_var rfl)) (rc_lenT (ds := [.int p.1, .int p.2]))) he_int rr_neI)) (b := false) rfl) fun _ => ht_not (ht_B (he_call (ha_cons (he_fst (he_var rfl)) (ha2 he_int he_int)) ⟨_, _, _, rfl, rfl, trivial⟩))) ?_) rfl) fun _ => hs_ret (HE.to (he_call (ha_cons (he_snd (he_var rfl)) (ha2 (he_fst (he_var rfl)) he_int)) ⟨_, _, _, rfl, rfl, trivial⟩) ?_)⟩
    · rw [decide_eq_true a1, decide_eq_true (show p.1 ≤ 1000 by omega)]
      rfl
    · rw [decide_eq_true a2, decide_eq_true a3]
      rfl

def r_are_boxes : List D → D → Prop := fun ds r => ∃ (bs : List BoxR), ds = [.lst (bs.map .box)] ∧ r = .bl true ∧ (1 ≤ bs.length) ∧ (bs.length ≤ 4) ∧ True
theorem C_are_boxes (T : Tx K mg) : Cal P w K mg base "are_boxes" 1 ["value"] (SpR K r_are_boxes) := by
  have S : FnScope ["value", "box"] ["value"] (defScope (top 49)) := ⟨rfl, rfl, rfl, by decide +kernel, rfl, by decide +kernel, by decide +kernel⟩
  refine cal_of T (i := 49) (by decide +kernel) (fun fd F => fn_hs F S (fun ds r q => ?_) fun cdv A outer s H E hr => ⟨_, (pss_cons (ps_if (PW.pt (pw_or (pt_not (pt_val (pe_callB call_isiT (by rfl) (T.fr "isinstance" (by decide +kernel)) (by decide +kernel) (pa_cons (pv 0) (pa_cons (pe_tup (pa_cons (pe_bltn (v := .ty "list") (by rfl) (T.fr "list" (by decide +kernel)) (by decide +kernel) rfl) (pa_cons (pe_bltn (v := .ty "tuple") (by rfl) (T.fr "tuple" (by decide +kernel)) (by decide +kernel) rfl) pa_nil))) pa_nil))))) (pw_or1 (pt_not (pt_chain op_le op_le pe_int (pe_callB call_len (by rfl) (T.fr "len" (by decide +kernel)) (by decide +kernel) (pa_cons (pv 0) pa_nil)) (pe_glob (v := .int 4) rfl T.mMOST_BOXES.choose_spec ⟨_, rfl⟩)))))) (pss_one (ps_ret pe_bl)) pss_nil)
  (pss_one (ps_ret (pe_callB (cr_all rfl) (by rfl) (T.fr "all" (by decide +kernel)) (by decide +kernel) (pa_cons (pe_frz (pe_lc (own := [("box", 1)]) (g := (gName 1)) (tt := tYes) (te := (tCB (fun xs H Q => ∃ a dx fs, xs = [V.ref a, V.ref (He.ga K "Box")] ∧ H a = some (.ins (He.ga K "Box") dx fs) ∧ Q (.bl true) H) (tCons (tVar 1) (tCons (tC (.ref (He.ga K "Box"))) tNil)))) (by rfl) S.nd (pi_list (pv 0)) (blkOk_by (N := ["value", "box"]) (sc := defScope (top 49)) (by decide +kernel)) (fun _ _ _ _ _ => (pg_name (i := 1) S.nd rfl (Or.inl rfl))) (fun _ _ _ _ _ => pts_nil) (fun _ _ _ _ _ => (pe_callB (C8.call_isC T.iBox) (by rfl) (T.fr "isinstance" (by decide +kernel)) (by decide +kernel) (pa_cons (pv 1) (pa_cons (pe_glob (v := .ref _) rfl T.gBox rfl) pa_nil)))))) pa_nil))))), fun ds r q => ?_⟩) (fun _ _ _ _ _ _ us hl => match us, hl with | [_], _ => rfl)
  · obtain ⟨_, rfl, _⟩ := q
    rfl
  · obtain ⟨bs, rfl, rfl, h1, h2, _⟩ := q
    refine ⟨[], hs_seq (hs_guard (b := false) (HT.to (ht_or (ht_not (ht_B (he_cb (ha2 (he_var rfl) (he_tup2 he_ty he_ty)) (rc_isLT rfl (.inl rfl))))) fun _ => ht_not (ht_test (he_chain he_int (he_lenL (he_var rfl)) rr_le he_int rr_le))) ?_) rfl) fun _ => hs_ret (HE.to (he_all (xs := bs) (f := fun _ => true) (hl_lcY bs D.box (fun _ => .bl true) (hi_list (he_var rfl)) (by omega) fun B hB => ⟨_, _, hg_name, by decide, he_isC rfl (he_var rfl)⟩)) ?_)⟩
    · rw [decide_eq_true (show (1 : Int) ≤ (bs.length : Int) by omega), decide_eq_true (show (bs.length : Int) ≤ 4 by omega)]
      rfl
    · rw [List.all_eq_true.mpr fun _ _ => rfl]

def r_are_links : List D → D → Prop := fun ds r => ∃ (ls : List (Int × Int)) (m : Int), ds = [.lst (ls.map prD), .int m] ∧ r = .bl true ∧ ((ls.length : Int) = m) ∧ (ls.length ≤ 5) ∧ (∀ p ∈ ls, LinkOk p) ∧ True
theorem C_are_links (T : Tx K mg) : Cal P w K mg base "are_links" 4 ["value", "many"] (SpR K r_are_links) := by
  have S : FnScope ["value", "many", "link"] ["value", "many"] (defScope (top 50)) := ⟨rfl, rfl, rfl, by decide +kernel, rfl, by decide +kernel, by decide +kernel⟩
  refine cal_of T (i := 50) (by decide +kernel) (fun fd F => fn_hs F S (fun ds r q => ?_) fun cdv A outer s H E hr => ⟨_, (pss_one (ps_ret (pe_and (pe_callB call_isiT (by rfl) (T.fr "isinstance" (by decide +kernel)) (by decide +kernel) (pa_cons (pv 0) (pa_cons (pe_tup (pa_cons (pe_bltn (v := .ty "list") (by rfl) (T.fr "list" (by decide +kernel)) (by decide +kernel) rfl) (pa_cons (pe_bltn (v := .ty "tuple") (by rfl) (T.fr "tuple" (by decide +kernel)) (by decide +kernel) rfl) pa_nil))) pa_nil))) (pe_and (pe_cmpR op_eq (pe_callB call_len (by rfl) (T.fr "len" (by decide +kernel)) (by decide +kernel) (pa_cons (pv 0) pa_nil)) (pv 1) (nomark _)) (pe_one (pe_callB (cr_all rfl) (by rfl) (T.fr "all" (by decide +kernel)) (by decide +kernel) (pa_cons (pe_frz (pe_lc (own := [("link", 2)]) (g := (gName 2)) (tt := tYes) (te := (tCall (SpR K r_is_link) [] L2.E0 (tCons (tVar 2) tNil))) (by rfl) S.nd (pi_list (pv 0)) (blkOk_by (N := ["value", "many", "link"]) (sc := defScope (top 50)) (by decide +kernel)) (fun _ _ _ _ _ => (pg_name (i := 2) S.nd rfl (Or.inl rfl))) (fun _ _ _ _ _ => pts_nil) (fun _ _ _ _ _ => (pe_cal (C_is_link T) (hr.mono (by decide)) (by rfl) (pa_cons (pv 2) pa_nil))))) pa_nil))))))), fun ds r q => ?_⟩) (fun _ _ _ _ _ _ us hl => match us, hl with | [_, _], _ => rfl)
  · obtain ⟨_, _, rfl, _⟩ := q
    rfl
  · obtain ⟨ls, m, rfl, rfl, h1, h2, h3, _⟩ := q
    refine ⟨[], hs_ret (HE.to (he_and (he_cb (ha2 (he_var rfl) (he_tup2 he_ty he_ty)) (rc_isLT rfl (.inl rfl))) fun _ => he_and (he_op (he_lenL (he_var rfl)) (he_var rfl) rr_eqI) fun _ => he_all (xs := ls) (f := fun _ => true) (hl_lcY ls prD (fun _ => .bl true) (hi_list (he_var rfl)) (by omega) fun p hp => ⟨_, _, hg_name, by decide, he_call (ha1 (he_var rfl)) ⟨p, rfl, rfl, h3 p hp, trivial⟩⟩)) ?_)⟩
    rw [decide_eq_true h1, List.all_eq_true.mpr fun _ _ => rfl]
    rfl

def r_are_times : List D → D → Prop := fun ds r => ∃ (ts : List Int) (m : Int), ds = [.lst (ts.map .int), .int m] ∧ r = .bl true ∧ (m ≤ (ts.length : Int)) ∧ (TimesOk ts) ∧ True
theorem C_are_times (T : Tx K mg) : Cal P w K mg base "are_times" 3 ["value", "least"] (SpR K r_are_times) := by
  have S : FnScope ["value", "least", "time", "one", "other"] ["value", "least"] (defScope (top 56)) := ⟨rfl, rfl, rfl, by decide +kernel, rfl, by decide +kernel, by decide +kernel⟩
  refine cal_of T (i := 56) (by decide +kernel) (fun fd F => fn_hs F S (fun ds r q => ?_) fun cdv A outer s H E hr => ⟨_, (pss_cons (ps_if (PW.pt (pw_or (pt_not (pt_val (pe_callB call_isiT (by rfl) (T.fr "isinstance" (by decide +kernel)) (by decide +kernel) (pa_cons (pv 0) (pa_cons (pe_tup (pa_cons (pe_bltn (v := .ty "list") (by rfl) (T.fr "list" (by decide +kernel)) (by decide +kernel) rfl) (pa_cons (pe_bltn (v := .ty "tuple") (by rfl) (T.fr "tuple" (by decide +kernel)) (by decide +kernel) rfl) pa_nil))) pa_nil))))) (pw_or1 (pt_not (pt_chain op_le op_le (pv 1) (pe_callB call_len (by rfl) (T.fr "len" (by decide +kernel)) (by decide +kernel) (pa_cons (pv 0) pa_nil)) (pe_glob (v := .int 60) rfl T.mMOST_TIMES.choose_spec ⟨_, rfl⟩)))))) (pss_one (ps_ret pe_bl)) pss_nil)
  (pss_cons (ps_if (pt_not (pt_val (pe_callB (cr_all rfl) (by rfl) (T.fr "all" (by decide +kernel)) (by decide +kernel) (pa_cons (pe_frz (pe_lc (own := [("time", 2)]) (g := (gName 2)) (tt := tYes) (te := (tCall (SpR K r_is_between) [] L2.E0 (tCons (tVar 2) (tCons (tC (.int 0)) (tCons (tC (.int 10000)) tNil))))) (by rfl) S.nd (pi_list (pv 0)) (blkOk_by (N := ["value", "least", "time", "one", "other"]) (sc := defScope (top 56)) (by decide +kernel)) (fun _ _ _ _ _ => (pg_name (i := 2) S.nd rfl (Or.inl rfl))) (fun _ _ _ _ _ => pts_nil) (fun _ _ _ _ _ => (pe_cal (C_is_between T) (hr.mono (by decide)) (by rfl) (pa_cons (pv 2) (pa_cons pe_int (pa_cons (pe_glob (v := .int 10000) rfl T.mMOST_TIME.choose_spec ⟨_, rfl⟩) pa_nil))))))) pa_nil)))) (pss_one (ps_ret pe_bl)) pss_nil)
  (pss_one (ps_ret (pe_callB (cr_all rfl) (by rfl) (T.fr "all" (by decide +kernel)) (by decide +kernel) (pa_cons (pe_frz (pe_lc (own := [("one", 3), ("other", 4)]) (g := (gTup K 2 (gCons (gName 3) (gCons (gName 4) gNil)))) (tt := tYes) (te := (tOp (rI0 fun i j => .bl (decide (i < j))) (tVar 3) (tVar 4))) (by rfl) S.nd (RZ.pi_zipA (by rfl) (T.fr "zip" (by decide +kernel)) (pa_cons (pv 0) (pa_cons (pe_frz (pe_slice sl_list (pv 0) (po_some pe_int) po_none)) pa_nil))) (blkOk_by (N := ["value", "least", "time", "one", "other"]) (sc := defScope (top 56)) (by decide +kernel)) (fun _ _ _ _ _ => (pg_tup (by rfl) (pgs_cons (pg_name (i := 3) S.nd rfl (Or.inl rfl)) (pgs_cons (pg_name (i := 4) S.nd rfl (Or.inl rfl)) pgs_nil)))) (fun _ _ _ _ _ => pts_nil) (fun _ _ _ _ _ => (pe_cmpR op_lt (pv 3) (pv 4) (nomark _))))) pa_nil)))))), fun ds r q => ?_⟩) (fun _ _ _ _ _ _ us hl => match us, hl with | [_, _], _ => rfl)
  · obtain ⟨_, _, rfl, _⟩ := q
    rfl
  · obtain ⟨ts, m, rfl, rfl, h1, h2, _⟩ := q
    obtain ⟨a1, a2, a3⟩ := h2
    refine ⟨[], hs_seq (hs_guard (b := false) (HT.to (ht_or (ht_not (ht_B (he_cb (ha2 (he_var rfl) (he_tup2 he_ty he_ty)) (rc_isLT rfl (.inl rfl))))) fun _ => ht_not (ht_test (he_chain (he_var rfl) (he_lenL (he_var rfl)) rr_le he_int rr_le))) ?_) rfl) fun _ => hs_seq (hs_guard (b := false) (HT.to (ht_not (ht_B (he_all (xs := ts) (f := fun _ => true) (hl_lcY ts D.int (fun _ => .bl true) (hi_list (he_var rfl)) (by omega) fun t ht => ⟨_, _, hg_name, by decide, HE.to (he_call (ha_cons (he_var rfl) (ha2 he_int he_int)) ⟨_, _, _, rfl, rfl, trivial⟩) ?_⟩)))) ?_) rfl) fun _ =>
      hs_ret (HE.to (he_all (xs := ts.zip (ts.drop 1)) (f := fun _ => true) (hl_lcY (ts.zip (ts.drop 1)) (ziD D.int D.int) (fun _ => .bl true) (hi_zipL (he_var rfl) (HE.to (he_frz (hl_slL (he_var rfl) (ho_some he_int) ho_none)) ?_)) ?_ fun p hp => ⟨_, _, hg_tup (hgs_cons hg_name (hgs_cons hg_name hgs_nil)) rfl, by decide, HE.to (he_op (he_var rfl) (he_var rfl) rr_lt) ?_⟩)) ?_)⟩
    · rw [decide_eq_true h1, decide_eq_true (show (ts.length : Int) ≤ 60 by omega)]
      rfl
    · rw [decide_eq_true (a2 t ht).1, decide_eq_true (a2 t ht).2]
      rfl
    · rw [List.all_eq_true.mpr fun _ _ => rfl]
      rfl
    · by_cases q : 1 ≤ ts.length
      · exact congrArg D.lst (cutD_from 1 rfl q)
      · have e : ts = [] := List.length_eq_zero_iff.mp (by omega)
        rw [e]
        rfl
    · rw [List.length_zip]
      omega
    · exact congrArg D.bl (decide_eq_true (a3 p hp))
    · rw [List.all_eq_true.mpr fun _ _ => rfl]

end
end Q
/-! Quietdoors: boxes, rows, talks are made. -/
namespace Q
open PySem PySem.Spec PyProof.Rows L2
/-- all but the object at a stays -/
def ExB (a : Addr) (H H' : Hp) : Prop := ∀ b o, b ≠ a → H b = some o → H' b = some o
section
variable {K : PySem.W.Frag} {H : Hp} {a : Addr} {Γ : List En} {tv : TE} {d : D}
theorem no_im0 {C dx : Addr} : ¬ Im (.ins C dx []) := fun h => by
  rcases h with h | h | h <;> exact absurd h (by decide)
theorem no_im1 {C dx : Addr} {v : V} : ¬ Im (.ins C dx [(("kept_boxes" : Str), v)]) := fun h => by
  rcases h with h | h | h
  · rw [lookup_skip (by decide +kernel)] at h
    exact absurd h (by decide)
  · rw [lookup_skip (by decide +kernel)] at h
    exact absurd h (by decide)
  · rw [lookup_skip (by decide +kernel)] at h
    exact absurd h (by decide)
theorem no_im2 {C dx : Addr} {v : V} : ¬ Im (.ins C dx [(("kept_out" : Str), v)]) := fun h => by
  rcases h with h | h | h
  · rw [lookup_skip (by decide +kernel)] at h
    exact absurd h (by decide)
  · rw [lookup_skip (by decide +kernel)] at h
    exact absurd h (by decide)
  · rw [lookup_skip (by decide +kernel)] at h
    exact absurd h (by decide)
theorem no_im3 {C dx : Addr} {v u : V} : ¬ Im (.ins C dx [(("kept_out" : Str), v), (("kept_back" : Str), u)]) := fun h => by
  rcases h with h | h | h
  · rw [lookup_skip (by decide +kernel), lookup_skip (by decide +kernel)] at h
    exact absurd h (by decide)
  · rw [lookup_skip (by decide +kernel), lookup_skip (by decide +kernel)] at h
    exact absurd h (by decide)
  · rw [lookup_skip (by decide +kernel), lookup_skip (by decide +kernel)] at h
    exact absurd h (by decide)
/-- self.f = e while self is being made -/
theorem st_fld {C dx : Addr} {f : Str} {fs : List (Str × V)} {H0 : Hp} {σ : L2.St} {E : Ends} (F : Cls K C) (n : NoAttr K C f) (hΓ : Γ[0]? = some (.da (.adr a))) (hn : noOwn Γ = true) (hv : HE K Γ tv d) (him : ¬ Im (.ins C dx fs)) (hl : fs.length < 1000) (s : Sat K H0 H Γ σ) (ha : H a = some (.ins C dx fs))
    (k : ∀ v H', ExB a H H' → ExI H H' → H' a = some (.ins C dx (putF f v fs)) → Is K H' v d → Sat K H0 H' Γ σ → E.nx σ H') : sFld K (tVar 0) tv f E σ H :=
  hv H0 σ H s _ fun v H1 e1 i1 => by
    obtain ⟨o, h1, u, h2, h3⟩ := (s.ex e1).get hΓ
    subst h2
    cases h3
    have x2 : ExI H1 (upd H1 a (.ins C dx (putF f v fs))) := ExI.upd (e1 _ _ ha) him
    refine ⟨.ref a, h1, a, C, dx, fs, rfl, e1 _ _ ha, F, n, hl, ?_⟩
    exact k v _ (fun b o hb hh => by rw [upd_ne hb]; exact e1 _ _ hh) (e1.i.trans x2) upd_same (i1.mono x2) (Sat.exi hn (s.ex e1) x2)
end
def spRow (K : PySem.W.Frag) : Sp := fun vs H Q _ => ∃ a dx vb vl R, vs = [.ref a, vb, vl] ∧ H a = some (.ins (He.ga K "Row") dx []) ∧ Is K H vb (.lst (R.boxes.map .box)) ∧ Is K H vl (.lst (R.links.map prD)) ∧ RowV R ∧ ∀ H', ExB a H H' → Is K H' (.ref a) (.row R) → Q .non H'
def spTalk (K : PySem.W.Frag) : Sp := fun vs H Q _ => ∃ a dx vo vb T, vs = [.ref a, vo, vb, .int T.loss] ∧ H a = some (.ins (He.ga K "Talk") dx []) ∧ Is K H vo (.lst (T.out.map .int)) ∧ Is K H vb (.lst (T.back.map .int)) ∧ TalkV T ∧ ∀ H', ExB a H H' → Is K H' (.ref a) (.talk T) → Q .non H'
def spBox (K : PySem.W.Frag) : Sp := fun vs H Q _ => ∃ a dx B, vs = [.ref a, .int B.low, .int B.high, .int B.rest, .str B.sees] ∧ H a = some (.ins (He.ga K "Box") dx []) ∧ BoxOk B ∧ ∀ H', ExB a H H' → Is K H' (.ref a) (.box B) → Q .non H'
section
variable {P : Program} {w : World} {K : PySem.W.Frag} {mg : Str → Option Value} {base : Heap}
theorem F_Row (T : Tx K mg) {fd : FuncData} (F : FunD K "__init__" "Row.__init__" (defArgs (inClass (top 52) 0)) (defBody (inClass (top 52) 0)) (defScope (inClass (top 52) 0)) [] [] (He.ma K (He.ga K "Row") "__init__") fd) : FnOk P w K mg base L2.CX0 5 (He.ma K (He.ga K "Row") "__init__") fd ["self", "boxes", "links"] (spRow K) := by
  have S : FnScope ["self", "boxes", "links"] ["self", "boxes", "links"] (defScope (inClass (top 52) 0)) := ⟨rfl, rfl, rfl, by decide +kernel, rfl, by decide +kernel, by decide +kernel⟩
  refine F.ok S (fun vs H Q E q => ?_) (fun cdv A outer s H vs Q E hr q => ⟨_, PSs.nox (pss_cons (ps_if (pt_not (pt_val (pe_cal (C_are_boxes T) (hr.mono (by decide)) (by rfl) (pa_cons (pv 1) pa_nil)))) (pss_one ps_never) pss_nil)
  (pss_cons (ps_if (pt_not (pt_val (pe_cal (C_are_links T) (hr.mono (by decide)) (by rfl) (pa_cons (pv 2) (pa_cons (pe_op op_add (pe_callB call_len (by rfl) (T.fr "len" (by decide +kernel)) (by decide +kernel) (pa_cons (pv 1) pa_nil)) pe_int) pa_nil))))) (pss_one ps_never) pss_nil)
  (pss_cons (ps_fld (pv 0) (pe_callTy call_tuple_of (by rfl) (T.fr "tuple" (by decide +kernel)) (by decide +kernel) (pa_cons (pv 1) pa_nil)) rfl)
  (pss_one (ps_fld (pv 0) (pe_callTy call_tuple_of (by rfl) (T.fr "tuple" (by decide +kernel)) (by decide +kernel) (pa_cons (pv 2) pa_nil)) rfl))))), ?_⟩)
  · obtain ⟨_, _, _, _, _, rfl, _⟩ := q
    rfl
  · obtain ⟨a, dx, vb, vl, R, rfl, ha, hb, hl, hv, q⟩ := q
    obtain ⟨⟨r1, r2, r3⟩, r4⟩ := hv
    have sat := sat0 (K := K) (H0 := H) (H := H) ["self", "boxes", "links"] (.cons (.adr a) (.cons hb (.cons hl .nil)))
    refine hs_guard (r := .nev) (ht_not (ht_B (he_call (ha1 (he_var rfl)) ⟨R.boxes, rfl, rfl, r2, r3, trivial⟩))) rfl H _ H _ (Ex.refl H) sat (fun v H' _ i => nomatch i) fun _ σ1 H1 e1 x1 s1 => ?_
    refine hs_guard (r := .nev) (ht_not (ht_B (he_call (ha2 (he_var rfl) (he_op (he_lenL (he_var rfl)) he_int rr_add)) ⟨R.links, _, rfl, rfl, by omega, by omega, r4, trivial⟩))) rfl H _ H1 _ e1 s1 (fun v H' _ i => nomatch i) fun _ σ2 H2 e2 x2 s2 => ?_
    refine st_fld T.cRow T.fz.rB rfl rfl (he_cb (ha1 (he_var rfl)) rc_tup) no_im0 (Nat.le_of_ble_eq_true rfl) s2 (e2 _ _ ha) fun v H3 k3 x3 ha3 i3 s3 => ?_
    refine st_fld T.cRow T.fz.rL rfl rfl (he_cb (ha1 (he_var rfl)) rc_tup) no_im1 (Nat.le_of_ble_eq_true rfl) s3 ha3 fun u H4 k4 x4 ha4 i4 s4 => ?_
    exact q H4 (fun b o hb hh => k4 b o hb (k3 b o hb (e2 b o hh))) (.row ha4 (i3.mono x4) i4)
theorem F_Talk (T : Tx K mg) {dvs : List V} {fd : FuncData} (F : FunD K "__init__" "Talk.__init__" (defArgs (inClass (top 58) 0)) (defBody (inClass (top 58) 0)) (defScope (inClass (top 58) 0)) dvs [] (He.ma K (He.ga K "Talk") "__init__") fd) : FnOk P w K mg base L2.CX0 4 (He.ma K (He.ga K "Talk") "__init__") fd ["self", "out", "back", "losses"] (spTalk K) := by
  have S : FnScope ["self", "out", "back", "losses"] ["self", "out", "back", "losses"] (defScope (inClass (top 58) 0)) := ⟨rfl, rfl, rfl, by decide +kernel, rfl, by decide +kernel, by decide +kernel⟩
  refine F.ok S (fun vs H Q E q => ?_) (fun cdv A outer s H vs Q E hr q => ⟨_, PSs.nox (pss_cons (ps_if (pt_not (pt_val (pe_cal (C_are_times T) (hr.mono (by decide)) (by rfl) (pa_cons (pv 1) (pa_cons pe_int pa_nil))))) (pss_one ps_never) pss_nil)
  (pss_cons (ps_if (pt_not (pt_val (pe_cal (C_are_times T) (hr.mono (by decide)) (by rfl) (pa_cons (pv 2) (pa_cons pe_int pa_nil))))) (pss_one ps_never) pss_nil)
  (pss_cons (ps_if (pt_not (pt_val (pe_cal (C_is_between T) (hr.mono (by decide)) (by rfl) (pa_cons (pv 3) (pa_cons pe_int (pa_cons (pe_glob (v := .int 5) rfl T.mMOST_LOSSES.choose_spec ⟨_, rfl⟩) pa_nil)))))) (pss_one ps_never) pss_nil)
  (pss_cons (ps_fld (pv 0) (pe_callTy call_tuple_of (by rfl) (T.fr "tuple" (by decide +kernel)) (by decide +kernel) (pa_cons (pv 1) pa_nil)) rfl)
  (pss_cons (ps_fld (pv 0) (pe_callTy call_tuple_of (by rfl) (T.fr "tuple" (by decide +kernel)) (by decide +kernel) (pa_cons (pv 2) pa_nil)) rfl)
  (pss_one (ps_fld (pv 0) (pv 3) rfl))))))), ?_⟩)
  · obtain ⟨_, _, _, _, _, rfl, _⟩ := q
    rfl
  · obtain ⟨a, dx, vo, vb, R, rfl, ha, ho, hb, hv, q⟩ := q
    obtain ⟨r1, r2, r3, r4, r5⟩ := hv
    have sat := sat0 (K := K) (H0 := H) (H := H) ["self", "out", "back", "losses"] (.cons (.adr a) (.cons ho (.cons hb (.cons (.int R.loss) .nil))))
    refine hs_guard (r := .nev) (ht_not (ht_B (he_call (ha2 (he_var rfl) he_int) ⟨R.out, 1, rfl, rfl, by omega, r2, trivial⟩))) rfl H _ H _ (Ex.refl H) sat (fun v H' _ i => nomatch i) fun _ σ1 H1 e1 x1 s1 => ?_
    refine hs_guard (r := .nev) (ht_not (ht_B (he_call (ha2 (he_var rfl) he_int) ⟨R.back, 0, rfl, rfl, by omega, r3, trivial⟩))) rfl H _ H1 _ e1 s1 (fun v H' _ i => nomatch i) fun _ σ2 H2 e2 x2 s2 => ?_
    refine hs_guard (r := .nev) (ht_not (ht_B (he_call (ha_cons (he_var rfl) (ha2 he_int he_int)) ⟨_, _, _, rfl, rfl, trivial⟩))) (by rw [decide_eq_true r4, decide_eq_true r5]; rfl) H _ H2 _ e2 s2 (fun v H' _ i => nomatch i) fun _ σ3 H3 e3 x3 s3 => ?_
    refine st_fld T.cTalk T.fz.tO rfl rfl (he_cb (ha1 (he_var rfl)) rc_tup) no_im0 (Nat.le_of_ble_eq_true rfl) s3 (e3 _ _ ha) fun v H4 k4 x4 ha4 i4 s4 => ?_
    refine st_fld T.cTalk T.fz.tB rfl rfl (he_cb (ha1 (he_var rfl)) rc_tup) no_im2 (Nat.le_of_ble_eq_true rfl) s4 ha4 fun u H5 k5 x5 ha5 i5 s5 => ?_
    refine st_fld T.cTalk T.fz.tL rfl rfl (he_var (d := .int R.loss) rfl) no_im3 (Nat.le_of_ble_eq_true rfl) s5 ha5 fun z H6 k6 x6 ha6 i6 s6 => ?_
    have ez := i6.int_v
    subst ez
    exact q H6 (fun b o hb hh => k6 b o hb (k5 b o hb (k4 b o hb (e3 b o hh)))) (.talk ha6 (i4.mono (x5.trans x6)) (i5.mono x6))
/-- zip(PARTS, (..)) -/
theorem hi_zipP {Γ : List En} {te : TE} {a : Addr} {ss : List Str} {ds : List D} (hP : ∀ H, SqT K H a (ss.map V.str)) (h : HE K Γ te (.tup ds)) : HI K Γ (RZ.iZipA K (tCons (tC (.ref a)) (tCons te tNil))) ((ss.zip ds).map fun p => .tup [.str p.1, p.2]) := fun H0 σ H s R q => h H0 σ H s _ fun w H2 e2 i2 => by
  obtain ⟨b, ws, ew, hb, jl⟩ := i2.tup_v
  subst ew
  refine ⟨a, b, ss.map V.str, ws, rfl, .inr ⟨hP H2, SqT.of hb, q _ H2 e2 ?_⟩⟩
  have hl : ((ss.zip ds).map fun p => D.tup [.str p.1, p.2]).length = min (ss.map V.str).length ws.length := by simp [jl.length]
  unfold WD
  rw [hl]
  refine ⟨fun i H3 hi g => ⟨ss.map V.str, ws, (ss.map V.str)[i]'(by omega), ws[i]'(by omega), hP H3, SqT.of (g _ _ hb im_tup), List.getElem?_eq_getElem _, List.getElem?_eq_getElem _⟩,
    fun H3 g => ⟨ss.map V.str, ws, hP H3, SqT.of (g _ _ hb im_tup), by omega⟩, fun i H3 x H4 _ g y => ?_⟩
  obtain ⟨T, u, w, ex, hT, eH, hu, hw⟩ := y
  subst ex eH
  have hu := hu _ (hP H3)
  have hw := hw ws (SqT.of (g _ _ hb im_tup))
  rw [List.getElem?_map] at hu
  cases hx : ss[i]? with
  | none =>
    rw [hx] at hu
    cases hu
  | some z =>
    rw [hx] at hu
    have q1 : V.str z = u := Option.some.inj hu
    subst q1
    obtain ⟨d2, h2, j2⟩ := (jl.mono g).getV hw
    exact ⟨Ex.new hT, _, by rw [List.getElem?_map, (List.getElem?_zip_eq_some (z := (z, d2))).mpr ⟨hx, h2⟩]; rfl, .tup upd_same (.cons (.str z) (.one (j2.ex (Ex.new hT))))⟩
/-- {"low": .., ..}: the parts of a box, locked -/
theorem st_box {Γ : List En} {tl th tr ts : TE} {B : BoxR} {a dx : Addr} {H0 H : Hp} {σ : L2.St} {E : Ends} (F : Cls K (He.ga K "Box")) (n : NoAttr K (He.ga K "Box") "kept_parts") (hΓ : Γ[0]? = some (.da (.adr a)))
    (h1 : HE K Γ tl (.int B.low)) (h2 : HE K Γ th (.int B.high)) (h3 : HE K Γ tr (.int B.rest)) (h4 : HE K Γ ts (.str B.sees)) (s : Sat K H0 H Γ σ) (ha : H a = some (.ins (He.ga K "Box") dx []))
    (k : ∀ H', ExB a H H' → Is K H' (.ref a) (.box B) → E.nx σ H') : sFld K (tVar 0) (tFrz (tDisp [(tC (.str "low"), tl), (tC (.str "high"), th), (tC (.str "rest"), tr), (tC (.str "sees"), ts)])) "kept_parts" E σ H := by
  refine fun p hp => ?_
  have e0 : Ex H (upd H p (.dK [])) := Ex.new hp
  have s0 := s.ex e0
  have hpp : (upd H p (.dK [])) p = some (.dK []) := upd_same
  refine h1 H0 σ _ s0 _ fun v1 H1 e1 i1 => h2 H0 σ H1 (s0.ex e1) _ fun v2 H2 e2 i2 => h3 H0 σ H2 ((s0.ex e1).ex e2) _ fun v3 H3 e3 i3 => h4 H0 σ H3 (((s0.ex e1).ex e2).ex e3) _ fun v4 H4 e4 i4 => ?_
  have eA : Ex (upd H p (.dK [])) H4 := e1.trans (e2.trans (e3.trans e4))
  refine ⟨eA _ _ hpp, partsK B, ?_, by show 4 ≤ 15; decide, ?_⟩
  · rw [i1.int_v, i2.int_v, i3.int_v, i4.str_v]
    rfl
  · have em : mergeK [] (partsK B) = partsK B := by
      unfold partsK mergeK
      simp only [List.foldl_cons, List.foldl_nil]
      rfl
    rw [em]
    have hp4 : (upd H4 p (.dK (partsK B))) p = some (.dK (partsK B)) := upd_same
    have hap : a ≠ p := fun q => by rw [q, hp] at ha; cases ha
    refine ⟨p, _, rfl, hp4, True.intro, fun od => ?_⟩
    obtain ⟨o, hσ, u, hu, hi⟩ := (s0.ex eA).get hΓ
    subst hu
    cases hi
    have haa : (upd (upd H4 p (.dK (partsK B))) p (.frz od (.dK (partsK B)))) a = some (.ins (He.ga K "Box") dx []) := by
      rw [upd_ne hap, upd_ne hap]
      exact eA _ _ (e0 _ _ ha)
    refine ⟨.ref a, hσ, a, _, dx, [], rfl, haa, F, n, by decide, ?_⟩
    refine k _ (fun b o hb hh => ?_) (.box (p := p) (o := od) upd_same ?_)
    · have hbp : b ≠ p := fun q => by rw [q, hp] at hh; cases hh
      rw [upd_ne hb, upd_ne hbp, upd_ne hbp]
      exact eA _ _ (e0 _ _ hh)
    · rw [upd_ne (Ne.symm hap)]
      exact upd_same
theorem F_Box (T : Tx K mg) {kws : List (Str × V)} {fd : FuncData} (F : FunD K "__init__" "Box.__init__" (defArgs (inClass (top 17) 0)) (defBody (inClass (top 17) 0)) (defScope (inClass (top 17) 0)) [] kws (He.ma K (He.ga K "Box") "__init__") fd) : FnOk P w K mg base L2.CX0 4 (He.ma K (He.ga K "Box") "__init__") fd ["self", "low", "high", "rest", "sees"] (spBox K) := by
  have S : FnScope ["self", "low", "high", "rest", "sees", "part", "value"] ["self", "low", "high", "rest", "sees"] (defScope (inClass (top 17) 0)) := ⟨rfl, rfl, rfl, by decide +kernel, rfl, by decide +kernel, by decide +kernel⟩
  refine F.ok S (fun vs H Q E q => ?_) (fun cdv A outer s H vs Q E hr q => ⟨_, PSs.nox (pss_cons (ps_for PassesOwn.never rfl (RZ.pi_zipA (by rfl) (T.fr "zip" (by decide +kernel)) (pa_cons (pe_glob (v := .ref _) rfl T.gPARTS rfl) (pa_cons (pe_tup (pa_cons (pv 1) (pa_cons (pv 2) (pa_cons (pv 3) (pa_cons (pv 4) pa_nil))))) pa_nil))) (pg_tup (by rfl) (pgs_cons (pg_name (i := 5) S.nd rfl (Or.inl rfl)) (pgs_cons (pg_name (i := 6) S.nd rfl (Or.inl rfl)) pgs_nil)))
  (pss_one (ps_if (PW.pt (pw_or (pt_not (pt_val (pe_cal (C_is_part_value T) (hr.mono (by decide)) (by rfl) (pa_cons (pv 5) (pa_cons (pv 6) pa_nil))))) (pw_or1 (PW.pt (pw_and (pt_cmpR op_eq (pv 5) pe_str (nomark _)) (pw_and1 (pt_cmpR op_lt (pv 6) (pv 1) (nomark _)))))))) (pss_one ps_never) pss_nil)))
  (pss_one (ps_fld (pv 0) (pe_frz (pe_disp (pps_cons pe_str (pv 1) (pps_cons pe_str (pv 2) (pps_cons pe_str (pv 3) (pps_cons pe_str (pv 4) pps_nil)))) rfl rfl (by simp) (by decide))) rfl))), ?_⟩)
  · obtain ⟨_, _, _, rfl, _⟩ := q
    rfl
  · obtain ⟨a, dx, B, rfl, ha, hv, q⟩ := q
    obtain ⟨b1, b2, b3, b4, b5⟩ := hv
    let G : List En := [.da (.adr a), .da (.int B.low), .da (.int B.high), .da (.int B.rest), .da (.str B.sees), .no, .no]
    have sat : Sat K H H G _ := sat0 (K := K) (H0 := H) (H := H) ["self", "low", "high", "rest", "sees", "part", "value"] (.cons (.adr a) (.cons (.int B.low) (.cons (.int B.high) (.cons (.int B.rest) (.cons (.str B.sees) .nil)))))
    let xs : List (Str × D) := [("low", .int B.low), ("high", .int B.high), ("rest", .int B.rest), ("sees", .str B.sees)]
    have n1 : ("low" : Str) ≠ "sees" := by decide +kernel
    have n2 : ("low" : Str) ≠ "rest" := by decide +kernel
    have n3 : ("low" : Str) ≠ "high" := by decide +kernel
    have n4 : ("high" : Str) ≠ "sees" := by decide +kernel
    have n5 : ("high" : Str) ≠ "rest" := by decide +kernel
    have n6 : ("rest" : Str) ≠ "sees" := by decide +kernel
    have n7 : ("rest" : Str) ≠ "high" := by decide +kernel
    have n8 : ("sees" : Str) ≠ "high" := by decide +kernel
    have body : ∀ x ∈ xs, ((x.1 = "sees" ∧ (x.2 = .str "out" ∨ x.2 = .str "both")) ∨ (x.1 ≠ "sees" ∧ ∃ i : Int, x.2 = .int i ∧ (if x.1 = "rest" then 0 else 1) ≤ i ∧ i ≤ 10000)) ∧ (x.1 = "high" → ∃ i : Int, x.2 = .int i ∧ ¬ i < B.low) := fun x hx => by
      simp only [xs, List.mem_cons, List.not_mem_nil, or_false] at hx
      rcases hx with e | e | e | e
      · subst e
        exact ⟨.inr ⟨n1, _, rfl, by rw [if_neg n2]; exact b1, by omega⟩, fun q => absurd q n3⟩
      · subst e
        exact ⟨.inr ⟨n4, _, rfl, by rw [if_neg n5]; omega, b3⟩, fun _ => ⟨_, rfl, by omega⟩⟩
      · subst e
        exact ⟨.inr ⟨n6, _, rfl, by rw [if_pos rfl]; exact b4, b5⟩, fun q => absurd q n7⟩
      · subst e
        refine ⟨.inl ⟨rfl, ?_⟩, fun q => absurd q n8⟩
        show D.str B.sees = _ ∨ D.str B.sees = _
        unfold BoxR.sees
        cases B.both
        · exact .inl rfl
        · exact .inr rfl
    refine hs_forX (r := .nev) xs (fun x => .tup [.str x.1, x.2]) (HI.to (hi_zipP (K := K) (ss := ["low", "high", "rest", "sees"]) T.tPARTS (he_tup (ha_cons (he_var rfl) (ha_cons (he_var rfl) (ha2 (he_var rfl) (he_var rfl)))) (Nat.le_of_ble_eq_true rfl))) rfl) (fun _ => G) (fun _ => True) (Sub.refl G) trivial (fun i x hx _ => ⟨_, _, hg_tup (hgs_cons hg_name (hgs_cons hg_name hgs_nil)) rfl, ?_⟩) H _ H _ (Ex.refl H) sat (fun v H' _ i => nomatch i) fun _ σ1 H1 e1 x1 s1 => ?_
    · obtain ⟨c1, c2⟩ := body x (List.mem_of_getElem? hx)
      refine (hs_guard (b := false) (HT.to (ht_or (ht_not (ht_B (he_call (ha2 (he_var rfl) (he_var rfl)) ⟨x.1, x.2, rfl, rfl, c1, trivial⟩))) fun _ => ht_and (b := false) (ht_test (he_op (he_var rfl) he_str rr_eqS)) fun e => ?_) (by rw [Bool.and_false]; rfl)) rfl).weak fun _ => ⟨trivial, (by repeat (first | exact Sub.nil | refine Sub.eq ?_ | refine Sub.no ?_))⟩
      obtain ⟨i, ei, hi⟩ := c2 (of_decide_eq_true e)
      have ed := decide_eq_false hi
      exact HT.to (ht_test (he_op (HE.to (he_var rfl) ei) (he_var rfl) rr_lt)) ed
    · exact st_box T.cBox T.fz.bP rfl (he_var rfl) (he_var rfl) (he_var rfl) (he_var rfl) s1 (e1 _ _ ha) fun H' k i => q H' (fun b o hb hh => k b o hb (e1 b o hh)) i
/-! ### the classes called -/
theorem ex_made {a dx : Addr} {H H' : Hp} {C : Addr} (hx : H a = none) (hd : H dx = none) (ne : dx ≠ a) (k : ExB a (upd (upd H dx (.own a)) a (.ins C dx [])) H') : Ex H H' := fun b o hh => by
  have h1 : b ≠ a := fun q => by rw [q, hx] at hh; cases hh
  have h2 : b ≠ dx := fun q => by rw [q, hd] at hh; cases hh
  refine k b o h1 ?_
  rw [upd_ne h1, upd_ne h2]
  exact hh
theorem ex_made0 {a dx : Addr} {H : Hp} {C : Addr} (hx : H a = none) (hd : H dx = none) : Ex H (upd (upd H dx (.own a)) a (.ins C dx [])) := fun b o hh => by
  have h1 : b ≠ a := fun q => by rw [q, hx] at hh; cases hh
  have h2 : b ≠ dx := fun q => by rw [q, hd] at hh; cases hh
  rw [upd_ne h1, upd_ne h2]
  exact hh
theorem he_mkRow {Γ : List En} {tr : TA} {R : RowR} {E : XK} (h : HA K Γ tr [.lst (R.boxes.map .box), .lst (R.links.map prD)]) (hv : RowV R) : HE K Γ (tMake (He.ga K "Row") (spRow K) [] E tr) (.row R) := fun H0 σ H s Q q => h H0 σ H s _ fun vs H1 e1 i1 => fun x dx hx hd ne => by
  cases i1 with
  | cons j1 i1 =>
    cases i1 with
    | cons j2 i1 =>
      cases i1
      have e2 := ex_made0 (C := He.ga K "Row") hx hd
      exact ⟨x, dx, _, _, R, rfl, upd_same, j1.ex e2, j2.ex e2, hv, fun H' k i => ⟨rfl, q _ H' (e1.trans (ex_made hx hd ne k)) i⟩⟩
theorem he_mkTalk {Γ : List En} {tr : TA} {T : TalkR} {E : XK} (h : HA K Γ tr [.lst (T.out.map .int), .lst (T.back.map .int), .int T.loss]) (hv : TalkV T) : HE K Γ (tMake (He.ga K "Talk") (spTalk K) [] E tr) (.talk T) := fun H0 σ H s Q q => h H0 σ H s _ fun vs H1 e1 i1 => fun x dx hx hd ne => by
  cases i1 with
  | cons j1 i1 =>
    cases i1 with
    | cons j2 i1 =>
      cases i1 with
      | cons j3 i1 =>
        cases i1
        have e2 := ex_made0 (C := He.ga K "Talk") hx hd
        exact ⟨x, dx, _, _, T, by rw [j3.int_v]; rfl, upd_same, j1.ex e2, j2.ex e2, hv, fun H' k i => ⟨rfl, q _ H' (e1.trans (ex_made hx hd ne k)) i⟩⟩
theorem he_mkBox {Γ : List En} {tr tk : TA} {B : BoxR} {E : XK} (h : HA K Γ tr [.int B.low, .int B.high]) (h2 : HA K Γ tk [.int B.rest, .str B.sees]) (hv : BoxOk B) : HE K Γ (tMakeK (He.ga K "Box") 2 2 (spBox K) (fun vs zs => vs ++ zs) E tr tk) (.box B) := fun H0 σ H s Q q => h H0 σ H s _ fun vs H1 e1 i1 => h2 H0 σ H1 (s.ex e1) _ fun zs H2 e2 i2 => ⟨by rw [i1.length]; rfl, by rw [i2.length]; rfl, fun x dx hx hd ne => by
  cases i1 with
  | cons j1 i1 =>
    cases i1 with
    | cons j2 i1 =>
      cases i1
      cases i2 with
      | cons j3 i2 =>
        cases i2 with
        | cons j4 i2 =>
          cases i2
          refine ⟨x, dx, B, by rw [j1.int_v, j2.int_v, j3.int_v, j4.str_v]; rfl, upd_same, hv, fun H' k i => ⟨rfl, q _ H' ((e1.trans e2).trans (ex_made hx hd ne k)) i⟩⟩⟩
def CalC (P : Program) (w : World) (K : PySem.W.Frag) (mg : Str → Option Value) (base : Heap) (c : Str) (n : Nat) (ps : List Str) (sp : Sp) : Prop := ∃ f fd, Mk K (He.ga K c) f ∧ FnOk P w K mg base L2.CX0 n f fd ps sp ∧ Binds K fd ps []
theorem C_Row (T : Tx K mg) : CalC P w K mg base "Row" 5 ["self", "boxes", "links"] (spRow K) := by
  obtain ⟨fd, F⟩ := T.mfn "Row" "__init__" "Row.__init__" 52 0 (by decide +kernel)
  exact ⟨_, fd, T.mkRow, F_Row T F, F.bindsN fun _ _ _ _ _ _ us hl => match us, hl with | [_, _, _], _ => rfl⟩
theorem C_Talk (T : Tx K mg) : CalC P w K mg base "Talk" 4 ["self", "out", "back", "losses"] (spTalk K) := by
  obtain ⟨dT, fd, F⟩ := T.iniT
  obtain ⟨ds, h1, h2⟩ := F.binds1 (ps := ["self", "out", "back", "losses"]) 4 2 (by simp) rfl fun TT kV doc pm an cdv ct us its l1 l2 => match us, l1, its, l2 with | [_, _, _, _], _, [_, _], _ => ⟨_, rfl, rfl⟩
  cases h1
  exact ⟨_, fd, T.mkTalk, F_Talk T F, h2⟩
def CalK (P : Program) (w : World) (K : PySem.W.Frag) (mg : Str → Option Value) (base : Heap) (n : Nat) : Prop := ∃ f fd, ∃ g : List Value → List Value → List Value, Mk K (He.ga K "Box") f ∧ FnOk P w K mg base L2.CX0 n f fd ["self", "low", "high", "rest", "sees"] (spBox K) ∧ KBn K fd ["self", "low", "high", "rest", "sees"] 3 ["rest", "sees"] g (fun vs zs => vs ++ zs)
theorem C_Box (T : Tx K mg) : CalK P w K mg base 4 := by
  obtain ⟨fd, F⟩ := T.iniB
  obtain ⟨mv, h⟩ := FunD.kbinds0 (ps := ["self", "low", "high", "rest", "sees"]) F 3 ["rest", "sees"] [] (fun us mv ws => us ++ ws) (by simp) (fun q hq => by cases hq) (fun r1 _ r3 => r1.append r3) fun D doc pm an cdv ct us mv ws l1 l2 l3 => match us, l1, mv, l2, ws, l3 with | [_, _, _], _, [], _, [_, _], _ => rfl
  exact ⟨_, fd, _, T.mkBox, F_Box T F, h⟩
theorem pe_mk {X : Cx} {c : Str} {n : Nat} {ps : List Str} {sp : Sp} {p pos : Pos} {e : Expr} {es : List Expr} {t : TA} {x : Str} (C : CalC X.prog X.w X.K X.mg X.base c n ps sp) (hr : Room (n + 1) X.A) (hg : Gl X x) (hm : X.mg x = some (.ref (He.ga X.K c))) (ha : PA X (e :: es) t) (hdb : (x == ("__debug__" : Str)) = false := by decide) (he : starEach (e :: es) X.env = (false, eval e X.env) :: starEach es X.env := by rfl) (hpl : (backTo pos (starEach es X.env)).any (·.1) = false := by rfl) :
    PE X (.Call (.Name x p) (e :: es) [] pos) (tMake (He.ga X.K c) sp [] L2.E0 t) := by
  obtain ⟨f, fd, M, F, hb⟩ := C
  exact pe_make M F hr hg hm hb .nil L2.pass0 ha hdb he hpl
theorem pe_mkK {X : Cx} {n : Nat} {p pos : Pos} {e : Expr} {es : List Expr} {kws : List Keyword} {t tk : TA} {x : Str} (C : CalK X.prog X.w X.K X.mg X.base n) (hr : Room (n + 1) X.A) (hg : Gl X x) (hm : X.mg x = some (.ref (He.ga X.K "Box"))) (ha : PA X (e :: es) t) (hkw : PK X kws tk)
    (hall : (backToKw pos (keywordEach kws X.env)).all (·.1.isSome) = true := by rfl) (hks : (backToKw pos (keywordEach kws X.env)).filterMap (·.1) = (["rest", "sees"] : List Str) := by rfl) (hdb : (x == ("__debug__" : Str)) = false := by decide)
    (he : starEach (e :: es) X.env = (false, eval e X.env) :: starEach es X.env := by rfl) (hpl : ((backTo pos (starEach (e :: es) X.env)).any (·.1) || (backToKw pos (keywordEach kws X.env)).any (·.1.isNone)) = false := by rfl) :
    PE X (.Call (.Name x p) (e :: es) kws pos) (tMakeK (He.ga X.K "Box") 2 2 (spBox X.K) (fun vs zs => vs ++ zs) L2.E0 t tk) := by
  obtain ⟨f, fd, g, M, F, hb⟩ := C
  exact pe_makeK M F hr hg hm hb L2.pass0 ha hkw hall hks hdb he hpl
end
end Q
/-! Quietdoors: the law's own defs, one by one (those that draw nothing). -/
namespace Q
open PySem PySem.Spec PyProof.Rows L2
def repB (b : Bool) : Str := if b = true then "True" else "False"
theorem repB_ne (a b : Bool) : (!decide (repB a = repB b)) = (!decide (a = b)) := by
  have h1 : ("True" : Str) ≠ "False" := by decide +kernel
  cases a <;> cases b
  · rfl
  · show (!decide (("False" : Str) = "True")) = true
    rw [decide_eq_false (Ne.symm h1)]
    rfl
  · show (!decide (("True" : Str) = "False")) = true
    rw [decide_eq_false h1]
    rfl
  · rfl
section
variable {P : Program} {w : World} {K : PySem.W.Frag} {mg : Str → Option Value} {base : Heap}
theorem he_repr {Γ : List En} {te : TE} {b : Bool} (h : HE K Γ te (.bl b)) : HE K Γ (tCB rRepB (tCons te tNil)) (.str (repB b)) := he_cb (ha1 h) rc_repr
theorem he_reprNe {Γ : List En} {ta tb : TE} {a b : Bool} (h1 : HE K Γ ta (.bl a)) (h2 : HE K Γ tb (.bl b)) : HE K Γ (tOp rNe (tCB rRepB (tCons ta tNil)) (tCB rRepB (tCons tb tNil))) (.bl (!decide (a = b))) := (he_op (he_repr h1) (he_repr h2) rr_neS).to (by rw [repB_ne])
theorem he_i0 {Γ : List En} {te : TE} {x : D} {ds : List D} (h : HE K Γ te (.lst (x :: ds))) : HE K Γ (tOp (rIxL K) te (tC (.int 0))) x := he_op h he_int (rr_ixL at0)
theorem he_i1 {Γ : List En} {te : TE} {x y : D} {ds : List D} (h : HE K Γ te (.lst (x :: y :: ds))) : HE K Γ (tOp (rIxL K) te (tC (.int 1))) y := he_op h he_int (rr_ixL at1)
theorem he_i2 {Γ : List En} {te : TE} {x y z : D} {ds : List D} (h : HE K Γ te (.lst (x :: y :: z :: ds))) : HE K Γ (tOp (rIxL K) te (tC (.int 2))) z := he_op h he_int (rr_ixL at2)
theorem he_i3 {Γ : List En} {te : TE} {x y z u : D} {ds : List D} (h : HE K Γ te (.lst (x :: y :: z :: u :: ds))) : HE K Γ (tOp (rIxL K) te (tC (.int 3))) u := he_op h he_int (rr_ixL at3)
theorem he_l0 {Γ : List En} {te : TE} {R : RowR} (h : HE K Γ te (lineD R)) : HE K Γ (tOp (rIxL K) te (tC (.int 0))) (.lst (R.boxes.map caseD)) := he_i0 h
theorem he_l1 {Γ : List En} {te : TE} {R : RowR} (h : HE K Γ te (lineD R)) : HE K Γ (tOp (rIxL K) te (tC (.int 1))) (.lst (R.links.map prD)) := he_i1 h
theorem he_t0 {Γ : List En} {te : TE} {T : TalkR} (h : HE K Γ te (talkD T)) : HE K Γ (tOp (rIxL K) te (tC (.int 0))) (.lst (T.out.map .int)) := he_i0 h
theorem he_t1 {Γ : List En} {te : TE} {T : TalkR} (h : HE K Γ te (talkD T)) : HE K Γ (tOp (rIxL K) te (tC (.int 1))) (.lst (T.back.map .int)) := he_i1 h
theorem he_t2 {Γ : List En} {te : TE} {T : TalkR} (h : HE K Γ te (talkD T)) : HE K Γ (tOp (rIxL K) te (tC (.int 2))) (.int T.loss) := he_i2 h
/-- line[0][b][0] -/
theorem he_low {Γ : List En} {te tb : TE} {R : RowR} {b : Nat} (h : HE K Γ te (lineD R)) (h2 : HE K Γ tb (.int (b : Int))) (hb : b < R.boxes.length) : HE K Γ (tOp (rIxL K) (tOp (rIxL K) (tOp (rIxL K) te (tC (.int 0))) tb) (tC (.int 0))) (.int (lowAt R b)) :=
  (he_i0 (x := .int R.boxes[b].low) (he_ixLm (f := caseD) b (he_l0 h) h2 rfl (List.getElem?_eq_getElem hb))).to (by rw [lowAt_eq hb])
def r__law_box : List D → D → Prop := fun ds r => ∃ (B : BoxR), ds = [caseD B] ∧ r = .box B ∧ (BoxOk B) ∧ True
theorem C__law_box (T : Tx K mg) : Cal P w K mg base "_law_box" 6 ["_law_one"] (SpR K r__law_box) := by
  have S : FnScope ["_law_one"] ["_law_one"] (defScope (top 64)) := ⟨rfl, rfl, rfl, by decide +kernel, rfl, by decide +kernel, by decide +kernel⟩
  refine cal_of T (i := 64) (by decide +kernel) (fun fd F => fn_hs F S (fun ds r q => ?_) fun cdv A outer s H E hr => ⟨_, (pss_one (ps_ret (pe_mkK (C_Box T) (hr.mono (by decide)) (by rfl) T.gBox (pa_cons (pe_ix ix_list (pv 0) pe_int (fun _ _ => rfl)) (pa_cons (pe_ix ix_list (pv 0) pe_int (fun _ _ => rfl)) pa_nil)) (pk_cons (pe_ix ix_list (pv 0) pe_int (fun _ _ => rfl)) (pk_cons (pe_ix ix_list (pv 0) pe_int (fun _ _ => rfl)) pk_nil))))), fun ds r q => ?_⟩) (fun _ _ _ _ _ _ us hl => match us, hl with | [_], _ => rfl)
  · obtain ⟨_, rfl, _⟩ := q
    rfl
  · obtain ⟨B, rfl, rfl, h1, _⟩ := q
    have hv : HE K (G0 ["_law_one"] [caseD B]) (tVar 0) (caseD B) := he_var rfl
    exact ⟨[], hs_ret (he_mkBox (ha2 (he_i0 hv) (he_i1 hv)) (ha2 (he_i2 hv) (he_i3 hv)) h1)⟩

def r__law_row : List D → D → Prop := fun ds r => ∃ (R : RowR), ds = [lineD R] ∧ r = .row R ∧ (RowV R) ∧ (∀ B ∈ R.boxes, BoxOk B) ∧ True
theorem C__law_row (T : Tx K mg) : Cal P w K mg base "_law_row" 7 ["_law_line_here"] (SpR K r__law_row) := by
  have S : FnScope ["_law_line_here", "_law_one"] ["_law_line_here"] (defScope (top 66)) := ⟨rfl, rfl, rfl, by decide +kernel, rfl, by decide +kernel, by decide +kernel⟩
  refine cal_of T (i := 66) (by decide +kernel) (fun fd F => fn_hs F S (fun ds r q => ?_) fun cdv A outer s H E hr => ⟨_, (pss_one (ps_ret (pe_mk (C_Row T) (hr.mono (by decide)) (by rfl) T.gRow (pa_cons (pe_frz (pe_lc (own := [("_law_one", 1)]) (g := (gName 1)) (tt := tYes) (te := (tCall (SpR K r__law_box) [] L2.E0 (tCons (tVar 1) tNil))) (by rfl) S.nd (pi_list (pe_ix ix_list (pv 0) pe_int (fun _ _ => rfl))) (blkOk_by (N := ["_law_line_here", "_law_one"]) (sc := defScope (top 66)) (by decide +kernel)) (fun _ _ _ _ _ => (pg_name (i := 1) S.nd rfl (Or.inl rfl))) (fun _ _ _ _ _ => pts_nil) (fun _ _ _ _ _ => (pe_cal (C__law_box T) (hr.mono (by decide)) (by rfl) (pa_cons (pv 1) pa_nil))))) (pa_cons (pe_frz (pe_callTy call_list_of (by rfl) (T.fr "list" (by decide +kernel)) (by decide +kernel) (pa_cons (pe_ix ix_list (pv 0) pe_int (fun _ _ => rfl)) pa_nil))) pa_nil))))), fun ds r q => ?_⟩) (fun _ _ _ _ _ _ us hl => match us, hl with | [_], _ => rfl)
  · obtain ⟨_, rfl, _⟩ := q
    rfl
  · obtain ⟨R, rfl, rfl, h1, h2, _⟩ := q
    have hR := h1.1.2.2
    exact ⟨[], hs_ret (he_mkRow (ha2 (he_frz (hl_lcY R.boxes caseD D.box (hi_list (he_l0 (he_var rfl))) (by omega) fun B hB => ⟨_, _, hg_name, by decide, he_call (ha1 (he_var rfl)) ⟨B, rfl, rfl, h2 B hB, trivial⟩⟩)) (he_frz (hl_cb (ha1 (he_l1 (he_var rfl))) rcl_list))) h1)⟩

def r__law_made_talk : List D → D → Prop := fun ds r => ∃ (T0 : TalkR), ds = [talkD T0] ∧ r = .talk T0 ∧ (TalkV T0) ∧ True
theorem C__law_made_talk (T : Tx K mg) : Cal P w K mg base "_law_made_talk" 6 ["_law_talk_here"] (SpR K r__law_made_talk) := by
  have S : FnScope ["_law_talk_here"] ["_law_talk_here"] (defScope (top 69)) := ⟨rfl, rfl, rfl, by decide +kernel, rfl, by decide +kernel, by decide +kernel⟩
  refine cal_of T (i := 69) (by decide +kernel) (fun fd F => fn_hs F S (fun ds r q => ?_) fun cdv A outer s H E hr => ⟨_, (pss_one (ps_ret (pe_mk (C_Talk T) (hr.mono (by decide)) (by rfl) T.gTalk (pa_cons (pe_frz (pe_callTy call_list_of (by rfl) (T.fr "list" (by decide +kernel)) (by decide +kernel) (pa_cons (pe_ix ix_list (pv 0) pe_int (fun _ _ => rfl)) pa_nil))) (pa_cons (pe_frz (pe_callTy call_list_of (by rfl) (T.fr "list" (by decide +kernel)) (by decide +kernel) (pa_cons (pe_ix ix_list (pv 0) pe_int (fun _ _ => rfl)) pa_nil))) (pa_cons (pe_ix ix_list (pv 0) pe_int (fun _ _ => rfl)) pa_nil)))))), fun ds r q => ?_⟩) (fun _ _ _ _ _ _ us hl => match us, hl with | [_], _ => rfl)
  · obtain ⟨_, rfl, _⟩ := q
    rfl
  · obtain ⟨T0, rfl, rfl, h1, _⟩ := q
    exact ⟨[], hs_ret (he_mkTalk (ha_cons (he_frz (hl_cb (ha1 (he_t0 (he_var rfl))) rcl_list)) (ha2 (he_frz (hl_cb (ha1 (he_t1 (he_var rfl))) rcl_list)) (he_t2 (he_var rfl)))) h1)⟩

def r__law_letters : List D → D → Prop := fun ds r => ∃ (T0 : TalkR), ds = [talkD T0] ∧ r = .lst ((letters T0).map ltD) ∧ (TalkOk T0) ∧ True
theorem C__law_letters (T : Tx K mg) : Cal P w K mg base "_law_letters" 1 ["_law_talk_here"] (SpR K r__law_letters) := by
  have S : FnScope ["_law_talk_here", "_law_k"] ["_law_talk_here"] (defScope (top 70)) := ⟨rfl, rfl, rfl, by decide +kernel, rfl, by decide +kernel, by decide +kernel⟩
  refine cal_of T (i := 70) (by decide +kernel) (fun fd F => fn_hs F S (fun ds r q => ?_) fun cdv A outer s H E hr => ⟨_, (pss_one (ps_ret (pe_frz (pe_op op_cat (pe_lc (own := [("_law_k", 1)]) (g := (gName 1)) (tt := tYes) (te := (tTup (tCons (tC (.str "out")) (tCons (tVar 1) tNil)))) (by rfl) S.nd (pi_range1 (by rfl) (T.fr "range" (by decide +kernel)) (pa_cons (pe_callB call_len (by rfl) (T.fr "len" (by decide +kernel)) (by decide +kernel) (pa_cons (pe_ix ix_list (pv 0) pe_int (fun _ _ => rfl)) pa_nil)) pa_nil)) (blkOk_by (N := ["_law_talk_here", "_law_k"]) (sc := defScope (top 70)) (by decide +kernel)) (fun _ _ _ _ _ => (pg_name (i := 1) S.nd rfl (Or.inl rfl))) (fun _ _ _ _ _ => pts_nil) (fun _ _ _ _ _ => (pe_tup (pa_cons pe_str (pa_cons (pv 1) pa_nil))))) (pe_lc (own := [("_law_k", 1)]) (g := (gName 1)) (tt := tYes) (te := (tTup (tCons (tC (.str "back")) (tCons (tVar 1) tNil)))) (by rfl) S.nd (pi_range1 (by rfl) (T.fr "range" (by decide +kernel)) (pa_cons (pe_callB call_len (by rfl) (T.fr "len" (by decide +kernel)) (by decide +kernel) (pa_cons (pe_ix ix_list (pv 0) pe_int (fun _ _ => rfl)) pa_nil)) pa_nil)) (blkOk_by (N := ["_law_talk_here", "_law_k"]) (sc := defScope (top 70)) (by decide +kernel)) (fun _ _ _ _ _ => (pg_name (i := 1) S.nd rfl (Or.inl rfl))) (fun _ _ _ _ _ => pts_nil) (fun _ _ _ _ _ => (pe_tup (pa_cons pe_str (pa_cons (pv 1) pa_nil))))))))), fun ds r q => ?_⟩) (fun _ _ _ _ _ _ us hl => match us, hl with | [_], _ => rfl)
  · obtain ⟨_, rfl, _⟩ := q
    rfl
  · obtain ⟨T0, rfl, rfl, h1, _⟩ := q
    have i1 := h1.1
    have i2 := h1.2.1
    refine ⟨[], hs_ret (HE.to (he_frz (hl_cat (hl_lcY (List.range T0.out.length) (fun i => .int (i : Int)) (fun i => ltD ⟨true, i⟩) (hi_range (he_lenL (he_t0 (he_var rfl))) (by omega)) (by rw [List.length_range]; omega) fun a ha => ⟨_, _, hg_name, by decide, he_tup2 he_str (he_var rfl)⟩) (hl_lcY (List.range T0.back.length) (fun i => .int (i : Int)) (fun i => ltD ⟨false, i⟩) (hi_range (he_lenL (he_t1 (he_var rfl))) (by omega)) (by rw [List.length_range]; omega) fun a ha => ⟨_, _, hg_name, by decide, he_tup2 he_str (he_var rfl)⟩) ?_)) ?_)⟩
    · rw [List.length_map, List.length_map, List.length_range, List.length_range]
      omega
    · unfold letters
      rw [List.map_append, List.map_map, List.map_map]
      rfl

def r__law_sent : List D → D → Prop := fun ds r => ∃ (T0 : TalkR) (l : Lt), ds = [talkD T0, ltD l] ∧ r = .int (sent T0 l) ∧ (l ∈ letters T0) ∧ True
theorem C__law_sent (T : Tx K mg) : Cal P w K mg base "_law_sent" 1 ["_law_talk_here", "_law_letter"] (SpR K r__law_sent) := by
  have S : FnScope ["_law_talk_here", "_law_letter"] ["_law_talk_here", "_law_letter"] (defScope (top 71)) := ⟨rfl, rfl, rfl, by decide +kernel, rfl, by decide +kernel, by decide +kernel⟩
  refine cal_of T (i := 71) (by decide +kernel) (fun fd F => fn_hs F S (fun ds r q => ?_) fun cdv A outer s H E hr => ⟨_, (pss_one (ps_ret (pe_ifExp (pt_cmpR op_eq (pe_ix ix_tup (pv 1) pe_int (fun _ _ => rfl)) pe_str (nomark _)) (pe_ix ix_list (pe_ix ix_list (pv 0) pe_int (fun _ _ => rfl)) (pe_ix ix_tup (pv 1) pe_int (fun _ _ => rfl)) (fun _ _ => rfl)) (pe_ix ix_list (pe_ix ix_list (pv 0) pe_int (fun _ _ => rfl)) (pe_ix ix_tup (pv 1) pe_int (fun _ _ => rfl)) (fun _ _ => rfl))))), fun ds r q => ?_⟩) (fun _ _ _ _ _ _ us hl => match us, hl with | [_, _], _ => rfl)
  · obtain ⟨_, _, rfl, _⟩ := q
    rfl
  · obtain ⟨T0, l, rfl, rfl, h1, _⟩ := q
    have h2 := mem_letters.mp h1
    have h3 : (ways T0 l.o)[l.k]? = some (sent T0 l) := by
      unfold sent
      rw [List.getElem?_eq_getElem h2]
      rfl
    refine ⟨[], hs_ret (he_if (ht_test (he_isOut (he_var rfl))) (fun e => he_ixLm (f := D.int) l.k (he_t0 (he_var rfl)) (he_lk (he_var rfl)) rfl ?_) (fun e => he_ixLm (f := D.int) l.k (he_t1 (he_var rfl)) (he_lk (he_var rfl)) rfl ?_))⟩
    · unfold ways at h3
      rw [e] at h3
      exact h3
    · unfold ways at h3
      rw [e] at h3
      exact h3

def r__law_span : List D → D → Prop := fun ds r => ∃ (R : RowR) (T0 : TalkR) (b : Nat) (l : Lt), ds = [lineD R, talkD T0, .int (b : Int), ltD l] ∧ r = spD (win R T0 b l) ∧ (b < R.boxes.length) ∧ (RowOk R) ∧ (l ∈ letters T0) ∧ True
theorem C__law_span (T : Tx K mg) : Cal P w K mg base "_law_span" 2 ["_law_line_here", "_law_talk_here", "_law_b", "_law_letter"] (SpR K r__law_span) := by
  have S : FnScope ["_law_line_here", "_law_talk_here", "_law_b", "_law_letter", "_law_some", "_law_time", "_law_step"] ["_law_line_here", "_law_talk_here", "_law_b", "_law_letter"] (defScope (top 72)) := ⟨rfl, rfl, rfl, by decide +kernel, rfl, by decide +kernel, by decide +kernel⟩
  refine cal_of T (i := 72) (by decide +kernel) (fun fd F => fn_hs F S (fun ds r q => ?_) fun cdv A outer s H E hr => ⟨_, (pss_cons (ps_set (i := 4) S.nd rfl (Or.inl rfl) (pe_ifExp (pt_cmpR op_eq (pe_ix ix_tup (pv 3) pe_int (fun _ _ => rfl)) pe_str (nomark _)) (pe_frz (pe_slice sl_list (pe_ix ix_list (pv 0) pe_int (fun _ _ => rfl)) po_none (po_some (pe_op op_add (pv 2) pe_int)))) (pe_frz (pe_slice sl_list (pe_ix ix_list (pv 0) pe_int (fun _ _ => rfl)) (po_some (pe_op op_add (pv 2) pe_int)) po_none))))
  (pss_cons (ps_set (i := 5) S.nd rfl (Or.inl rfl) (pe_cal (C__law_sent T) (hr.mono (by decide)) (by rfl) (pa_cons (pv 1) (pa_cons (pv 3) pa_nil))))
  (pss_one (ps_ret (pe_frz (pe_lst (pa_cons (pe_op op_add (pv 5) (pe_callB (cr_sum rfl) (by rfl) (T.fr "sum" (by decide +kernel)) (by decide +kernel) (pa_cons (pe_frz (pe_lc (own := [("_law_step", 6)]) (g := (gName 6)) (tt := tYes) (te := (tCB rInt1 (tCons (tOp (rIxT K) (tVar 6) (tC (.int 0))) tNil))) (by rfl) S.nd (pi_list (pv 4)) (blkOk_by (N := ["_law_line_here", "_law_talk_here", "_law_b", "_law_letter", "_law_some", "_law_time", "_law_step"]) (sc := defScope (top 72)) (by decide +kernel)) (fun _ _ _ _ _ => (pg_name (i := 6) S.nd rfl (Or.inl rfl))) (fun _ _ _ _ _ => pts_nil) (fun _ _ _ _ _ => (pe_callTy call_int1 (by rfl) (T.fr "int" (by decide +kernel)) (by decide +kernel) (pa_cons (pe_ix ix_tup (pv 6) pe_int (fun _ _ => rfl)) pa_nil))))) pa_nil))) (pa_cons (pe_op op_add (pv 5) (pe_callB (cr_sum rfl) (by rfl) (T.fr "sum" (by decide +kernel)) (by decide +kernel) (pa_cons (pe_frz (pe_lc (own := [("_law_step", 6)]) (g := (gName 6)) (tt := tYes) (te := (tCB rInt1 (tCons (tOp (rIxT K) (tVar 6) (tC (.int 1))) tNil))) (by rfl) S.nd (pi_list (pv 4)) (blkOk_by (N := ["_law_line_here", "_law_talk_here", "_law_b", "_law_letter", "_law_some", "_law_time", "_law_step"]) (sc := defScope (top 72)) (by decide +kernel)) (fun _ _ _ _ _ => (pg_name (i := 6) S.nd rfl (Or.inl rfl))) (fun _ _ _ _ _ => pts_nil) (fun _ _ _ _ _ => (pe_callTy call_int1 (by rfl) (T.fr "int" (by decide +kernel)) (by decide +kernel) (pa_cons (pe_ix ix_tup (pv 6) pe_int (fun _ _ => rfl)) pa_nil))))) pa_nil))) pa_nil)))))))), fun ds r q => ?_⟩) (fun _ _ _ _ _ _ us hl => match us, hl with | [_, _, _, _], _ => rfl)
  · obtain ⟨_, _, _, _, rfl, _⟩ := q
    rfl
  · obtain ⟨R, T0, b, l, rfl, rfl, h1, h2, h3, _⟩ := q
    have g1 := h2.1
    have g2 := h2.2.2
    let some_ : List (Int × Int) := if l.o = true then R.links.take (b + 1) else R.links.drop (b + 1)
    have hs : some_.length ≤ 5 := by
      show (if l.o = true then R.links.take (b + 1) else R.links.drop (b + 1)).length ≤ 5
      cases l.o
      · rw [if_neg Bool.false_ne_true, List.length_drop]
        omega
      · rw [if_pos rfl, List.length_take]
        omega
    have ew : win R T0 b l = (sent T0 l + (sumP some_).1, sent T0 l + (sumP some_).2) := by
      unfold win dly outD backD
      show _ = (sent T0 l + (sumP (if l.o = true then R.links.take (b + 1) else R.links.drop (b + 1))).1, sent T0 l + (sumP (if l.o = true then R.links.take (b + 1) else R.links.drop (b + 1))).2)
      cases l.o <;> rfl
    refine ⟨[], hs_seq (hs_set (d := .lst (some_.map prD)) (he_if (ht_test (he_isOut (he_var rfl))) (fun e => HE.to (he_frz (hl_slL (he_l1 (he_var rfl)) ho_none (ho_some (he_op (he_var rfl) he_int rr_add)))) ?_) (fun e => HE.to (he_frz (hl_slL (he_l1 (he_var rfl)) (ho_some (he_op (he_var rfl) he_int rr_add)) ho_none)) ?_))) fun _ => hs_seq (hs_set (he_call (ha2 (he_var rfl) (he_var rfl)) ⟨T0, l, rfl, rfl, h3, trivial⟩)) fun _ =>
      hs_ret (HE.to (he_frz (hl_lst (ha2 (he_op (he_var rfl) (he_cb (ha1 (he_frz (HL.to (hl_lcY some_ prD (fun p => .int p.1) (hi_list (he_var rfl)) (by omega) fun p hp => ⟨_, _, hg_name, by decide, he_cb (ha1 (he_fst (he_var rfl))) rc_int⟩) ?_))) (rc_sum (ns := some_.map (·.1)))) rr_add) (he_op (he_var rfl) (he_cb (ha1 (he_frz (HL.to (hl_lcY some_ prD (fun p => .int p.2) (hi_list (he_var rfl)) (by omega) fun p hp => ⟨_, _, hg_name, by decide, he_cb (ha1 (he_snd (he_var rfl))) rc_int⟩) ?_))) (rc_sum (ns := some_.map (·.2)))) rr_add)) (Nat.le_of_ble_eq_true rfl))) ?_)⟩
    · show _ = D.lst ((if l.o = true then R.links.take (b + 1) else R.links.drop (b + 1)).map prD)
      rw [e, if_pos rfl]
      exact congrArg D.lst (cutD_to (b + 1) (by omega) (by omega))
    · show _ = D.lst ((if l.o = true then R.links.take (b + 1) else R.links.drop (b + 1)).map prD)
      rw [e, if_neg Bool.false_ne_true]
      exact congrArg D.lst (cutD_from (b + 1) (by omega) (by omega))
    · rw [List.map_map]; rfl
    · rw [List.map_map]; rfl
    · rw [ew]
      rfl

def r__law_is_sight : List D → D → Prop := fun ds r => ∃ (R : RowR) (b : Nat) (l : Lt), ds = [lineD R, .int (b : Int), ltD l] ∧ r = .bl (sightOk R b l) ∧ (b < R.boxes.length) ∧ True
theorem C__law_is_sight (T : Tx K mg) : Cal P w K mg base "_law_is_sight" 1 ["_law_line_here", "_law_b", "_law_letter"] (SpR K r__law_is_sight) := by
  have S : FnScope ["_law_line_here", "_law_b", "_law_letter"] ["_law_line_here", "_law_b", "_law_letter"] (defScope (top 73)) := ⟨rfl, rfl, rfl, by decide +kernel, rfl, by decide +kernel, by decide +kernel⟩
  refine cal_of T (i := 73) (by decide +kernel) (fun fd F => fn_hs F S (fun ds r q => ?_) fun cdv A outer s H E hr => ⟨_, (pss_one (ps_ret (pe_or (pe_cmpR op_eq (pe_ix ix_tup (pv 2) pe_int (fun _ _ => rfl)) pe_str (nomark _)) (pe_one (pe_cmpR op_eq (pe_ix ix_list (pe_ix ix_list (pe_ix ix_list (pv 0) pe_int (fun _ _ => rfl)) (pv 1) (fun _ _ => rfl)) pe_int (fun _ _ => rfl)) pe_str (nomark _)))))), fun ds r q => ?_⟩) (fun _ _ _ _ _ _ us hl => match us, hl with | [_, _, _], _ => rfl)
  · obtain ⟨_, _, _, rfl, _⟩ := q
    rfl
  · obtain ⟨R, b, l, rfl, rfl, h1, _⟩ := q
    have hb : R.boxes[b]? = some R.boxes[b] := List.getElem?_eq_getElem h1
    refine ⟨[], hs_ret (HE.to (he_or (he_isOut (he_var rfl)) fun _ => he_both (B := R.boxes[b]) (he_i3 (he_ixLm (f := caseD) b (he_l0 (he_var rfl)) (he_var rfl) rfl hb))) ?_)⟩
    unfold sightOk
    rw [hb]
    rfl

def r__law_can_lose : List D → D → Prop := fun ds r => ∃ (T0 : TalkR) (ls : List Lt), ds = [talkD T0, .lst (ls.map ltD)] ∧ r = .bl (lawCan T0 ls) ∧ (TalkOk T0) ∧ True
theorem C__law_can_lose (T : Tx K mg) : Cal P w K mg base "_law_can_lose" 1 ["_law_talk_here", "_law_gone_here"] (SpR K r__law_can_lose) := by
  have S : FnScope ["_law_talk_here", "_law_gone_here", "_law_word", "_law_many", "_law_k"] ["_law_talk_here", "_law_gone_here"] (defScope (top 74)) := ⟨rfl, rfl, rfl, by decide +kernel, rfl, by decide +kernel, by decide +kernel⟩
  refine cal_of T (i := 74) (by decide +kernel) (fun fd F => fn_hs F S (fun ds r q => ?_) fun cdv A outer s H E hr => ⟨_, (pss_cons (ps_for PassesOwn.never rfl (pi_list (pe_frz (pe_lst (pa_cons pe_str (pa_cons pe_str pa_nil))))) (pg_name (i := 2) S.nd rfl (Or.inl rfl))
  (pss_cons (ps_set (i := 3) S.nd rfl (Or.inl rfl) pe_int)
  (pss_one (ps_for PassesOwn.never rfl (pi_range1 (by rfl) (T.fr "range" (by decide +kernel)) (pa_cons (pe_callB call_len (by rfl) (T.fr "len" (by decide +kernel)) (by decide +kernel) (pa_cons (pe_ix ix_list (pv 0) (pe_ifExp (pt_cmpR op_eq (pv 2) pe_str (nomark _)) pe_int pe_int) (fun _ _ => rfl)) pa_nil)) pa_nil)) (pg_name (i := 4) S.nd rfl (Or.inl rfl))
  (pss_cons (ps_set (i := 3) S.nd rfl (Or.inl rfl) (pe_ifExp (pt_cmpR (op_inD (room65 hr)) (pe_tup (pa_cons (pv 2) (pa_cons (pv 4) pa_nil))) (pv 1) (by rfl)) (pe_op op_add (pv 3) pe_int) pe_int))
  (pss_one (ps_if (pt_cmpR op_gt (pv 3) (pe_ix ix_list (pv 0) pe_int (fun _ _ => rfl)) (nomark _)) (pss_one (ps_ret pe_bl)) pss_nil)))))))
  (pss_one (ps_ret pe_bl))), fun ds r q => ?_⟩) (fun _ _ _ _ _ _ us hl => match us, hl with | [_, _], _ => rfl)
  · obtain ⟨_, _, rfl, _⟩ := q
    rfl
  · obtain ⟨T0, ls, rfl, rfl, h1, _⟩ := q
    have i1 := h1.1
    have i2 := h1.2.1
    refine ⟨[], hs_seq (hs_forX [true, false] (fun o => .str (wd o)) (HI.to (hi_list (he_frz (hl_lst (ha2 he_str he_str) (Nat.le_of_ble_eq_true rfl)))) rfl) (fun i => [.da (talkD T0), .da (.lst (ls.map ltD)), .no, .no, .no]) (fun i => [true, false].all (lawCan1 T0 ls) = ([true, false].drop i).all (lawCan1 T0 ls)) (by repeat (first | exact Sub.nil | refine Sub.eq ?_ | refine Sub.no ?_)) rfl fun i o ho hp => ⟨_, _, hg_name, ?_⟩) fun he => hs_ret (he_bl.to ?_)⟩
    · rw [all_drop ho] at hp
      have hw : (ways T0 o).length ≤ 60 := by
        unfold ways
        cases o
        · exact i2
        · exact i1
      refine hs_seq (hs_set he_int) fun _ => (hs_forX (List.range (ways T0 o).length) (fun k => .int (k : Int)) (hi_range (he_lenL (f := D.int) (xs := ways T0 o) ?_) (by omega)) (fun k => [.da (talkD T0), .da (.lst (ls.map ltD)), .da (.str (wd o)), .da (.int (runLen o ls k : Int)), .no]) (fun k => lawCan1 T0 ls o = ((List.range (ways T0 o).length).drop k).all fun k => decide ((runLen o ls (k + 1) : Int) ≤ T0.loss)) (by repeat (first | exact Sub.nil | refine Sub.eq ?_ | refine Sub.no ?_)) rfl fun k k' hk hq => ⟨_, _, hg_name, ?_⟩).weak fun he => ⟨?_, (by repeat (first | exact Sub.nil | refine Sub.eq ?_ | refine Sub.no ?_))⟩
      · have hix : HE K _ (tIf (tTest (tOp rEq (tVar 2) (tC (.str "out")))) (tC (.int 0)) (tC (.int 1))) (.int (if o = true then 0 else 1)) := he_if (Γ := [.da (talkD T0), .da (.lst (ls.map ltD)), .da (.str (wd o)), .da (.int 0), .no]) (b := o) (HT.to (ht_test (he_op (he_var rfl) he_str rr_eqS)) wd_out) (fun e => he_int.to (by rw [e]; rfl)) (fun e => he_int.to (by rw [e]; rfl))
        refine he_op (he_var rfl) hix (rr_ixL ?_)
        cases o
        · exact at1
        · exact at0
      · have ek : k' = k := by
          have := (List.getElem?_eq_some_iff.mp hk).2
          rw [List.getElem_range] at this
          exact this.symm
        subst ek
        rw [all_drop hk] at hq
        refine hs_seq (hs_set (d := .int (runLen o ls (k' + 1) : Int)) (he_if (b := decide ((⟨o, k'⟩ : Lt) ∈ ls)) (ht_test (he_op (he_tup2 (he_var rfl) (he_var rfl)) (he_var rfl) (rr_inL (l := ⟨o, k'⟩))))  (fun e => HE.to (he_op (he_var rfl) he_int rr_add) ?_) (fun e => he_int.to ?_))) fun _ => (hs_leave (ht_test (he_op (he_var rfl) (he_t2 (he_var rfl)) rr_gt)) fun e => hs_ret (he_bl.to ?_)).weak fun e => ⟨?_, (by repeat (first | exact Sub.nil | refine Sub.eq ?_ | refine Sub.no ?_))⟩
        · have er : runLen o ls (k' + 1) = runLen o ls k' + 1 := by
            show (if (⟨o, k'⟩ : Lt) ∈ ls then runLen o ls k' + 1 else 0) = _
            rw [if_pos (of_decide_eq_true e)]
          rw [er, Int.natCast_add]
          rfl
        · have er : runLen o ls (k' + 1) = 0 := by
            show (if (⟨o, k'⟩ : Lt) ∈ ls then runLen o ls k' + 1 else 0) = _
            rw [if_neg (of_decide_eq_false e)]
          rw [er]
          rfl
        · have q := of_decide_eq_true e
          rw [decide_eq_false (show ¬ (runLen o ls (k' + 1) : Int) ≤ T0.loss by omega), Bool.false_and] at hq
          rw [hq, Bool.false_and] at hp
          exact congrArg D.bl hp.symm
        · have q := of_decide_eq_false e
          rw [decide_eq_true (show (runLen o ls (k' + 1) : Int) ≤ T0.loss by omega), Bool.true_and] at hq
          exact hq
      · have : lawCan1 T0 ls o = true := by
          rw [he, List.drop_length]
          rfl
        rw [hp, this, Bool.true_and]
    · have : lawCan T0 ls = true := by
        show [true, false].all (lawCan1 T0 ls) = true
        rw [he]
        rfl
      rw [this]

end
end Q
/-! Quietdoors: the law's own defs, one by one (2). -/
namespace Q
open PySem PySem.Spec PyProof.Rows L2
section
variable {P : Program} {w : World} {K : PySem.W.Frag} {mg : Str → Option Value} {base : Heap}
theorem he_s0 {Γ : List En} {te : TE} {p : Int × Int} (h : HE K Γ te (spD p)) : HE K Γ (tOp (rIxL K) te (tC (.int 0))) (.int p.1) := he_i0 h
theorem he_s1 {Γ : List En} {te : TE} {p : Int × Int} (h : HE K Γ te (spD p)) : HE K Γ (tOp (rIxL K) te (tC (.int 1))) (.int p.2) := he_i1 h
def r__law_gone : List D → D → Prop := fun ds r => ∃ (R : RowR) (T0 : TalkR) (b : Nat) (f l : Lt), ds = [lineD R, talkD T0, .int (b : Int), ltD f, ltD l] ∧ r = optG (gone R T0 b f l) ∧ (RowOk R) ∧ (TalkOk T0) ∧ (b < R.boxes.length) ∧ (f ∈ letters T0) ∧ (l ∈ letters T0) ∧ True
theorem C__law_gone (T : Tx K mg) : Cal P w K mg base "_law_gone" 3 ["_law_line_here", "_law_talk_here", "_law_b", "_law_one", "_law_other"] (SpR K r__law_gone) := by
  have S : FnScope ["_law_line_here", "_law_talk_here", "_law_b", "_law_one", "_law_other", "_law_start", "_law_end", "_law_found", "_law_letter", "_law_early", "_law_late"] ["_law_line_here", "_law_talk_here", "_law_b", "_law_one", "_law_other"] (defScope (top 75)) := ⟨rfl, rfl, rfl, by decide +kernel, rfl, by decide +kernel, by decide +kernel⟩
  refine cal_of T (i := 75) (by decide +kernel) (fun fd F => fn_hs F S (fun ds r q => ?_) fun cdv A outer s H E hr => ⟨_, (pss_cons (ps_par (by rfl) S.nd (i := 5) (j := 6) rfl rfl (by decide) rfl rfl (pa_cons (pe_ix ix_list (pe_cal (C__law_span T) (hr.mono (by decide)) (by rfl) (pa_cons (pv 0) (pa_cons (pv 1) (pa_cons (pv 2) (pa_cons (pv 3) pa_nil))))) pe_int (fun _ _ => rfl)) (pa_cons (pe_ix ix_list (pe_cal (C__law_span T) (hr.mono (by decide)) (by rfl) (pa_cons (pv 0) (pa_cons (pv 1) (pa_cons (pv 2) (pa_cons (pv 4) pa_nil))))) pe_int (fun _ _ => rfl)) pa_nil)) (by rfl))
  (pss_cons (ps_if (PW.pt (pw_or (pt_cmpR op_le (pv 6) (pv 5) (nomark _)) (pw_or1 (pt_not (pt_val (pe_cal (C__law_is_sight T) (hr.mono (by decide)) (by rfl) (pa_cons (pv 0) (pa_cons (pv 2) (pa_cons (pv 3) pa_nil))))))))) (pss_one (ps_ret pe_non)) pss_nil)
  (pss_cons (ps_set (i := 7) S.nd rfl (Or.inl rfl) (pe_lst pa_nil))
  (pss_cons (ps_frz 7 (ps_for PassesOwn.never rfl (pi_list (pe_cal (C__law_letters T) (hr.mono (by decide)) (by rfl) (pa_cons (pv 1) pa_nil))) (pg_name (i := 8) S.nd rfl (Or.inl rfl))
  (pss_one (ps_if (PW.pt (pw_and (pt_cmpR (op_notInT (room65 hr)) (pv 8) (pe_tup (pa_cons (pv 3) (pa_cons (pv 4) pa_nil))) (by rfl)) (pw_and1 (pt_val (pe_cal (C__law_is_sight T) (hr.mono (by decide)) (by rfl) (pa_cons (pv 0) (pa_cons (pv 2) (pa_cons (pv 8) pa_nil)))))))) (pss_cons (ps_asg (pe_cal (C__law_span T) (hr.mono (by decide)) (by rfl) (pa_cons (pv 0) (pa_cons (pv 1) (pa_cons (pv 2) (pa_cons (pv 8) pa_nil))))) (pg_unl (by rfl) (pgs_cons (pg_name (i := 9) S.nd rfl (Or.inl rfl)) (pgs_cons (pg_name (i := 10) S.nd rfl (Or.inl rfl)) pgs_nil))))
  (pss_one (ps_if (PW.pt (pw_and (pt_cmpR op_gt (pv 9) (pv 5) (nomark _)) (pw_and1 (pt_cmpR op_lt (pv 10) (pv 6) (nomark _))))) (pss_one (ps_expr (pe_bm PySem.F.plainAttrs_list PySem.F.slot_list_append PySem.F.type_list_append mt_append (pv 7) (pa_cons (pv 8) pa_nil)))) pss_nil))) pss_nil))))
  (pss_one (ps_ret (pe_ifExp (pt_val (pe_cal (C__law_can_lose T) (hr.mono (by decide)) (by rfl) (pa_cons (pv 1) (pa_cons (pv 7) pa_nil)))) (pv 7) pe_non))))))), fun ds r q => ?_⟩) (fun _ _ _ _ _ _ us hl => match us, hl with | [_, _, _, _, _], _ => rfl)
  · obtain ⟨_, _, _, _, _, rfl, _⟩ := q
    rfl
  · obtain ⟨R, T0, b, f, l, rfl, rfl, h1, h2, h3, h4, h5, _⟩ := q
    have hL := letters_small h2
    let L := letters T0
    let s := (win R T0 b f).1
    let e := (win R T0 b l).2
    let P1 : Lt → Bool := fun x => (!decide (x = f) && !decide (x = l)) && sightOk R b x
    let P2 : Lt → Bool := fun x => decide (s < (win R T0 b x).1) && decide ((win R T0 b x).2 < e)
    let fd_ : Nat → List Lt := fun i => (L.take i).filter fun x => P1 x && P2 x
    have hfd : ∀ i, ((fd_ i).map ltD).length ≤ 120 := fun i => by
      rw [List.length_map]
      exact Nat.le_trans (List.length_filter_le _ _) (Nat.le_trans (by rw [List.length_take]; exact Nat.min_le_right _ _) hL)
    refine ⟨[], hs_seq (hs_par (he_s0 (he_call (ha_cons (he_var rfl) (ha_cons (he_var rfl) (ha2 (he_var rfl) (he_var rfl)))) ⟨R, T0, b, f, rfl, rfl, h3, h1, h4, trivial⟩)) (he_s1 (he_call (ha_cons (he_var rfl) (ha_cons (he_var rfl) (ha2 (he_var rfl) (he_var rfl)))) ⟨R, T0, b, l, rfl, rfl, h3, h1, h5, trivial⟩))) fun _ =>
      hs_seq (hs_leave (b := (decide (e ≤ s) || !sightOk R b f)) (ht_or (ht_test (he_op (he_var rfl) (he_var rfl) rr_le)) fun _ => ht_not (ht_B (he_call (ha_cons (he_var rfl) (ha2 (he_var rfl) (he_var rfl))) ⟨R, b, f, rfl, rfl, h3, trivial⟩))) fun q => hs_ret (he_non.to ?_)) fun q0 =>
      hs_seq (hs_setL (hl_lst ha_nil (Nat.zero_le _))) fun _ => hs_seq (hs_frz (ds := (goneF R T0 b f l).map ltD) (hs_forX L ltD (hi_list (he_call (ha1 (he_var rfl)) ⟨T0, rfl, rfl, h2, trivial⟩)) (fun i => [.da (lineD R), .da (talkD T0), .da (.int (b : Int)), .da (ltD f), .da (ltD l), .da (.int s), .da (.int e), .own ((fd_ i).map ltD), .no, .no, .no]) (fun _ => True) (by repeat (first | exact Sub.nil | refine Sub.eq ?_ | refine Sub.no ?_)) trivial fun i x hx _ => ⟨_, _, hg_name, ?_⟩) ?_ rfl) fun _ => hs_ret (he_if (b := lawCan T0 (goneF R T0 b f l)) (ht_B (he_call (ha2 (he_var rfl) (he_var rfl)) ⟨T0, goneF R T0 b f l, rfl, rfl, h2, trivial⟩)) (fun q => (he_var rfl).to ?_) (fun q => he_non.to ?_))⟩
    · unfold gone
      rw [if_pos q]
      rfl
    · have hxm : x ∈ letters T0 := List.mem_of_getElem? hx
      have step : (fd_ (i + 1)).map ltD = (fd_ i).map ltD ++ (if (P1 x && P2 x) = true then [ltD x] else []) := by
        show ((L.take (i + 1)).filter fun x => P1 x && P2 x).map ltD = _
        rw [take_snoc hx, List.filter_append, List.map_append]
        by_cases q : (P1 x && P2 x) = true
        · rw [if_pos q, List.filter_cons, if_pos q]
          rfl
        · rw [if_neg q, List.filter_cons, if_neg q]
          rfl
      have hz := hfd i
      refine hs_if (b := P1 x) (ht_and (ht_test (he_op (he_var rfl) (he_tup2 (he_var rfl) (he_var rfl)) rr_notInT2)) fun _ => ht_B (he_call (ha_cons (he_var rfl) (ha2 (he_var rfl) (he_var rfl))) ⟨R, b, x, rfl, rfl, h3, trivial⟩)) (fun q => ?_) (fun q => ?_)
      · refine hs_seq (hs_setG (he_call (ha_cons (he_var rfl) (ha_cons (he_var rfl) (ha2 (he_var rfl) (he_var rfl)))) ⟨R, T0, b, x, rfl, rfl, h3, h1, hxm, trivial⟩) (hg_unl (hgs_cons hg_name (hgs_cons hg_name hgs_nil)) rfl)) fun _ => hs_if (b := P2 x) (ht_and (ht_test (he_op (he_var rfl) (he_var rfl) rr_gt)) fun _ => ht_test (he_op (he_var rfl) (he_var rfl) rr_lt)) (fun q2 => ?_) (fun q2 => ?_)
        · refine (hs_app (i := 7) rfl (by omega) rfl (he_var rfl)).weak fun _ => ⟨trivial, ?_⟩
          rw [step, q, q2, Bool.true_and, if_pos rfl]
          exact (by repeat (first | exact Sub.nil | refine Sub.eq ?_ | refine Sub.no ?_))
        · refine (hs_next (chi := True) trivial).weak fun _ => ⟨trivial, ?_⟩
          rw [step, q, q2, Bool.true_and, if_neg Bool.false_ne_true, List.append_nil]
          exact (by repeat (first | exact Sub.nil | refine Sub.eq ?_ | refine Sub.no ?_))
      · refine (hs_next (chi := True) trivial).weak fun _ => ⟨trivial, ?_⟩
        rw [step, q, Bool.false_and, if_neg Bool.false_ne_true, List.append_nil]
        exact (by repeat (first | exact Sub.nil | refine Sub.eq ?_ | refine Sub.no ?_))
    · show some (En.own ((fd_ L.length).map ltD)) = _
      have : fd_ L.length = goneF R T0 b f l := by
        show ((L.take L.length).filter fun x => P1 x && P2 x) = _
        rw [List.take_length]
        rfl
      rw [this]
    · unfold gone
      rw [if_neg (by rw [show (decide ((win R T0 b l).2 ≤ (win R T0 b f).1) || !sightOk R b f) = false from q0]; exact Bool.false_ne_true), if_pos q]
      rfl
    · unfold gone
      rw [if_neg (by rw [show (decide ((win R T0 b l).2 ≤ (win R T0 b f).1) || !sightOk R b f) = false from q0]; exact Bool.false_ne_true), if_neg (by rw [q]; exact Bool.false_ne_true)]
      rfl

def r__law_gaps : List D → D → Prop := fun ds r => ∃ (R : RowR) (T0 : TalkR) (b : Nat), ds = [lineD R, talkD T0, .int (b : Int)] ∧ r = .lst ((lawPairs R T0 b).map p3D) ∧ (RowOk R) ∧ (TalkOk T0) ∧ (b < R.boxes.length) ∧ True
theorem C__law_gaps (T : Tx K mg) : Cal P w K mg base "_law_gaps" 4 ["_law_line_here", "_law_talk_here", "_law_b"] (SpR K r__law_gaps) := by
  have S : FnScope ["_law_line_here", "_law_talk_here", "_law_b", "_law_found", "_law_one", "_law_other"] ["_law_line_here", "_law_talk_here", "_law_b"] (defScope (top 76)) := ⟨rfl, rfl, rfl, by decide +kernel, rfl, by decide +kernel, by decide +kernel⟩
  refine cal_of T (i := 76) (by decide +kernel) (fun fd F => fn_hs F S (fun ds r q => ?_) fun cdv A outer s H E hr => ⟨_, (pss_cons (ps_set (i := 3) S.nd rfl (Or.inl rfl) (pe_lst pa_nil))
  (pss_cons (ps_frz 3 (ps_for PassesOwn.never rfl (pi_list (pe_cal (C__law_letters T) (hr.mono (by decide)) (by rfl) (pa_cons (pv 1) pa_nil))) (pg_name (i := 4) S.nd rfl (Or.inl rfl))
  (pss_one (ps_for PassesOwn.never rfl (pi_list (pe_cal (C__law_letters T) (hr.mono (by decide)) (by rfl) (pa_cons (pv 1) pa_nil))) (pg_name (i := 5) S.nd rfl (Or.inl rfl))
  (pss_one (ps_if (PW.pt (pw_and (pt_cmpR (op_neD hr.units) (pv 4) (pv 5) (nomark _)) (pw_and1 (pt_cmpR op_notN (pe_cal (C__law_gone T) (hr.mono (by decide)) (by rfl) (pa_cons (pv 0) (pa_cons (pv 1) (pa_cons (pv 2) (pa_cons (pv 4) (pa_cons (pv 5) pa_nil)))))) pe_non (nomark _))))) (pss_one (ps_expr (pe_bm PySem.F.plainAttrs_list PySem.F.slot_list_append PySem.F.type_list_append mt_append (pv 3) (pa_cons (pe_tup (pa_cons (pe_op op_sub (pe_ix ix_list (pe_cal (C__law_span T) (hr.mono (by decide)) (by rfl) (pa_cons (pv 0) (pa_cons (pv 1) (pa_cons (pv 2) (pa_cons (pv 5) pa_nil))))) pe_int (fun _ _ => rfl)) (pe_ix ix_list (pe_cal (C__law_span T) (hr.mono (by decide)) (by rfl) (pa_cons (pv 0) (pa_cons (pv 1) (pa_cons (pv 2) (pa_cons (pv 4) pa_nil))))) pe_int (fun _ _ => rfl))) (pa_cons (pv 4) (pa_cons (pv 5) pa_nil)))) pa_nil)))) pss_nil))))))
  (pss_one (ps_ret (pv 3))))), fun ds r q => ?_⟩) (fun _ _ _ _ _ _ us hl => match us, hl with | [_, _, _], _ => rfl)
  · obtain ⟨_, _, _, rfl, _⟩ := q
    rfl
  · obtain ⟨R, T0, b, rfl, rfl, h1, h2, h3, _⟩ := q
    have hL := letters_small h2
    let L := letters T0
    let oi : Nat → List P3 := fun i => (L.take i).flatMap fun f => lawRow R T0 b f L
    have hoi : ∀ i, (oi i).length ≤ 14400 := fun i => by
      have h := flat_le (f := fun f => lawRow R T0 b f L) (m := 120) (L.take i) fun x _ => Nat.le_trans lawRow_le hL
      have h2 : (L.take i).length ≤ 120 := Nat.le_trans (by rw [List.length_take]; exact Nat.min_le_right _ _) hL
      have h3 : (L.take i).length * 120 ≤ 120 * 120 := Nat.mul_le_mul_right _ h2
      show ((L.take i).flatMap fun f => lawRow R T0 b f L).length ≤ 14400
      omega
    refine ⟨[], hs_seq (hs_setL (hl_lst ha_nil (Nat.zero_le _))) fun _ => hs_seq (hs_frz (ds := (lawPairs R T0 b).map p3D) (hs_forX L ltD (hi_list (he_call (ha1 (he_var rfl)) ⟨T0, rfl, rfl, h2, trivial⟩)) (fun i => [.da (lineD R), .da (talkD T0), .da (.int (b : Int)), .own ((oi i).map p3D), .no, .no]) (fun _ => True) (by repeat (first | exact Sub.nil | refine Sub.eq ?_ | refine Sub.no ?_)) trivial fun i f hf _ => ⟨_, _, hg_name, ?_⟩) ?_ rfl) fun _ => hs_ret (he_var rfl)⟩
    · have hfm : f ∈ letters T0 := List.mem_of_getElem? hf
      have eo : oi (i + 1) = oi i ++ lawRow R T0 b f L := by
        show (L.take (i + 1)).flatMap _ = _
        rw [take_snoc hf, List.flatMap_append, List.flatMap_cons, List.flatMap_nil, List.append_nil]
      refine (hs_forX L ltD (hi_list (he_call (ha1 (he_var rfl)) ⟨T0, rfl, rfl, h2, trivial⟩)) (fun j => [.da (lineD R), .da (talkD T0), .da (.int (b : Int)), .own ((oi i ++ lawRow R T0 b f (L.take j)).map p3D), .da (ltD f), .no]) (fun _ => True) ?_ trivial fun j l hl _ => ⟨_, _, hg_name, ?_⟩).weak fun _ => ⟨trivial, ?_⟩
      · rw [List.take_zero]
        show Sub _ [_, _, _, .own ((oi i ++ []).map p3D), _, _]
        rw [List.append_nil]
        exact (by repeat (first | exact Sub.nil | refine Sub.eq ?_ | refine Sub.no ?_))
      · have hlm : l ∈ letters T0 := List.mem_of_getElem? hl
        let Pq : Bool := !decide (f = l) && (gone R T0 b f l).isSome
        have er : lawRow R T0 b f (L.take (j + 1)) = lawRow R T0 b f (L.take j) ++ (if Pq = true then [((win R T0 b l).2 - (win R T0 b f).1, f, l)] else []) := by
          unfold lawRow
          rw [take_snoc hl, List.filter_append, List.map_append]
          by_cases q : (!decide (f = l) && (gone R T0 b f l).isSome) = true
          · rw [if_pos (show Pq = true from q), List.filter_cons, if_pos q]
            rfl
          · rw [if_neg (show ¬ Pq = true from q), List.filter_cons, if_neg q]
            rfl
        have hsz : ((oi i ++ lawRow R T0 b f (L.take j)).map p3D).length ≤ 14520 := by
          have a1 := hoi i
          have a2 : (lawRow R T0 b f (L.take j)).length ≤ 120 := Nat.le_trans lawRow_le (Nat.le_trans (by rw [List.length_take]; exact Nat.min_le_right _ _) hL)
          rw [List.length_map, List.length_append]
          omega
        refine hs_if (b := Pq) (ht_and (ht_test (he_op (he_var rfl) (he_var rfl) rr_neLt)) fun _ => HT.to (ht_test (he_op (he_call (ha_cons (he_var rfl) (ha_cons (he_var rfl) (ha_cons (he_var rfl) (ha2 (he_var rfl) (he_var rfl))))) ⟨R, T0, b, f, l, rfl, rfl, h1, h2, h3, hfm, hlm, trivial⟩) he_non rr_isNot)) ?_) (fun e => ?_) (fun e => ?_)
        · cases gone R T0 b f l <;> rfl
        · refine (hs_app (i := 3) rfl (by omega) rfl (he_tup3 (he_op (he_s1 (he_call (ha_cons (he_var rfl) (ha_cons (he_var rfl) (ha2 (he_var rfl) (he_var rfl)))) ⟨R, T0, b, l, rfl, rfl, h3, h1, hlm, trivial⟩)) (he_s0 (he_call (ha_cons (he_var rfl) (ha_cons (he_var rfl) (ha2 (he_var rfl) (he_var rfl)))) ⟨R, T0, b, f, rfl, rfl, h3, h1, hfm, trivial⟩)) rr_sub) (he_var rfl) (he_var rfl))).weak fun _ => ⟨trivial, ?_⟩
          have el : (oi i ++ lawRow R T0 b f (L.take (j + 1))).map p3D = (oi i ++ lawRow R T0 b f (L.take j)).map p3D ++ [p3D ((win R T0 b l).2 - (win R T0 b f).1, f, l)] := by
            rw [er, e, if_pos rfl, ← List.append_assoc, List.map_append]
            rfl
          rw [el]
          exact (by repeat (first | exact Sub.nil | refine Sub.eq ?_ | refine Sub.no ?_))
        · refine (hs_next (chi := True) trivial).weak fun _ => ⟨trivial, ?_⟩
          rw [er, e, if_neg Bool.false_ne_true, List.append_nil]
          exact (by repeat (first | exact Sub.nil | refine Sub.eq ?_ | refine Sub.no ?_))
      · rw [eo, List.take_length]
        exact (by repeat (first | exact Sub.nil | refine Sub.eq ?_ | refine Sub.no ?_))
    · show some (En.own ((oi L.length).map p3D)) = some (En.own ((lawPairs R T0 b).map p3D))
      have : oi L.length = lawPairs R T0 b := by
        show (L.take L.length).flatMap _ = _
        rw [List.take_length]
        rfl
      rw [this]

def r__law_greatest : List D → D → Prop := fun ds r => ∃ (R : RowR) (T0 : TalkR) (b : Nat), ds = [lineD R, talkD T0, .int (b : Int)] ∧ r = .int (lawGreat R T0 b) ∧ (RowOk R) ∧ (TalkOk T0) ∧ (b < R.boxes.length) ∧ True
theorem C__law_greatest (T : Tx K mg) : Cal P w K mg base "_law_greatest" 5 ["_law_line_here", "_law_talk_here", "_law_b"] (SpR K r__law_greatest) := by
  have S : FnScope ["_law_line_here", "_law_talk_here", "_law_b", "_law_one"] ["_law_line_here", "_law_talk_here", "_law_b"] (defScope (top 77)) := ⟨rfl, rfl, rfl, by decide +kernel, rfl, by decide +kernel, by decide +kernel⟩
  refine cal_of T (i := 77) (by decide +kernel) (fun fd F => fn_hs F S (fun ds r q => ?_) fun cdv A outer s H E hr => ⟨_, (pss_one (ps_ret (pe_callB (cr_max rfl) (by rfl) (T.fr "max" (by decide +kernel)) (by decide +kernel) (pa_cons (pe_frz (pe_op op_cat (pe_lst (pa_cons pe_int pa_nil)) (pe_lc (own := [("_law_one", 3)]) (g := (gName 3)) (tt := tYes) (te := (tCB rInt1 (tCons (tOp (rIxT K) (tVar 3) (tC (.int 0))) tNil))) (by rfl) S.nd (pi_list (pe_cal (C__law_gaps T) (hr.mono (by decide)) (by rfl) (pa_cons (pv 0) (pa_cons (pv 1) (pa_cons (pv 2) pa_nil))))) (blkOk_by (N := ["_law_line_here", "_law_talk_here", "_law_b", "_law_one"]) (sc := defScope (top 77)) (by decide +kernel)) (fun _ _ _ _ _ => (pg_name (i := 3) S.nd rfl (Or.inl rfl))) (fun _ _ _ _ _ => pts_nil) (fun _ _ _ _ _ => (pe_callTy call_int1 (by rfl) (T.fr "int" (by decide +kernel)) (by decide +kernel) (pa_cons (pe_ix ix_tup (pv 3) pe_int (fun _ _ => rfl)) pa_nil)))))) pa_nil)))), fun ds r q => ?_⟩) (fun _ _ _ _ _ _ us hl => match us, hl with | [_, _, _], _ => rfl)
  · obtain ⟨_, _, _, rfl, _⟩ := q
    rfl
  · obtain ⟨R, T0, b, rfl, rfl, h1, h2, h3, _⟩ := q
    have hp := lawPairs_le (R := R) (b := b) h2
    refine ⟨[], hs_ret (HE.to (he_cb (ha1 (HE.to (he_frz (hl_cat (hl_lst (ha1 he_int) (Nat.le_of_ble_eq_true rfl)) (hl_lcY (lawPairs R T0 b) p3D (fun p => .int p.1) (hi_list (he_call (ha_cons (he_var rfl) (ha2 (he_var rfl) (he_var rfl))) ⟨R, T0, b, rfl, rfl, h1, h2, h3, trivial⟩)) (by omega) fun p hp => ⟨_, _, hg_name, by decide, he_cb (ha1 (he_op (he_var rfl) he_int (rr_ixT at0))) rc_int⟩) ?_)) ?_)) (rc_max (ns := 0 :: (lawPairs R T0 b).map (·.1)) (m := lawGreat R T0 b) (Nat.succ_pos _) fun k hk hj => mxD_is hk hj)) rfl)⟩
    · rw [List.length_map]
      show 1 + _ ≤ _
      omega
    · rw [List.map_cons, List.map_map]
      rfl

def r__law_due : List D → D → Prop := fun ds r => ∃ (R : RowR) (T0 : TalkR) (p : Ppr), ds = [lineD R, talkD T0, .row R, .talk T0, pprD p] ∧ r = .bl (lawDue R T0 p) ∧ (RowOk R) ∧ (TalkOk T0) ∧ (PprOk p) ∧ True
theorem C__law_due (T : Tx K mg) : Cal P w K mg base "_law_due" 8 ["_law_line_here", "_law_talk_here", "_law_row_here", "_law_made", "_law_told"] (SpR K r__law_due) := by
  have S : FnScope ["_law_line_here", "_law_talk_here", "_law_row_here", "_law_made", "_law_told", "_law_bad", "_law_b"] ["_law_line_here", "_law_talk_here", "_law_row_here", "_law_made", "_law_told"] (defScope (top 78)) := ⟨rfl, rfl, rfl, by decide +kernel, rfl, by decide +kernel, by decide +kernel⟩
  refine cal_of T (i := 78) (by decide +kernel) (fun fd F => fn_hs F S (fun ds r q => ?_) fun cdv A outer s H E hr => ⟨_, (pss_cons (ps_if (pt_cmpR op_eq (pe_ix ix_tup (pv 4) pe_int (fun _ _ => rfl)) pe_str (nomark _)) (pss_cons (ps_if (pt_cmpR op_ne (pe_callB call_len (by rfl) (T.fr "len" (by decide +kernel)) (by decide +kernel) (pa_cons (pe_ix ix_tup (pv 4) pe_int (fun _ _ => rfl)) pa_nil)) (pe_callB (call_lenC (hr.mono (by decide)) (C_Row___len__ T)) (by rfl) (T.fr "len" (by decide +kernel)) (by decide +kernel) (pa_cons (pv 2) pa_nil)) (nomark _)) (pss_one (ps_ret pe_bl)) pss_nil)
  (pss_cons (ps_frz 5 (ps_setLc (i := 5) (own := [("_law_b", 6)]) (g := (gName 6)) (tt := (tOr (tTest (tOp (rI0 fun i j => .bl (decide (i < j))) (tOp (rIxT K) (tOp (rIxT K) (tVar 4) (tC (.int 1))) (tVar 6)) (tCall (SpR K r__law_greatest) [] L2.E0 (tCons (tVar 0) (tCons (tVar 1) (tCons (tVar 6) tNil)))))) (tTest (tOp (rI0 fun i j => .bl (decide (j ≤ i))) (tOp (rIxT K) (tOp (rIxT K) (tVar 4) (tC (.int 1))) (tVar 6)) (tOp (rIxL K) (tOp (rIxL K) (tOp (rIxL K) (tVar 0) (tC (.int 0))) (tVar 6)) (tC (.int 0))))))) (te := (tVar 6)) (by rfl) S.nd rfl rfl (sw_true rfl rfl rfl (by decide +kernel)) (pi_range1 (by rfl) (T.fr "range" (by decide +kernel)) (pa_cons (pe_callB (call_lenC (hr.mono (by decide)) (C_Row___len__ T)) (by rfl) (T.fr "len" (by decide +kernel)) (by decide +kernel) (pa_cons (pv 2) pa_nil)) pa_nil)) (blkOk_by (N := ["_law_line_here", "_law_talk_here", "_law_row_here", "_law_made", "_law_told", "_law_bad", "_law_b"]) (sc := defScope (top 78)) (by decide +kernel)) (fun _ _ _ _ _ => (pg_name (i := 6) S.nd rfl (Or.inl rfl))) (fun _ _ _ _ _ => (pts_one (PW.pt (pw_or (pt_cmpR op_lt (pe_ix ix_tup (pe_ix ix_tup (pv 4) pe_int (fun _ _ => rfl)) (pv 6) (fun _ _ => rfl)) (pe_cal (C__law_greatest T) (hr.mono (by decide)) (by rfl) (pa_cons (pv 0) (pa_cons (pv 1) (pa_cons (pv 6) pa_nil)))) (nomark _)) (pw_or1 (pt_cmpR op_ge (pe_ix ix_tup (pe_ix ix_tup (pv 4) pe_int (fun _ _ => rfl)) (pv 6) (fun _ _ => rfl)) (pe_ix ix_list (pe_ix ix_list (pe_ix ix_list (pv 0) pe_int (fun _ _ => rfl)) (pv 6) (fun _ _ => rfl)) pe_int (fun _ _ => rfl)) (nomark _))))))) (fun _ _ _ _ _ => (pv 6))))
  (pss_one (ps_ret (pe_cmpR (op_eqD hr.units) (pv 5) (pe_frz (pe_lst pa_nil)) (nomark _)))))) pss_nil)
  (pss_cons (ps_if (PW.pt (pw_or (pt_cmpR op_ge (pe_ix ix_tup (pv 4) pe_int (fun _ _ => rfl)) (pe_callB (call_lenC (hr.mono (by decide)) (C_Row___len__ T)) (by rfl) (T.fr "len" (by decide +kernel)) (by decide +kernel) (pa_cons (pv 2) pa_nil)) (nomark _)) (pw_or1 (pt_cmpR op_notBl (pe_cal (C_is_course T) (hr.mono (by decide)) (by rfl) (pa_cons (pv 2) (pa_cons (pv 3) (pa_cons (pe_ix ix_tup (pv 4) pe_int (fun _ _ => rfl)) pa_nil)))) pe_bl (nomark _))))) (pss_one (ps_ret pe_bl)) pss_nil)
  (pss_one (ps_ret (pe_cmpR op_ge (pe_cal (C_course_gap T) (hr.mono (by decide)) (by rfl) (pa_cons (pv 2) (pa_cons (pv 3) (pa_cons (pe_ix ix_tup (pv 4) pe_int (fun _ _ => rfl)) (pa_cons (pe_ix ix_tup (pv 4) pe_int (fun _ _ => rfl)) pa_nil))))) (pe_ix ix_list (pe_ix ix_list (pe_ix ix_list (pv 0) pe_int (fun _ _ => rfl)) (pe_ix ix_tup (pv 4) pe_int (fun _ _ => rfl)) (fun _ _ => rfl)) pe_int (fun _ _ => rfl)) (nomark _)))))), fun ds r q => ?_⟩) (fun _ _ _ _ _ _ us hl => match us, hl with | [_, _, _, _, _], _ => rfl)
  · obtain ⟨_, _, _, rfl, _⟩ := q
    rfl
  · obtain ⟨R, T0, p, rfl, rfl, h1, h2, h3, _⟩ := q
    have hR := h1.2.2
    cases p with
    | kept vs =>
      have hv : vs.length ≤ 100 := h3
      have ed : lawDue R T0 (.kept vs) = (decide (vs.length = R.boxes.length) && (badsOf R T0 vs).isEmpty) := rfl
      rw [ed]
      have hk : ∀ Γ : List En, ∀ te : TE, HE K Γ te (pprD (.kept vs)) → HE K Γ (tOp (rIxT K) te (tC (.int 1))) (.tup (vs.map .int)) := fun Γ te h => he_op h he_int (rr_ixT at1)
      refine ⟨[], hs_seq (hs_if (chi := False) (Γ' := []) (b := true) (HT.to (ht_test (he_op (he_op (he_var rfl) he_int (rr_ixT at0)) he_str rr_eqS)) (decide_eq_true rfl)) (fun _ => hs_seq (hs_leave (b := !decide (vs.length = R.boxes.length)) (HT.to (ht_test (he_op (he_lenT (hk _ _ (he_var rfl))) (he_cb (ha1 (he_var rfl)) (rc_lenO rfl ⟨R, rfl, rfl, trivial⟩ (by omega))) rr_neI)) ?_) fun e => hs_ret (he_bl.to ?_)) fun e => ?_) (fun q => nomatch q)) fun f => f.elim⟩
      · by_cases q : vs.length = R.boxes.length
        · rw [decide_eq_true q, decide_eq_true (by omega)]
        · rw [decide_eq_false q, decide_eq_false (by omega)]
      · cases q : decide (vs.length = R.boxes.length) with
        | false => rfl
        | true => rw [q] at e; cases e
      · have q1 : decide (vs.length = R.boxes.length) = true := by
          cases q : decide (vs.length = R.boxes.length) with
          | true => rfl
          | false => rw [q] at e; cases e
        have q2 := of_decide_eq_true q1
        refine hs_seq (hs_frz (hs_setL (HL.to (hl_lc (List.range R.boxes.length) (fun k => .int (k : Int)) (fun k => decide ((vs[k]?).getD 0 < lawGreat R T0 k) || decide (lowAt R k ≤ (vs[k]?).getD 0)) (fun k => .int (k : Int)) (hi_range (he_cb (ha1 (he_var rfl)) (rc_lenO rfl ⟨R, rfl, rfl, trivial⟩ (by omega))) (by omega)) (by rw [List.length_range]; omega) fun k hk2 => ⟨_, _, hg_name, by decide, ht_or (ht_test (he_op (he_ixTm (f := D.int) (a := (vs[k]?).getD 0) k (hk _ _ (he_var rfl)) (he_var rfl) rfl ?_) (he_call (ha_cons (he_var rfl) (ha2 (he_var rfl) (he_var rfl))) ⟨R, T0, k, rfl, rfl, h1, h2, List.mem_range.mp hk2, trivial⟩) rr_lt)) fun _ => ht_test (he_op (he_ixTm (f := D.int) (a := (vs[k]?).getD 0) k (hk _ _ (he_var rfl)) (he_var rfl) rfl ?_) (he_low (he_var rfl) (he_var rfl) (List.mem_range.mp hk2)) rr_ge), fun _ => he_var rfl⟩) (es := ((badsOf R T0 vs).map Int.ofNat).map .int) ?_)) rfl rfl) fun _ => hs_ret (HE.to (he_op (he_var rfl) (he_frz (hl_lst ha_nil (Nat.zero_le _))) rr_eqNil) ?_)
        · have : k < vs.length := by rw [q2]; exact List.mem_range.mp hk2
          rw [List.getElem?_eq_getElem this]
          rfl
        · have : k < vs.length := by rw [q2]; exact List.mem_range.mp hk2
          rw [List.getElem?_eq_getElem this]
          rfl
        · rw [List.map_map]
          rfl
        · rw [q1, Bool.true_and, List.isEmpty_map]
    | broken b c =>
      have ne : decide (("broken" : Str) = ("kept" : Str)) = false := by decide +kernel
      have hb1 : ∀ Γ : List En, ∀ te : TE, HE K Γ te (pprD (.broken b c)) → HE K Γ (tOp (rIxT K) te (tC (.int 1))) (.int (b : Int)) := fun Γ te h => he_op h he_int (rr_ixT at1)
      have hb2 : ∀ Γ : List En, ∀ te : TE, HE K Γ te (pprD (.broken b c)) → HE K Γ (tOp (rIxT K) te (tC (.int 2))) (crsD c) := fun Γ te h => he_op h he_int (rr_ixT at2)
      refine ⟨[], hs_seq (hs_guard (b := false) (HT.to (ht_test (he_op (he_op (he_var rfl) he_int (rr_ixT at0)) he_str rr_eqS)) ne) rfl) fun _ => hs_seq (hs_leave (b := (!decide (b < R.boxes.length) || !isCourse R T0 c)) (ht_or (HT.to (ht_test (he_op (hb1 _ _ (he_var rfl)) (he_cb (ha1 (he_var rfl)) (rc_lenO rfl ⟨R, rfl, rfl, trivial⟩ (by omega))) rr_ge)) ?_) fun _ => HT.to (ht_test (he_op (he_call (ha_cons (he_var rfl) (ha2 (he_var rfl) (hb2 _ _ (he_var rfl)))) ⟨R, T0, c, rfl, rfl, h1, h2, h3, trivial⟩) he_bl rr_notB)) ?_) fun e => hs_ret (he_bl.to ?_)) fun e => ?_⟩
      · by_cases q : b < R.boxes.length
        · rw [decide_eq_true q, decide_eq_false (by omega)]
          rfl
        · rw [decide_eq_false q, decide_eq_true (by omega)]
          rfl
      · cases isCourse R T0 c <;> rfl
      · show D.bl false = D.bl (accBroken R T0 b c)
        unfold accBroken
        cases q1 : decide (b < R.boxes.length) <;> cases q2 : isCourse R T0 c <;> rw [q1, q2] at e <;> first | rfl | cases e
      · have q1 : decide (b < R.boxes.length) = true := by
          cases q : decide (b < R.boxes.length) with
          | true => rfl
          | false => rw [q] at e; cases e
        have q2 : isCourse R T0 c = true := by
          cases q : isCourse R T0 c with
          | true => rfl
          | false => rw [q1, q] at e; cases e
        have hb := of_decide_eq_true q1
        refine hs_ret (HE.to (he_op (he_call (ha_cons (he_var rfl) (ha_cons (he_var rfl) (ha2 (hb2 _ _ (he_var rfl)) (hb1 _ _ (he_var rfl))))) ⟨R, T0, c, b, rfl, rfl, h1, h2, h3, q2, hb, trivial⟩) (he_low (he_var rfl) (hb1 _ _ (he_var rfl)) hb) rr_ge) ?_)
        show _ = D.bl (accBroken R T0 b c)
        unfold accBroken
        rw [q1, q2]
        rfl

end
end Q
/-! Quietdoors: the law's own defs, one by one (3): the bounds. -/
namespace Q
open PySem PySem.Spec PyProof.Rows L2
theorem ixN_of {n j : Nat} (hj : j < n) : ixN n (j : Int) = some j := by
  unfold ixN
  rw [if_pos (by omega), if_pos (by omega)]
  simp
section
variable {P : Program} {w : World} {K : PySem.W.Frag} {mg : Str → Option Value} {base : Heap}
def r__law_bounds_right : List D → D → Prop := fun ds r => ∃ (R : RowR) (T0 : TalkR), ds = [lineD R, .row R, .talk T0, .lst (((List.range R.boxes.length).map (lawGreat R T0)).map .int)] ∧ r = .bl true ∧ (RowOk R) ∧ (TalkOk T0) ∧ True
theorem C__law_bounds_right (T : Tx K mg) : Cal P w K mg base "_law_bounds_right" 10 ["_law_line_here", "_law_row_here", "_law_made", "_law_most"] (SpR K r__law_bounds_right) := by
  have S : FnScope ["_law_line_here", "_law_row_here", "_law_made", "_law_most", "_law_b", "_law_count", "_law_table", "_law_bad", "_law_k"] ["_law_line_here", "_law_row_here", "_law_made", "_law_most"] (defScope (top 79)) := ⟨rfl, rfl, rfl, by decide +kernel, rfl, by decide +kernel, by decide +kernel⟩
  refine cal_of T (i := 79) (by decide +kernel) (fun fd F => fn_hs F S (fun ds r q => ?_) fun cdv A outer s H E hr => ⟨_, (pss_cons (ps_for PassesOwn.never rfl (pi_range1 (by rfl) (T.fr "range" (by decide +kernel)) (pa_cons (pe_callB (call_lenC (hr.mono (by decide)) (C_Row___len__ T)) (by rfl) (T.fr "len" (by decide +kernel)) (by decide +kernel) (pa_cons (pv 1) pa_nil)) pa_nil)) (pg_name (i := 4) S.nd rfl (Or.inl rfl))
  (pss_one (ps_for PassesOwn.never rfl (pi_list (pe_frz (pe_lst (pa_cons (pe_op op_sub (pe_ix ix_list (pv 3) (pv 4) (fun _ _ => rfl)) pe_int) (pa_cons (pe_ix ix_list (pv 3) (pv 4) (fun _ _ => rfl)) (pa_cons (pe_op op_sub (pe_ix ix_list (pe_ix ix_list (pe_ix ix_list (pv 0) pe_int (fun _ _ => rfl)) (pv 4) (fun _ _ => rfl)) pe_int (fun _ _ => rfl)) pe_int) (pa_cons (pe_ix ix_list (pe_ix ix_list (pe_ix ix_list (pv 0) pe_int (fun _ _ => rfl)) (pv 4) (fun _ _ => rfl)) pe_int (fun _ _ => rfl)) pa_nil))))))) (pg_name (i := 5) S.nd rfl (Or.inl rfl))
  (pss_cons (ps_set (i := 6) S.nd rfl (Or.inr rfl) (pe_lc (own := [("_law_k", 8)]) (g := (gName 8)) (tt := tYes) (te := (tCB (rMax K) (tCons (tFrz (tLst (tCons (tCB rInt1 (tCons (tOp (rIxL K) (tVar 3) (tVar 8)) tNil)) (tCons (tC (.int 0)) tNil)))) tNil))) (by rfl) S.nd (pi_range1 (by rfl) (T.fr "range" (by decide +kernel)) (pa_cons (pe_callB (call_lenC (hr.mono (by decide)) (C_Row___len__ T)) (by rfl) (T.fr "len" (by decide +kernel)) (by decide +kernel) (pa_cons (pv 1) pa_nil)) pa_nil)) (blkOk_by (N := ["_law_line_here", "_law_row_here", "_law_made", "_law_most", "_law_b", "_law_count", "_law_table", "_law_bad", "_law_k"]) (sc := defScope (top 79)) (by decide +kernel)) (fun _ _ _ _ _ => (pg_name (i := 8) S.nd rfl (Or.inl rfl))) (fun _ _ _ _ _ => pts_nil) (fun _ _ _ _ _ => (pe_callB (cr_max rfl) (by rfl) (T.fr "max" (by decide +kernel)) (by decide +kernel) (pa_cons (pe_frz (pe_lst (pa_cons (pe_callTy call_int1 (by rfl) (T.fr "int" (by decide +kernel)) (by decide +kernel) (pa_cons (pe_ix ix_list (pv 3) (pv 8) (fun _ _ => rfl)) pa_nil)) (pa_cons pe_int pa_nil)))) pa_nil)))))
  (pss_cons (ps_frz 6 (ps_asg (pv 5) (pg_sub (pv 6) (pv 4) set_list)))
  (pss_cons (ps_frz 7 (ps_setLc (i := 7) (own := [("_law_k", 8)]) (g := (gName 8)) (tt := (tOr (tTest (tOp (rI0 fun i j => .bl (decide (i < j))) (tOp (rIxL K) (tVar 6) (tVar 8)) (tOp (rIxL K) (tVar 3) (tVar 8)))) (tTest (tOp (rI0 fun i j => .bl (decide (j ≤ i))) (tOp (rIxL K) (tVar 6) (tVar 8)) (tOp (rIxL K) (tOp (rIxL K) (tOp (rIxL K) (tVar 0) (tC (.int 0))) (tVar 8)) (tC (.int 0))))))) (te := (tVar 8)) (by rfl) S.nd rfl rfl (sw_true rfl rfl rfl (by decide +kernel)) (pi_range1 (by rfl) (T.fr "range" (by decide +kernel)) (pa_cons (pe_callB (call_lenC (hr.mono (by decide)) (C_Row___len__ T)) (by rfl) (T.fr "len" (by decide +kernel)) (by decide +kernel) (pa_cons (pv 1) pa_nil)) pa_nil)) (blkOk_by (N := ["_law_line_here", "_law_row_here", "_law_made", "_law_most", "_law_b", "_law_count", "_law_table", "_law_bad", "_law_k"]) (sc := defScope (top 79)) (by decide +kernel)) (fun _ _ _ _ _ => (pg_name (i := 8) S.nd rfl (Or.inl rfl))) (fun _ _ _ _ _ => (pts_one (PW.pt (pw_or (pt_cmpR op_lt (pe_ix ix_list (pv 6) (pv 8) (fun _ _ => rfl)) (pe_ix ix_list (pv 3) (pv 8) (fun _ _ => rfl)) (nomark _)) (pw_or1 (pt_cmpR op_ge (pe_ix ix_list (pv 6) (pv 8) (fun _ _ => rfl)) (pe_ix ix_list (pe_ix ix_list (pe_ix ix_list (pv 0) pe_int (fun _ _ => rfl)) (pv 8) (fun _ _ => rfl)) pe_int (fun _ _ => rfl)) (nomark _))))))) (fun _ _ _ _ _ => (pv 8))))
  (pss_one (ps_if (pt_cmpR op_ne (pe_callB call_reprB (by rfl) (T.fr "repr" (by decide +kernel)) (by decide +kernel) (pa_cons (pe_cal (C_accepts T) (hr.mono (by decide)) (by rfl) (pa_cons (pv 1) (pa_cons (pv 2) (pa_cons (pe_tup (pa_cons pe_str (pa_cons (pe_callTy call_tuple_of (by rfl) (T.fr "tuple" (by decide +kernel)) (by decide +kernel) (pa_cons (pv 6) pa_nil)) pa_nil))) pa_nil)))) pa_nil)) (pe_callB call_reprB (by rfl) (T.fr "repr" (by decide +kernel)) (by decide +kernel) (pa_cons (pe_cmpR (op_eqD hr.units) (pv 7) (pe_frz (pe_lst pa_nil)) (nomark _)) pa_nil)) (nomark _)) (pss_one (ps_ret pe_bl)) pss_nil))))))))
  (pss_one (ps_ret pe_bl))), fun ds r q => ?_⟩) (fun _ _ _ _ _ _ us hl => match us, hl with | [_, _, _, _], _ => rfl)
  · obtain ⟨_, _, rfl, _⟩ := q
    rfl
  · obtain ⟨R, T0, rfl, rfl, h1, h2, _⟩ := q
    have hR := h1.2.2
    let n := R.boxes.length
    let mos : List Int := (List.range n).map (lawGreat R T0)
    have hmos : ∀ k, k < n → mos[k]? = some (lawGreat R T0 k) := fun k hk => by
      show ((List.range n).map (lawGreat R T0))[k]? = _
      rw [List.getElem?_map, List.getElem?_range hk]
      rfl
    let v : Nat → Int := fun k => mxD [lawGreat R T0 k, 0] 0
    let base_ : List Int := (List.range n).map v
    refine ⟨[], hs_seq (hs_forX (List.range n) (fun k => .int (k : Int)) (hi_range (n := n) (he_cb (ha1 (he_var rfl)) (rc_lenO rfl ⟨R, rfl, rfl, trivial⟩ (by omega))) (by omega)) (fun _ => [.da (lineD R), .da (.row R), .da (.talk T0), .da (.lst (mos.map .int)), .no, .no, .no, .no, .no]) (fun _ => True) (by repeat (first | exact Sub.nil | refine Sub.eq ?_ | refine Sub.no ?_)) trivial fun i b hb _ => ⟨_, _, hg_name, ?_⟩) fun _ => hs_ret he_bl⟩
    have hbn : b < n := by
      have := List.mem_of_getElem? hb
      exact List.mem_range.mp this
    refine (hs_forX [lawGreat R T0 b - 1, lawGreat R T0 b, lowAt R b - 1, lowAt R b] D.int (HI.to (hi_list (he_frz (hl_lst (ha_cons (he_op (he_ixLm (f := D.int) b (he_var rfl) (he_var rfl) rfl (hmos b hbn)) he_int rr_sub) (ha_cons (he_ixLm (f := D.int) b (he_var rfl) (he_var rfl) rfl (hmos b hbn)) (ha2 (he_op (he_low (he_var rfl) (he_var rfl) hbn) he_int rr_sub) (he_low (he_var rfl) (he_var rfl) hbn)))) (Nat.le_of_ble_eq_true rfl)))) rfl) (fun _ => [.da (lineD R), .da (.row R), .da (.talk T0), .da (.lst (mos.map .int)), .da (.int (b : Int)), .no, .no, .no, .no]) (fun _ => True) (by repeat (first | exact Sub.nil | refine Sub.eq ?_ | refine Sub.no ?_)) trivial fun j cnt hc _ => ⟨_, _, hg_name, ?_⟩).weak fun _ => ⟨trivial, (by repeat (first | exact Sub.nil | refine Sub.eq ?_ | refine Sub.no ?_))⟩
    let vs : List Int := base_.set b cnt
    have hlen : vs.length = n := by
      show (((List.range n).map v).set b cnt).length = n
      rw [List.length_set, List.length_map, List.length_range]
    have hvs : ∀ k, k < n → vs[k]? = some ((vs[k]?).getD 0) := fun k hk => by
      rw [List.getElem?_eq_getElem (by rw [hlen]; exact hk)]
      rfl
    have hn4 : n ≤ 4 := hR
    refine hs_seq (hs_setL (HL.to (hl_lcY (List.range n) (fun k => .int (k : Int)) (fun k => .int (v k)) (hi_range (n := n) (he_cb (ha1 (he_var rfl)) (rc_lenO rfl ⟨R, rfl, rfl, trivial⟩ (by omega))) (by omega)) (by rw [List.length_range]; omega) fun k hk => ⟨_, _, hg_name, by decide, he_cb (ha1 (he_frz (HL.to (hl_lst (ha2 (he_cb (ha1 (he_ixLm (f := D.int) k (he_var rfl) (he_var rfl) rfl (hmos k (List.mem_range.mp hk)))) rc_int) he_int) (Nat.le_of_ble_eq_true rfl)) (es := [lawGreat R T0 k, 0].map .int) rfl))) (rc_max (ns := [lawGreat R T0 k, 0]) (m := v k) (Nat.succ_pos _) fun z hz hj => mxD_is hz hj)⟩) (es := base_.map .int) (by
        show _ = ((List.range n).map v).map D.int
        rw [List.map_map]
        rfl))) fun _ => hs_seq (hs_frz (ds := vs.map .int) (hs_setI (i := 6) (j := b) rfl ?_ rfl (he_var rfl) (he_var rfl)) ?_ rfl) fun _ => ?_
    · have hbl : (base_.map D.int).length = n := by
        show (((List.range n).map v).map D.int).length = n
        rw [List.length_map, List.length_map, List.length_range]
      rw [hbl]
      exact ixN_of hbn
    · show some (En.own ((base_.map D.int).set b (.int cnt))) = some (En.own ((base_.set b cnt).map D.int))
      rw [List.map_set]
    · refine hs_seq (hs_frz (hs_setL (HL.to (hl_lc (List.range n) (fun k => .int (k : Int)) (fun k => decide ((vs[k]?).getD 0 < lawGreat R T0 k) || decide (lowAt R k ≤ (vs[k]?).getD 0)) (fun k => .int (k : Int)) (hi_range (n := n) (he_cb (ha1 (he_var rfl)) (rc_lenO rfl ⟨R, rfl, rfl, trivial⟩ (by omega))) (by omega)) (by rw [List.length_range]; omega) fun k hk => ⟨_, _, hg_name, by decide, ht_or (ht_test (he_op (he_ixLm (f := D.int) k (he_var rfl) (he_var rfl) rfl (hvs k (List.mem_range.mp hk))) (he_ixLm (f := D.int) k (he_var rfl) (he_var rfl) rfl (hmos k (List.mem_range.mp hk))) rr_lt)) fun _ => ht_test (he_op (he_ixLm (f := D.int) k (he_var rfl) (he_var rfl) rfl (hvs k (List.mem_range.mp hk))) (he_low (he_var rfl) (he_var rfl) (List.mem_range.mp hk)) rr_ge), fun _ => he_var rfl⟩) (es := ((badsOf R T0 vs).map Int.ofNat).map .int) (by
          rw [List.map_map]
          rfl))) rfl rfl) fun _ => (hs_guard (ht_test (he_reprNe (a := acc R T0 (.kept vs)) (b := ((badsOf R T0 vs).map Int.ofNat).isEmpty) (he_call (ha_cons (he_var rfl) (ha2 (he_var rfl) (he_tup2 he_str (he_cb (ha1 (he_var rfl)) rc_tup)))) ⟨R, T0, .kept vs, rfl, rfl, h1, h2, (by show vs.length ≤ 100; omega), trivial⟩) (he_op (he_var rfl) (he_frz (hl_lst ha_nil (Nat.zero_le _))) rr_eqNil))) ?_).weak fun _ => ⟨trivial, (by repeat (first | exact Sub.nil | refine Sub.eq ?_ | refine Sub.no ?_))⟩
      have e : acc R T0 (.kept vs) = ((badsOf R T0 vs).map Int.ofNat).isEmpty := by
        rw [← due_acc h2]
        show (decide (vs.length = R.boxes.length) && (badsOf R T0 vs).isEmpty) = _
        rw [decide_eq_true hlen, Bool.true_and, List.isEmpty_map]
      rw [e, decide_eq_true rfl]
      rfl

end
end Q
/-! Quietdoors: judgements where a source at s is drawn from: all but s stays, s stays a source. -/
namespace Q
open PySem PySem.Spec PyProof.Rows L2
def ExS (s : Addr) (H H' : Hp) : Prop := ∀ a o, a ≠ s → H a = some o → H' a = some o
def Sc (H : Hp) (s : Addr) : Prop := ∃ (c : Addr) (ns : List Int) (o : Obj) (i big seed : Int), H s = some (.lst [.ref c, .int i, .int big, .int seed]) ∧ H c = some (.frz o (.lst (ns.map V.int))) ∧ 0 ≤ i ∧ 0 ≤ seed ∧ seed < 2147483647
section
variable {K : PySem.W.Frag} {s : Addr} {H H' H1 H2 : Hp} {Γ Γ1 Γ' : List En} {ta tb tc te : TE} {tr : TA}
theorem ExS.refl : ExS s H H := fun _ _ _ h => h
theorem ExS.trans (a : ExS s H H1) (b : ExS s H1 H2) : ExS s H H2 := fun x o hx h => b x o hx (a x o hx h)
theorem Ex.toS (e : Ex H H') : ExS s H H' := fun a o _ h => e a o h
theorem Sc.ex (h : Sc H s) (e : Ex H H') : Sc H' s := by
  obtain ⟨c, ns, o, i, big, seed, h1, h2, h3⟩ := h
  exact ⟨c, ns, o, i, big, seed, e _ _ h1, e _ _ h2, h3⟩
theorem Sc.has (h : Sc H s) : ∃ xs, H s = some (.lst xs) := by
  obtain ⟨c, ns, o, i, big, seed, h1, _⟩ := h
  exact ⟨_, h1⟩
theorem ExS.i (e : ExS s H H') (h : Sc H s) : ExI H H' := fun a o ha him => by
  obtain ⟨xs, hs⟩ := h.has
  by_cases q : a = s
  · rw [q, hs] at ha
    cases ha
    exact him.elim
  · exact e a o q ha
theorem Is.exS {v : V} {d : D} (i : Is K H v d) (e : ExS s H H') (h : Sc H s) : Is K H' v d := i.mono (e.i h)
theorem IsL.exS {vs : List V} {ds : List D} (i : IsL K H vs ds) (e : ExS s H H') (h : Sc H s) : IsL K H' vs ds := i.mono (e.i h)
theorem Sat.exS {H0 : Hp} (h0 : ∃ u, H0 s = some u) (e : ExS s H H') (h : Sc H s) : ∀ {Γ : List En} {σ : L2.St}, Sat K H0 H Γ σ → Sat K H0 H' Γ σ := fun {Γ σ} => by
  obtain ⟨u, hu⟩ := h0
  intro st
  induction st with
  | nil => exact .nil
  | @cons en o Γ σ a r ih =>
    refine .cons ?_ ih
    cases en with
    | no => exact True.intro
    | da d =>
      obtain ⟨v, h1, h2⟩ := a
      exact ⟨v, h1, h2.exS e h⟩
    | own ds =>
      obtain ⟨l, xs, h1, h2, h3, h4⟩ := a
      exact ⟨l, xs, h1, h2, e _ _ (fun q => by rw [q, hu] at h2; cases h2) h3, h4.exS e h⟩
    | ownT ds =>
      obtain ⟨l, xs, h1, h2, h3, h4⟩ := a
      exact ⟨l, xs, h1, h2, e _ _ (fun q => by rw [q, hu] at h2; cases h2) h3, h4.mono (e.i h)⟩
theorem Sat.base {H0 H0' : Hp} (h : ∀ l, H0 l = none → H0' l = none) : ∀ {Γ : List En} {σ : L2.St}, Sat K H0 H Γ σ → Sat K H0' H Γ σ := fun {Γ σ} st => by
  induction st with
  | nil => exact .nil
  | @cons en o Γ σ a r ih =>
    refine .cons ?_ ih
    cases en with
    | no => exact True.intro
    | da d => exact a
    | own ds =>
      obtain ⟨l, xs, h1, h2, h3⟩ := a
      exact ⟨l, xs, h1, h l h2, h3⟩
    | ownT ds =>
      obtain ⟨l, xs, h1, h2, h3⟩ := a
      exact ⟨l, xs, h1, h l h2, h3⟩
theorem Sat.noBase {H0 H0' : Hp} : ∀ {Γ : List En} {σ : L2.St}, noOwn Γ = true → Sat K H0 H Γ σ → Sat K H0' H Γ σ
  | _, _, _, .nil => .nil
  | .no :: _, _, n, .cons _ r => .cons True.intro (Sat.noBase n r)
  | .da _ :: _, _, n, .cons h r => .cons h (Sat.noBase n r)
end
section
variable (K : PySem.W.Frag) (s : Addr)
def HX (Γ : List En) (te : TE) (P : D → Prop) : Prop := ∀ H0 σ H, Sat K H0 H Γ σ → (∃ u, H0 s = some u) → Sc H s → ∀ Q : VK, (∀ v H' d, P d → ExS s H H' → Sc H' s → Is K H' v d → Q v H') → te σ H Q
def HXL (Γ : List En) (te : TE) (P : List D → Prop) : Prop := ∀ H0 σ H, Sat K H0 H Γ σ → (∃ u, H0 s = some u) → Sc H s → ∀ Q : VK, (∀ p xs H' ds, P ds → H p = none → ExS s H H' → Sc H' s → H' p = some (.lst xs) → IsL K H' xs ds → Q (.ref p) H') → te σ H Q
def HXA (Γ : List En) (ta : TA) (P : List D → Prop) : Prop := ∀ H0 σ H, Sat K H0 H Γ σ → (∃ u, H0 s = some u) → Sc H s → ∀ Q : List V → Hp → Prop, (∀ vs H' ds, P ds → ExS s H H' → Sc H' s → IsL K H' vs ds → Q vs H') → ta σ H Q
/-- a statement: it hands back what R says, or goes on in a context that Post says -/
def HXN (Γ : List En) (ts : TS) (R : D → Prop) (Post : List En → Prop) : Prop := ∀ H0 σ H (E : Ends), ExS s H0 H → Sat K H0 H Γ σ → (∃ u, H0 s = some u) → Sc H s → (∀ v H' d, R d → ExS s H0 H' → Sc H' s → Is K H' v d → E.rt v H') →
  (∀ σ' H' Γ', Post Γ' → ExS s H0 H' → ExI H H' → Sc H' s → Sat K H0 H' Γ' σ' → E.nx σ' H') → ts E σ H
end
/-- the promise of a def that draws: rel tells from the data behind the source what the answer is like -/
def SpX (K : PySem.W.Frag) (rel : List D → (D → Prop) → Prop) : Sp := fun vs H Q _ => ∃ s ws ds P, vs = .ref s :: ws ∧ rel ds P ∧ IsL K H ws ds ∧ Sc H s ∧ ∀ v H' d, P d → ExS s H H' → Sc H' s → Is K H' v d → Q v H'
section
variable {K : PySem.W.Frag} {s : Addr} {Γ Γ1 Γ' : List En} {ta tb tc te : TE} {tr : TA} {P P' R : D → Prop} {Ps : List D → Prop} {Post Mid : List En → Prop} {ts tu : TS} {d r : D} {ds : List D}
theorem hx_of (h : HE K Γ te d) : HX K s Γ te (fun x => x = d) := fun H0 σ H st _ sc Q q => h H0 σ H st _ fun v H1 e1 i1 => q v H1 d rfl e1.toS (sc.ex e1) i1
theorem hxl_of (h : HL K Γ te ds) : HXL K s Γ te (fun x => x = ds) := fun H0 σ H st _ sc Q q => h H0 σ H st _ fun p xs H1 hp e1 h1 i1 => q p xs H1 ds rfl hp e1.toS (sc.ex e1) h1 i1
theorem HX.imp (h : HX K s Γ te P) (hi : ∀ d, P d → P' d) : HX K s Γ te P' := fun H0 σ H st hs sc Q q => h H0 σ H st hs sc Q fun v H' d p => q v H' d (hi d p)
theorem HXL.imp {Ps' : List D → Prop} (h : HXL K s Γ te Ps) (hi : ∀ d, Ps d → Ps' d) : HXL K s Γ te Ps' := fun H0 σ H st hs sc Q q => h H0 σ H st hs sc Q fun p xs H' d w => q p xs H' d (hi d w)
theorem hxa_nil : HXA K s Γ tNil (fun ds => ds = []) := fun H0 σ H _ _ sc Q q => q [] H [] rfl .refl sc .nil
theorem hxa_cons (h : HX K s Γ te P) (hr : HXA K s Γ tr Ps) : HXA K s Γ (tCons te tr) (fun ds => ∃ d r, ds = d :: r ∧ P d ∧ Ps r) := fun H0 σ H st hs sc Q q =>
  h H0 σ H st hs sc _ fun v H1 d p e1 sc1 i1 => hr H0 σ H1 (st.exS hs e1 sc) hs sc1 _ fun vs H2 ds ps e2 sc2 i2 => q _ H2 _ ⟨d, ds, rfl, p, ps⟩ (e1.trans e2) sc2 (.cons (i1.exS e2 sc1) i2)
theorem hxa_of {ta : TA} (h : HA K Γ ta ds) : HXA K s Γ ta (fun x => x = ds) := fun H0 σ H st _ sc Q q => h H0 σ H st _ fun vs H1 e1 i1 => q vs H1 ds rfl e1.toS (sc.ex e1) i1
theorem hx_op {r : R2} (ha : HX K s Γ ta P) (hb : HX K s Γ tb P') (hr : ∀ x y, P x → P' y → ∃ z, RR K r x y z ∧ R z) : HX K s Γ (tOp r ta tb) R := fun H0 σ H st hs sc Q q =>
  ha H0 σ H st hs sc _ fun v H1 x px e1 sc1 i1 => hb H0 σ H1 (st.exS hs e1 sc) hs sc1 _ fun w H2 y py e2 sc2 i2 => by
    obtain ⟨z, hz, rz⟩ := hr x y px py
    exact hz H2 v w (i1.exS e2 sc1) i2 Q fun u H3 e3 i3 => q u H3 z rz ((e1.trans e2).trans e3.toS) (sc2.ex e3) i3
theorem hx_call {rel : List D → (D → Prop) → Prop} {E : XK} {i : Nat} (hi : Γ[i]? = some (.da (.adr s))) (h : HXA K s Γ tr Ps) (hr : ∀ ds, Ps ds → ∃ P, rel ds P ∧ ∀ d, P d → P' d) : HX K s Γ (tCall (SpX K rel) [] E (tCons (tVar i) tr)) P' := fun H0 σ H st hs sc Q q => by
  obtain ⟨o, h1, u, h2, h3⟩ := st.get hi
  subst h2
  cases h3
  refine ⟨_, h1, h H0 σ H st hs sc _ fun vs H1 ds ps e1 sc1 i1 => ?_⟩
  obtain ⟨P, hp, himp⟩ := hr ds ps
  exact ⟨s, vs, ds, P, by rw [List.append_nil], hp, i1, sc1, fun v H2 d pd e2 sc2 i2 => q v H2 d (himp d pd) (e1.trans e2) sc2 i2⟩
theorem hx_tup (h : HXA K s Γ tr Ps) (hl : ∀ ds, Ps ds → ds.length ≤ 100000) : HX K s Γ (tTup tr) (fun d => ∃ ds, d = .tup ds ∧ Ps ds) := fun H0 σ H st hs sc Q q =>
  h H0 σ H st hs sc _ fun vs H1 ds ps e1 sc1 i1 => ⟨small_line (i1.length ▸ hl ds ps), fun p hp => q _ _ _ ⟨ds, rfl, ps⟩ (e1.trans (Ex.new hp).toS) (sc1.ex (Ex.new hp)) (.tup upd_same (i1.ex (Ex.new hp)))⟩
theorem ExS.none {H H' : Hp} {p : Addr} (e : ExS s H H') (hp : H' p = none) (h : ∃ u, H' s = some u) : H p = none := by
  cases h1 : H p with
  | none => rfl
  | some o =>
    by_cases q : p = s
    · obtain ⟨u, hu⟩ := h
      rw [q, hu] at hp
      cases hp
    · rw [e p o q h1] at hp
      cases hp
theorem Sc.some {H : Hp} (h : Sc H s) : ∃ u, H s = some u := by
  obtain ⟨xs, h⟩ := h.has
  exact ⟨_, h⟩
theorem hxl_lst (h : HXA K s Γ tr Ps) (hl : ∀ ds, Ps ds → ds.length ≤ 100000) : HXL K s Γ (tLst tr) Ps := fun H0 σ H st hs sc Q q =>
  h H0 σ H st hs sc _ fun vs H1 ds ps e1 sc1 i1 => ⟨small_line (i1.length ▸ hl ds ps), fun p hp => q p vs _ ds ps (e1.none hp sc1.some) (e1.trans (Ex.new hp).toS) (sc1.ex (Ex.new hp)) upd_same (i1.ex (Ex.new hp))⟩
/-- a change at p ≠ s that was no lasting thing -/
theorem Sc.upd {H : Hp} {p : Addr} {u o : L2.HO} (h : Sc H s) (hp : H p = Option.some u) (hu : ¬ Im u) (ne : p ≠ s) : Sc (upd H p o) s := by
  obtain ⟨c, ns, ob, i, big, seed, h1, h2, h3⟩ := h
  have hc : c ≠ p := fun q => by
    rw [q, hp] at h2
    exact hu (Option.some.inj h2 ▸ im_frz)
  exact ⟨c, ns, ob, i, big, seed, by rw [upd_ne (Ne.symm ne)]; exact h1, by rw [upd_ne hc]; exact h2, h3⟩
theorem ExS.mut {H H' : Hp} {p : Addr} {o : L2.HO} (e : ExS s H H') (hp : H p = Option.none) : ExS s H (L2.upd H' p o) := fun a u ha h => by
  rw [upd_ne (ne_of_none h hp)]
  exact e a u ha h
theorem hx_frz (h : HXL K s Γ te Ps) : HX K s Γ (tFrz te) (fun d => ∃ ds, d = .lst ds ∧ Ps ds) := fun H0 σ H st hs sc Q q =>
  h H0 σ H st hs sc _ fun p xs H1 ds ps hp e1 sc1 h1 i1 => ⟨p, _, rfl, h1, True.intro, fun od => by
    have ne : p ≠ s := fun q => by
      obtain ⟨u, hu⟩ := sc.some
      rw [q, hu] at hp
      cases hp
    exact q _ _ _ ⟨ds, rfl, ps⟩ (e1.mut hp) (sc1.upd h1 (fun z => z) ne) (.lst upd_same (i1.mono (ExI.upd h1 fun z => z)))⟩
/-- [te for x in xs], te draws -/
theorem hxl_lc {α : Type} (xs : List α) (enc : α → D) {wi : TI} {g : TG} {vs : List Nat} (hi : HI K Γ wi (xs.map enc)) (hz : xs.length ≤ 100000)
    (hb : ∀ a ∈ xs, ∃ (G1 : List En) (ss : List Nat), HG K (wipeG Γ vs) g (enc a) G1 ss ∧ (∀ i ∈ ss, i ∈ vs) ∧ HX K s G1 te P) :
    HXL K s Γ (tLc wi g tYes te vs) (fun ds => ds.length = xs.length ∧ ∀ d ∈ ds, P d) := fun H0 σ H st hs sc Q q => hi H0 σ H st _ fun J H1 e1 w => fun Dl hD => by
  have el : (xs.map enc).length = xs.length := List.length_map _
  have nD : Dl ≠ s := fun z => by
    obtain ⟨u, hu⟩ := (sc.ex e1).some
    rw [z, hu] at hD
    cases hD
  refine lc_it w (Qd := fun H' => Q (.ref Dl) H') (fun i H2 => ExS s H1 H2 ∧ Sc H2 s ∧ ∃ acc ds, H2 Dl = some (.lst acc) ∧ IsL K H2 acc ds ∧ ds.length = i ∧ ∀ d ∈ ds, P d) ⟨(Ex.new hD).toS, (sc.ex e1).ex (Ex.new hD), [], [], upd_same, .nil, rfl, fun d hd => by cases hd⟩ (fun i H2 _ p => p.1.i (sc.ex e1)) (fun i a H2 H3 hi p y => ?_) fun H2 p => ?_
  · obtain ⟨p1, p2, acc, ds, p3, p4, p5, p6⟩ := p
    obtain ⟨e3, d, hd, hid⟩ := y
    rw [List.getElem?_map] at hd
    cases hx : xs[i]? with
    | none =>
      rw [hx] at hd
      cases hd
    | some b =>
      rw [hx] at hd
      have ed : enc b = d := Option.some.inj hd
      subst ed
      obtain ⟨G1, ss, hg, hss, he⟩ := hb b (List.mem_of_getElem? hx)
      have s3 : Sat K H0 H3 (wipeG Γ vs) (L2.wipe σ vs) := ((((st.ex e1).exS hs p1 (sc.ex e1)).ex e3)).wipe vs
      refine hg H0 _ H3 a s3 hid _ fun σ2 s2 w2 => ⟨?_, ?_⟩
      · rw [w2 vs hss]
        exact hl_lc.L2_wipe_wipe σ vs
      · show te σ2 H3 _
        refine he H0 σ2 H3 s2 hs (p2.ex e3) _ fun u H5 d5 pd e5 sc5 iu => ?_
        have h3D : H3 Dl = some (.lst acc) := e3 _ _ p3
        have h5 : H5 Dl = some (.lst acc) := e5 _ _ nD h3D
        have l4 : IsL K H5 acc ds := (p4.ex e3).exS e5 (p2.ex e3)
        have hxi : i < xs.length := by rw [el] at hi; exact hi
        refine ⟨acc, h5, small_lt (by rw [l4.length, p5]; omega), ?_, sc5.upd h5 (fun z => z) nD, acc ++ [u], ds ++ [d5], upd_same, ((l4).app (.one iu)).mono (ExI.upd h5 fun z => z), by rw [List.length_append, p5]; rfl, fun d hd => ?_⟩
        · exact (p1.trans (e3.toS.trans e5)).mut hD
        · rcases List.mem_append.mp hd with hd | hd
          · exact p6 d hd
          · rw [List.mem_singleton.mp hd]
            exact pd
  · obtain ⟨p1, p2, acc, ds, p3, p4, p5, p6⟩ := p
    rw [el] at p5
    exact q Dl acc H2 ds ⟨p5, p6⟩ (e1.none hD) (e1.toS.trans p1) p2 p3 p4
/-! ### statements -/
theorem hxn_of {chi : Prop} (h : HS K Γ ts .nev chi Γ') : HXN K s Γ ts R (fun G => G = Γ' ∧ chi) := fun H0 σ H E e0 st hs sc hr hn => by
  obtain ⟨xs, hxs⟩ := sc.has
  have e0' : Ex (upd H0 s (.lst xs)) H := fun a o ha => by
    by_cases q : a = s
    · rw [q, upd_same] at ha
      rw [q, hxs]
      exact ha
    · rw [upd_ne q] at ha
      exact e0 a o q ha
  have b1 : ∀ l, H0 l = none → (upd H0 s (.lst xs)) l = none := fun l hl => by
    have : l ≠ s := fun q => by
      obtain ⟨u, hu⟩ := hs
      rw [q, hu] at hl
      cases hl
    rw [upd_ne this]
    exact hl
  have b2 : ∀ l, (upd H0 s (.lst xs)) l = none → H0 l = none := fun l hl => by
    by_cases q : l = s
    · rw [q, upd_same] at hl
      cases hl
    · rw [upd_ne q] at hl
      exact hl
  refine h _ σ H E e0' (st.base b1) (fun v H' _ i => nomatch i) fun c σ' H' e x st' => ?_
  refine hn σ' H' Γ' ⟨rfl, c⟩ (fun a o ha hh => e a o (by rw [upd_ne ha]; exact hh)) x ?_ (st'.base b2)
  obtain ⟨c', ns, o, i, big, seed, h1, h2, h3⟩ := sc
  rw [h1] at hxs
  refine ⟨c', ns, o, i, big, seed, ?_, x _ _ h2 im_frz, h3⟩
  rw [e s _ upd_same]
  exact hxs.symm
theorem hxn_ret (h : HX K s Γ te R) : HXN K s Γ (tRet te) R Post := fun H0 σ H E e0 st hs sc hr hn => h H0 σ H st hs sc _ fun v H1 d p e1 sc1 i1 => hr v H1 d p (e0.trans e1) sc1 i1
theorem hxn_set {i : Nat} (h : HX K s Γ te P) : HXN K s Γ (tAsg te (gName i)) R (fun G => ∃ d, P d ∧ G = Γ.set i (.da d)) := fun H0 σ H E e0 st hs sc hr hn => h H0 σ H st hs sc _ fun v H1 d p e1 sc1 i1 =>
  hn _ H1 _ ⟨d, p, rfl⟩ (e0.trans e1) (e1.i sc) sc1 ((st.exS hs e1 sc).put ⟨v, rfl, i1⟩)
theorem hxn_setL {i : Nat} (h : HXL K s Γ te Ps) : HXN K s Γ (tAsg te (gName i)) R (fun G => ∃ ds, Ps ds ∧ G = Γ.set i (.own ds)) := fun H0 σ H E e0 st hs sc hr hn => h H0 σ H st hs sc _ fun p xs H1 ds ps hp e1 sc1 h1 i1 =>
  hn _ H1 _ ⟨ds, ps, rfl⟩ (e0.trans e1) (e1.i sc) sc1 ((st.exS hs e1 sc).put ⟨p, xs, rfl, e0.none hp sc.some, h1, i1⟩)
theorem hxn_par {i j : Nat} (h1 : HX K s Γ ta P) (h2 : HX K s Γ tb P') : HXN K s Γ (tPar i j (tCons ta (tCons tb tNil))) R (fun G => ∃ x y, P x ∧ P' y ∧ G = (Γ.set i (.da x)).set j (.da y)) := fun H0 σ H E e0 st hs sc hr hn =>
  h1 H0 σ H st hs sc _ fun v H1 x px e1 sc1 i1 => h2 H0 σ H1 (st.exS hs e1 sc) hs sc1 _ fun w H2 y py e2 sc2 i2 => ⟨v, w, rfl, hn _ H2 _ ⟨x, y, px, py, rfl⟩ (e0.trans (e1.trans e2)) ((e1.trans e2).i sc) sc2 (((st.exS hs (e1.trans e2) sc).put (en := .da x) ⟨v, rfl, i1.exS e2 sc1⟩).put (en := .da y) ⟨w, rfl, i2⟩)⟩
theorem hxn_parLX {i j : Nat} (h1 : HL K Γ ta ds) (h2 : HX K s Γ tb P) : HXN K s Γ (tPar i j (tCons ta (tCons tb tNil))) R (fun G => ∃ y, P y ∧ G = (Γ.set i (.own ds)).set j (.da y)) := fun H0 σ H E e0 st hs sc hr hn =>
  h1 H0 σ H st _ fun p xs H1 hp e1 g1 i1 => h2 H0 σ H1 (st.ex e1) hs (sc.ex e1) _ fun w H2 y py e2 sc2 i2 => ⟨_, w, rfl, by
    have ne : p ≠ s := fun q => by
      obtain ⟨u, hu⟩ := sc.some
      rw [q, hu] at hp
      cases hp
    exact hn _ H2 _ ⟨y, py, rfl⟩ (e0.trans (e1.toS.trans e2)) ((e1.toS.trans e2).i sc) sc2 (((st.exS hs (e1.toS.trans e2) sc).put (en := .own ds) ⟨p, xs, rfl, e0.none hp sc.some, e2 _ _ ne g1, i1.exS e2 (sc.ex e1)⟩).put (en := .da y) ⟨w, rfl, i2⟩)⟩
theorem hxn_seq (h1 : HXN K s Γ ts R Mid) (h2 : ∀ G, Mid G → HXN K s G tu R Post) : HXN K s Γ (tSeq ts tu) R Post := fun H0 σ H E e0 st hs sc hr hn =>
  h1 H0 σ H { E with nx := tu E } e0 st hs sc hr fun σ1 H1 G m e1 x1 sc1 s1 => h2 G m H0 σ1 H1 E e1 s1 hs sc1 hr fun σ2 H2 G2 m2 e2 x2 sc2 s2 => hn σ2 H2 G2 m2 e2 (x1.trans x2) sc2 s2
theorem HXN.imp {Post' : List En → Prop} (h : HXN K s Γ ts R Post) (hi : ∀ G, Post G → Post' G) : HXN K s Γ ts R Post' := fun H0 σ H E e0 st hs sc hr hn => h H0 σ H E e0 st hs sc hr fun σ' H' G p => hn σ' H' G (hi G p)
theorem HXN.sub {Post' : List En → Prop} (h : HXN K s Γ ts R Post) (hi : ∀ G, Post G → ∃ G', Sub G G' ∧ Post' G') : HXN K s Γ ts R Post' := fun H0 σ H E e0 st hs sc hr hn => h H0 σ H E e0 st hs sc hr fun σ' H' G p e x sc' s' => by
  obtain ⟨G', h1, h2⟩ := hi G p
  exact hn σ' H' G' h2 e x sc' (Sat.sub h1 s')
/-- if t: .., t draws nothing -/
theorem hxn_if {t : TT} {b : Bool} (h : HT K Γ t b) (h1 : b = true → HXN K s Γ ts R Post) (h2 : b = false → HXN K s Γ tu R Post) : HXN K s Γ (tIfS t ts tu) R Post := fun H0 σ H E e0 st hs sc hr hn => h H0 σ H st _ fun H1 e1 => by
  cases b with
  | true =>
    show ts E σ H1
    exact h1 rfl H0 σ H1 E (e0.trans e1.toS) (st.ex e1) hs (sc.ex e1) hr fun σ2 H2 G m e2 x2 => hn σ2 H2 G m e2 (e1.i.trans x2)
  | false =>
    show tu E σ H1
    exact h2 rfl H0 σ H1 E (e0.trans e1.toS) (st.ex e1) hs (sc.ex e1) hr fun σ2 H2 G m e2 x2 => hn σ2 H2 G m e2 (e1.i.trans x2)
/-- if te: .., te draws: both ways -/
theorem hxn_ifX (h : HX K s Γ te (fun d => ∃ b, d = .bl b)) (h1 : HXN K s Γ ts R Post) (h2 : HXN K s Γ tu R Post) : HXN K s Γ (tIfS (tTest te) ts tu) R Post := fun H0 σ H E e0 st hs sc hr hn => h H0 σ H st hs sc _ fun v H1 d ⟨b, ed⟩ e1 sc1 i1 => by
  subst ed
  refine ⟨b, i1.bl_v, ?_⟩
  cases b with
  | true =>
    show ts E σ H1
    exact h1 H0 σ H1 E (e0.trans e1) (st.exS hs e1 sc) hs sc1 hr fun σ2 H2 G m e2 x2 => hn σ2 H2 G m e2 ((e1.i sc).trans x2)
  | false =>
    show tu E σ H1
    exact h2 H0 σ H1 E (e0.trans e1) (st.exS hs e1 sc) hs sc1 hr fun σ2 H2 G m e2 x2 => hn σ2 H2 G m e2 ((e1.i sc).trans x2)
theorem hxn_next (p : Post Γ) : HXN K s Γ tNext R Post := fun H0 σ H E e0 st hs sc hr hn => hn σ H Γ p e0 (ExI.refl H) sc st
/-- xs.append(te), te draws -/
theorem hxn_app {i : Nat} (hi : Γ[i]? = some (.own ds)) (hz : ds.length < 100000) (hno : noOwn (Γ.set i .no) = true) (h : HX K s Γ te P) : HXN K s Γ (tDrop (tBM K "list" rAppend (tVar i) (tCons te tNil))) R (fun G => ∃ d, P d ∧ G = Γ.set i (.own (ds ++ [d]))) := fun H0 σ H E e0 st hs sc hr hn => by
  obtain ⟨o, ho, l, xs, eo, hl0, hl, il⟩ := st.get hi
  subst eo
  have ne : l ≠ s := fun q => by
    obtain ⟨u, hu⟩ := hs
    rw [q, hu] at hl0
    cases hl0
  refine ⟨.ref l, ho, .inl ⟨rfl, xs, SqL.of hl⟩, ?_⟩
  refine h H0 σ H st hs sc _ fun v H1 d pd e1 sc1 i1 => ?_
  have hl1 := e1 _ _ ne hl
  refine ⟨l, xs, v, rfl, rfl, hl1, small_lt (by rw [il.length]; omega), ?_⟩
  have x2 : ExI H1 (upd H1 l (.lst (xs ++ [v]))) := ExI.upd hl1 fun z => z
  have s2 : Sat K H0 (upd H1 l (.lst (xs ++ [v]))) (Γ.set i .no) σ := Sat.exi hno (st.exS hs e1 sc).drop1 x2
  have s3 := s2.tell (i := i) (en := .own (ds ++ [d])) ho ⟨l, xs ++ [v], rfl, hl0, upd_same, ((il.exS e1 sc).app (.one i1)).mono x2⟩
  rw [List.set_set] at s3
  exact hn σ _ _ ⟨d, pd, rfl⟩ ((e0.trans e1).mut hl0) ((e1.i sc).trans x2) (sc1.upd hl1 (fun z => z) ne) s3
theorem hxn_frz {i : Nat} (h : HXN K s Γ ts R Mid) (hm : ∀ G, Mid G → ∃ ds, G[i]? = some (.own ds) ∧ noOwn (G.set i .no) = true ∧ Post (G.set i (.da (.lst ds)))) : HXN K s Γ (tThenFrz i ts) R Post := fun H0 σ H E e0 st hs sc hr hn =>
  h H0 σ H _ e0 st hs sc hr fun σ1 H1 G m e1 x1 sc1 s1 => by
    obtain ⟨ds, hi, hno, hp⟩ := hm G m
    obtain ⟨o, ho, l, xs, eo, hl0, hl, il⟩ := s1.get hi
    subst eo
    have ne : l ≠ s := fun q => by
      obtain ⟨u, hu⟩ := hs
      rw [q, hu] at hl0
      cases hl0
    refine ⟨l, _, ho, hl, True.intro, fun od => ?_⟩
    have x2 : ExI H1 (upd H1 l (.frz od (.lst xs))) := ExI.upd hl fun z => z
    have s2 : Sat K H0 (upd H1 l (.frz od (.lst xs))) (G.set i .no) σ1 := Sat.exi hno s1.drop1 x2
    have s3 := s2.tell (i := i) (en := .da (.lst ds)) ho ⟨_, rfl, .lst upd_same (il.mono x2)⟩
    rw [List.set_set] at s3
    exact hn σ1 _ _ hp (e1.mut hl0) (x1.trans x2) (sc1.upd hl (fun z => z) ne) s3
/-- for x in ..: J tells the contexts ahead of each turn -/
theorem hxn_for {wi : TI} {g : TG} (hi : HI K Γ wi ds) (J : Nat → List En → Prop) (h0 : J 0 Γ)
    (hb : ∀ i d G, ds[i]? = some d → J i G → ∃ (G1 : List En) (ss : List Nat), HG K G g d G1 ss ∧ HXN K s G1 ts R (J (i + 1))) : HXN K s Γ (tFor wi g ts) R (J ds.length) := fun H0 σ H E e0 st hs sc hr hn =>
  hi H0 σ H st _ fun Jt H1 e1 w => by
    refine for_it w (fun i σ' H' => ExS s H0 H' ∧ ExI H1 H' ∧ Sc H' s ∧ ∃ G, J i G ∧ Sat K H0 H' G σ') ⟨e0.trans e1.toS, ExI.refl H1, sc.ex e1, Γ, h0, st.ex e1⟩ (fun i σ' H' _ p => p.2.1) (fun i a σ' H' H2 hi p y => ?_) fun σ' H' p => ?_
    · obtain ⟨p1, p2, p3, G, p4, p5⟩ := p
      obtain ⟨e2, d, hd, hid⟩ := y
      obtain ⟨G1, ss, hg, hx⟩ := hb i d G hd p4
      refine hg H0 σ' H2 a (p5.ex e2) hid _ fun σ2 s2 _ => ?_
      exact hx H0 σ2 H2 _ (p1.trans e2.toS) s2 hs (p3.ex e2) hr fun σ3 H3 G3 m3 e3 x3 sc3 s3 => ⟨e3, p2.trans (e2.i.trans x3), sc3, G3, m3, s3⟩
    · obtain ⟨p1, p2, p3, G, p4, p5⟩ := p
      exact hn σ' H' G p4 p1 (e1.i.trans p2) p3 p5
end
/-! ### a def that draws, by data -/
section
variable {P : Program} {w : World} {K : PySem.W.Frag} {mg : Str → Option Value} {base : Heap}
theorem fn_hx {x qual : Str} {params : Arguments} {body : List Stmt} {scope : Scope} {dvs : List V} {kws : List (Str × V)} {f : Addr} {fd : FuncData} {N ps : List Str} {k : Nat} {rel : List D → (D → Prop) → Prop} (F : FunD K x qual params body scope dvs kws f fd) (S : FnScope N ps scope)
    (hl : ∀ ds R, rel ds R → ds.length + 1 = ps.length)
    (h : ∀ (cdv : Value) (A : Around) (outer : List Env) (s : Shared) (H : Hp) (E : XK), Room k (A.deeper (envOfC qual scope s.heap.objs.size f cdv)) →
      ∃ t, PSs (cxOf L2.CX0 P w K mg base N qual scope f cdv A outer s H E).nox body t ∧ ∀ s' ds R, rel ds R → HXN K s' (G0 N (.adr s' :: ds)) t R (fun _ => False)) : FnOk P w K mg base L2.CX0 (k + 1) f fd ps (SpX K rel) := by
  refine F.ok S (fun vs H Q E q => ?_) (fun cdv A outer s H vs Q E hr q => ?_)
  · obtain ⟨s, ws, ds, R, q1, q2, q3, _⟩ := q
    rw [q1, List.length_cons, q3.length]
    exact hl ds R q2
  · obtain ⟨t, h1, h2⟩ := h cdv A outer s H E hr
    obtain ⟨s', ws, ds, R, q1, q2, q3, q4, q5⟩ := q
    subst q1
    refine ⟨t, h1.nox, h2 s' ds R q2 H _ H _ .refl (sat0 N (.cons (.adr s') q3)) q4.some q4 (fun v H' d p e sc i => q5 v H' d p e sc i) fun σ' H' G f => f.elim⟩
end
end Q
/-! Quietdoors: the law's own defs, one by one (4): the draw. -/
namespace Q
open PySem PySem.Spec PyProof.Rows L2
/-! ### readings at a heap that stays -/
def EV (σ : L2.St) (H : Hp) (te : TE) (v : V) : Prop := ∀ Q : VK, Q v H → te σ H Q
section
variable {K : PySem.W.Frag} {σ : L2.St} {H : Hp} {ta tb te : TE} {i j : Int} {v : V} {a : Addr} {xs : List V}
theorem ev_var {n : Nat} (h : σ[n]? = some (some v)) : EV σ H (tVar n) v := fun Q q => ⟨v, h, q⟩
theorem ev_c : EV σ H (tC v) v := fun Q q => q
theorem ev_op0 {g : Int → Int → V} (h1 : EV σ H ta (.int i)) (h2 : EV σ H tb (.int j)) : EV σ H (tOp (rI0 g) ta tb) (g i j) := fun Q q => h1 _ (h2 _ ⟨i, j, rfl, rfl, q⟩)
theorem ev_opC {C : Int → Int → Prop} {g : Int → Int → V} (h1 : EV σ H ta (.int i)) (h2 : EV σ H tb (.int j)) (hc : C i j) : EV σ H (tOp (rI C g) ta tb) (g i j) := fun Q q => h1 _ (h2 _ ⟨i, j, rfl, rfl, hc, q⟩)
theorem ev_add (h1 : EV σ H ta (.int i)) (h2 : EV σ H tb (.int j)) : EV σ H (tOp (rI0 fun i j => .int (i + j)) ta tb) (.int (i + j)) := ev_op0 h1 h2
theorem ev_mul (h1 : EV σ H ta (.int i)) (h2 : EV σ H tb (.int j)) (hc : CMul i j) : EV σ H (tOp (rI CMul fun i j => .int (i * j)) ta tb) (.int (i * j)) := ev_opC h1 h2 hc
theorem ev_mod (h1 : EV σ H ta (.int i)) (h2 : EV σ H tb (.int j)) (hc : 0 < j) : EV σ H (tOp (rI (fun _ j => 0 < j) fun i j => .int (i % j)) ta tb) (.int (i % j)) := ev_opC h1 h2 hc
theorem ev_div (h1 : EV σ H ta (.int i)) (h2 : EV σ H tb (.int j)) (hc : CDiv i j) : EV σ H (tOp (rI CDiv fun i j => .int (i / j)) ta tb) (.int (i / j)) := ev_opC h1 h2 hc
theorem ev_ge (h1 : EV σ H ta (.int i)) (h2 : EV σ H tb (.int j)) : EV σ H (tOp (rI0 fun i j => .bl (decide (j ≤ i))) ta tb) (.bl (decide (j ≤ i))) := ev_op0 h1 h2
theorem ev_lt (h1 : EV σ H ta (.int i)) (h2 : EV σ H tb (.int j)) : EV σ H (tOp (rI0 fun i j => .bl (decide (i < j))) ta tb) (.bl (decide (i < j))) := ev_op0 h1 h2
theorem ev_p18 : EV σ H (tOp (rI CPow fun i j => .int (i ^ j.toNat)) (tC (.int 10)) (tC (.int 18))) (.int 1000000000000000000) := by
  have h : EV σ H (tOp (rI CPow fun i j => .int (i ^ j.toNat)) (tC (.int 10)) (tC (.int 18))) (.int ((10 : Int) ^ (18 : Int).toNat)) := ev_opC (fun Q q => q) (fun Q q => q) ⟨by decide, by decide, by decide +kernel⟩
  have e : (10 : Int) ^ (18 : Int).toNat = 1000000000000000000 := by decide +kernel
  rw [e] at h
  exact h
theorem ev_ix (h1 : EV σ H ta (.ref a)) (h2 : EV σ H tb (.int i)) (hs : SqL K H a xs) (hv : atI xs i = some v) : EV σ H (tOp (rIxL K) ta tb) v := fun Q q => h1 _ (h2 _ ⟨a, xs, i, v, rfl, rfl, hs, hv, q⟩)
theorem ev_int1 (h : EV σ H ta (.int i)) : EV σ H (tCB rInt1 (tCons ta tNil)) (.int i) := fun Q q => h _ (.inl ⟨i, rfl, q⟩)
theorem ev_len (h : EV σ H ta (.ref a)) (hs : SqL K H a xs) : EV σ H (tCB (rLn K) (tCons ta tNil)) (.int (xs.length : Int)) := fun Q q => h _ ⟨_, _, rfl, .inl ⟨_, hs, rfl⟩, q⟩
def ET (σ : L2.St) (H : Hp) (tt : TT) (b : Bool) : Prop := ∀ Q : Bool → Hp → Prop, Q b H → tt σ H Q
theorem et_test {b : Bool} (h : EV σ H te (.bl b)) : ET σ H (tTest te) b := fun Q q => h _ ⟨b, rfl, q⟩
theorem et_and {t u : TT} {b c : Bool} (h1 : ET σ H t b) (h2 : b = true → ET σ H u c) : ET σ H (tAnd t u) (b && c) := fun Q q => h1 _ (by
  cases b with
  | true => exact h2 rfl _ q
  | false => exact q)
theorem st_ev {n : Nat} {E : Ends} (h : EV σ H te v) (q : E.nx (σ.set n (some v)) H) : tAsg te (gName n) E σ H := h _ q
/-- s[k] = te -/
theorem st_src {s : Addr} {k : Int} {n : Nat} {E : Ends} (h : EV σ H te v) (h0 : σ[0]? = some (some (.ref s))) (hs : H s = some (.lst xs)) (hk : ixN xs.length k = some n) (q : E.nx σ (upd H s (.lst (xs.set n v)))) : tAsg te (gSub (tVar 0) (tC (.int k)) rSetL) E σ H :=
  h _ ⟨.ref s, h0, ⟨s, xs, k, n, rfl, rfl, hs, hk, q⟩⟩
theorem st_if {t : TT} {tu tw : TS} {b : Bool} {E : Ends} (h : ET σ H t b) (h1 : b = true → tu E σ H) (h2 : b = false → tw E σ H) : tIfS t tu tw E σ H := h _ (by
  cases b with
  | true => exact h1 rfl
  | false => exact h2 rfl)
end
theorem src_stay {s : Addr} {H : Hp} {c : Addr} {ns : List Int} {o : Obj} {xs ys : List V} (h1 : H s = some (.lst xs)) (h2 : H c = some (.frz o (.lst (ns.map V.int)))) : (upd H s (.lst ys)) c = some (.frz o (.lst (ns.map V.int))) := by
  have : c ≠ s := fun q => by
    rw [q, h1] at h2
    cases h2
  rw [upd_ne this]
  exact h2
section
variable {P : Program} {w : World} {K : PySem.W.Frag} {mg : Str → Option Value} {base : Heap}
def r__law_draw : List D → (D → Prop) → Prop := fun ds R => ∃ n : Int, ds = [.int n] ∧ R = (fun d => ∃ i : Int, d = .int i ∧ 0 ≤ i ∧ i < n) ∧ 1 ≤ n ∧ n < 1073741824
/-- the source as a list of four -/
abbrev srcL (c : Addr) (i big seed : Int) : List V := [.ref c, .int i, .int big, .int seed]
theorem C__law_draw (T : Tx K mg) : Cal P w K mg base "_law_draw" 1 ["_law_source", "_law_limit"] (SpX K r__law_draw) := by
  have S : FnScope ["_law_source", "_law_limit", "_law_cell", "_law_digit"] ["_law_source", "_law_limit"] (defScope (top 61)) := ⟨rfl, rfl, rfl, by decide +kernel, rfl, by decide +kernel, by decide +kernel⟩
  refine cal_of T (i := 61) (by decide +kernel) (fun fd F => F.ok S (fun vs H Q E q => ?_) (fun cdv A outer s0 H vs Q E hr q => ⟨_, PSs.nox (pss_cons (ps_if (PW.pt (pw_and (pt_cmpR op_lt (pe_ix ix_list (pv 0) pe_int (fun _ _ => rfl)) (pe_op op_pow pe_int pe_int) (nomark _)) (pw_and1 (pt_cmpR op_lt (pe_ix ix_list (pv 0) pe_int (fun _ _ => rfl)) (pe_callB call_len (by rfl) (T.fr "len" (by decide +kernel)) (by decide +kernel) (pa_cons (pe_ix ix_list (pv 0) pe_int (fun _ _ => rfl)) pa_nil)) (nomark _))))) (pss_cons (ps_set (i := 2) S.nd rfl (Or.inl rfl) (pe_callTy call_int1 (by rfl) (T.fr "int" (by decide +kernel)) (by decide +kernel) (pa_cons (pe_ix ix_list (pe_ix ix_list (pv 0) pe_int (fun _ _ => rfl)) (pe_ix ix_list (pv 0) pe_int (fun _ _ => rfl)) (fun _ _ => rfl)) pa_nil)))
  (pss_cons (ps_asg (pe_op op_add (pe_ix ix_list (pv 0) pe_int (fun _ _ => rfl)) pe_int) (pg_sub (pv 0) pe_int set_list))
  (pss_cons (ps_asg pe_int (pg_sub (pv 0) pe_int set_list))
  (pss_cons (ps_if (pt_cmpR op_ge (pv 2) (pe_op op_pow pe_int pe_int) (nomark _)) (pss_one (ps_asg (pv 2) (pg_sub (pv 0) pe_int set_list))) pss_nil)
  (pss_one (ps_asg (pe_op op_mod (pe_callTy call_int1 (by rfl) (T.fr "int" (by decide +kernel)) (by decide +kernel) (pa_cons (pe_op op_add (pe_op op_add (pe_op op_mul (pe_ix ix_list (pv 0) pe_int (fun _ _ => rfl)) pe_int) (pe_op op_mod (pv 2) pe_int)) pe_int) pa_nil)) pe_int) (pg_sub (pv 0) pe_int set_list))))))) pss_nil)
  (pss_cons (ps_if (pt_cmpR op_ge (pe_ix ix_list (pv 0) pe_int (fun _ _ => rfl)) (pe_op op_pow pe_int pe_int) (nomark _)) (pss_cons (ps_set (i := 3) S.nd rfl (Or.inl rfl) (pe_op op_mod (pe_callTy call_int1 (by rfl) (T.fr "int" (by decide +kernel)) (by decide +kernel) (pa_cons (pe_ix ix_list (pv 0) pe_int (fun _ _ => rfl)) pa_nil)) (pv 1)))
  (pss_cons (ps_asg (pe_op op_fdiv (pe_ix ix_list (pv 0) pe_int (fun _ _ => rfl)) (pv 1)) (pg_sub (pv 0) pe_int set_list))
  (pss_one (ps_ret (pv 3))))) pss_nil)
  (pss_cons (ps_asg (pe_op op_mod (pe_callTy call_int1 (by rfl) (T.fr "int" (by decide +kernel)) (by decide +kernel) (pa_cons (pe_op op_add (pe_op op_mul (pe_ix ix_list (pv 0) pe_int (fun _ _ => rfl)) pe_int) pe_int) pa_nil)) pe_int) (pg_sub (pv 0) pe_int set_list))
  (pss_one (ps_ret (pe_op op_mod (pe_callTy call_int1 (by rfl) (T.fr "int" (by decide +kernel)) (by decide +kernel) (pa_cons (pe_op op_fdiv (pe_ix ix_list (pv 0) pe_int (fun _ _ => rfl)) pe_int) pa_nil)) (pv 1))))))), ?_⟩)) (fun _ _ _ _ _ _ us hl => match us, hl with | [_, _], _ => rfl)
  · obtain ⟨s, ws, ds, R, q1, ⟨n, q2, _⟩, q3, _⟩ := q
    rw [q1, List.length_cons, q3.length, q2]
    rfl
  · obtain ⟨s, ws, ds, R, rfl, ⟨n, rfl, rfl, n1, n2⟩, q3, sc, q5⟩ := q
    cases q3 with
    | cons hv q3 =>
      cases q3
      have ev := hv.int_v
      subst ev
      have ixL : ∀ (m : Nat), m < 4 → ixN 4 (m : Int) = some m := fun m hm => ixN_of hm
      -- behind the first if: the source is a source
      have rest : ∀ σ' H', σ'[0]? = some (some (V.ref s)) → σ'[1]? = some (some (V.int n)) → σ'.length = 4 → ExS s H H' → Sc H' s → ∀ (E' : Ends), (∀ v H2, Q v H2 → E'.rt v H2) →
          (tSeq (tIfS (tTest (tOp (rI0 fun i j => .bl (decide (j ≤ i))) (tOp (rIxL K) (tVar 0) (tC (.int 2))) (tOp (rI CPow fun i j => .int (i ^ j.toNat)) (tC (.int 10)) (tC (.int 18)))))
            (tSeq (tAsg (tOp (rI (fun _ j => 0 < j) fun i j => .int (i % j)) (tCB rInt1 (tCons (tOp (rIxL K) (tVar 0) (tC (.int 2))) tNil)) (tVar 1)) (gName 3))
              (tSeq (tAsg (tOp (rI CDiv fun i j => .int (i / j)) (tOp (rIxL K) (tVar 0) (tC (.int 2))) (tVar 1)) (gSub (tVar 0) (tC (.int 2)) rSetL)) (tRet (tVar 3)))) tNext)
            (tSeq (tAsg (tOp (rI (fun _ j => 0 < j) fun i j => .int (i % j)) (tCB rInt1 (tCons (tOp (rI0 fun i j => .int (i + j)) (tOp (rI CMul fun i j => .int (i * j)) (tOp (rIxL K) (tVar 0) (tC (.int 3))) (tC (.int 39373))) (tC (.int 12820163))) tNil)) (tC (.int 2147483647))) (gSub (tVar 0) (tC (.int 3)) rSetL))
              (tRet (tOp (rI (fun _ j => 0 < j) fun i j => .int (i % j)) (tCB rInt1 (tCons (tOp (rI CDiv fun i j => .int (i / j)) (tOp (rIxL K) (tVar 0) (tC (.int 3))) (tC (.int 16))) tNil)) (tVar 1))))) E' σ' H' := fun σ' H' g0 g1 g4 e sc' E' hE => by
        obtain ⟨c, ns, o, i, big, seed, h1, h2, h3, h4, h5⟩ := sc'
        have hS : SqL K H' s (srcL c i big seed) := SqL.of h1
        have eb : EV σ' H' (tOp (rIxL K) (tVar 0) (tC (.int 2))) (.int big) := ev_ix (ev_var g0) ev_c hS at2
        refine st_if (et_test (ev_ge eb ev_p18)) (fun _ => ?_) (fun _ => ?_)
        · refine st_ev (ev_mod (ev_int1 eb) (ev_var g1) (by omega)) ?_
          have g0' : (σ'.set 3 (some (V.int (big % n))))[0]? = some (some (V.ref s)) := by rw [List.getElem?_set_ne (by decide)]; exact g0
          have g1' : (σ'.set 3 (some (V.int (big % n))))[1]? = some (some (V.int n)) := by rw [List.getElem?_set_ne (by decide)]; exact g1
          have g3' : (σ'.set 3 (some (V.int (big % n))))[3]? = some (some (V.int (big % n))) := by rw [List.getElem?_set_self (by rw [g4]; decide)]
          refine st_src (ev_div (ev_ix (ev_var g0') ev_c hS at2) (ev_var g1') ⟨by omega, n2⟩) g0' h1 (ixL 2 (by decide)) ?_
          refine ⟨_, g3', hE _ _ (q5 _ _ _ ⟨big % n, rfl, Int.emod_nonneg _ (by omega), Int.emod_lt_of_pos _ (by omega)⟩ ?_ ?_ (.int _))⟩
          · exact e.trans fun b u hb hh => by rw [upd_ne hb]; exact hh
          · exact ⟨c, ns, o, i, big / n, seed, upd_same, src_stay h1 h2, h3, h4, h5⟩
        · refine st_src (ev_mod (ev_int1 (ev_add (ev_mul (ev_ix (ev_var g0) ev_c hS at3) ev_c (.inl ⟨by omega, by omega⟩)) ev_c)) ev_c (by omega)) g0 h1 (ixL 3 (by decide)) ?_
          have hS2 : SqL K (upd H' s (.lst (srcL c i big ((seed * 39373 + 12820163) % 2147483647)))) s (srcL c i big ((seed * 39373 + 12820163) % 2147483647)) := SqL.of upd_same
          refine ev_mod (ev_int1 (ev_div (ev_ix (ev_var g0) ev_c hS2 at3) ev_c ⟨by decide, by decide⟩)) (ev_var g1) (by omega) _ (hE _ _ (q5 _ _ _ ⟨_, rfl, Int.emod_nonneg _ (by omega), Int.emod_lt_of_pos _ (by omega)⟩ ?_ ?_ (.int _)))
          · exact e.trans fun b u hb hh => by rw [upd_ne hb]; exact hh
          · exact ⟨c, ns, o, i, big, _, upd_same, src_stay h1 h2, h3, Int.emod_nonneg _ (by omega), Int.emod_lt_of_pos _ (by omega)⟩
      obtain ⟨c, ns, o, i, big, seed, h1, h2, h3, h4, h5⟩ := sc
      have hS : SqL K H s (srcL c i big seed) := SqL.of h1
      have hC : SqL K H c (ns.map V.int) := .inl (.inr ⟨o, h2⟩)
      have g0 : (L2.start ["_law_source", "_law_limit", "_law_cell", "_law_digit"] [V.ref s, V.int n])[0]? = some (some (V.ref s)) := rfl
      have e0 : EV (L2.start ["_law_source", "_law_limit", "_law_cell", "_law_digit"] [V.ref s, V.int n]) H (tOp (rIxL K) (tVar 0) (tC (.int 0))) (.ref c) := ev_ix (ev_var g0) ev_c hS at0
      have e1 : EV (L2.start ["_law_source", "_law_limit", "_law_cell", "_law_digit"] [V.ref s, V.int n]) H (tOp (rIxL K) (tVar 0) (tC (.int 1))) (.int i) := ev_ix (ev_var g0) ev_c hS at1
      have e2 : EV (L2.start ["_law_source", "_law_limit", "_law_cell", "_law_digit"] [V.ref s, V.int n]) H (tOp (rIxL K) (tVar 0) (tC (.int 2))) (.int big) := ev_ix (ev_var g0) ev_c hS at2
      refine st_if (et_and (et_test (ev_lt e2 ev_p18)) fun _ => et_test (ev_lt e1 (ev_len e0 hC))) (fun hb => ?_) (fun _ => ?_)
      · have hi : i < ((ns.map V.int).length : Int) := of_decide_eq_true (Bool.and_eq_true_iff.mp hb).2
        rw [List.length_map] at hi
        obtain ⟨x, hx⟩ : ∃ x, ns[i.toNat]? = some x := ⟨_, List.getElem?_eq_getElem (by omega)⟩
        have hx2 : atI (ns.map V.int) i = some (V.int x) := atN (j := i.toNat) (by omega) (by rw [List.getElem?_map, hx]; rfl)
        refine st_ev (ev_int1 (ev_ix e0 e1 hC hx2)) ?_
        refine st_src (xs := srcL c i big seed) (ev_add (ev_ix (K := K) (ev_var rfl) ev_c hS at1) ev_c) rfl h1 (ixL 1 (by decide)) ?_
        refine st_src (xs := srcL c (i + 1) big seed) ev_c rfl upd_same (ixL 2 (by decide)) ?_
        have fin : ∀ (H' : Hp) (big' : Int), H' s = some (.lst (srcL c (i + 1) big' seed)) → ExS s H H' → ∀ (E' : Ends), (∀ σ2 H2, σ2[0]? = some (some (V.ref s)) → σ2[1]? = some (some (V.int n)) → σ2.length = 4 → ExS s H H2 → Sc H2 s → E'.nx σ2 H2) →
            tAsg (tOp (rI (fun _ j => 0 < j) fun i j => .int (i % j)) (tCB rInt1 (tCons (tOp (rI0 fun i j => .int (i + j)) (tOp (rI0 fun i j => .int (i + j)) (tOp (rI CMul fun i j => .int (i * j)) (tOp (rIxL K) (tVar 0) (tC (.int 3))) (tC (.int 48271))) (tOp (rI (fun _ j => 0 < j) fun i j => .int (i % j)) (tVar 2) (tC (.int 2147483629)))) (tC (.int 11))) tNil)) (tC (.int 2147483647))) (gSub (tVar 0) (tC (.int 3)) rSetL) E' [some (V.ref s), some (V.int n), some (V.int x), none] H' := fun H' big' hs' e' E' hE => by
          have hS2 : SqL K H' s (srcL c (i + 1) big' seed) := SqL.of hs'
          refine st_src (ev_mod (ev_int1 (ev_add (ev_add (ev_mul (ev_ix (ev_var rfl) ev_c hS2 at3) ev_c (.inl ⟨by omega, by omega⟩)) (ev_mod (ev_var rfl) ev_c (by omega))) ev_c)) ev_c (by omega)) rfl hs' (ixL 3 (by decide)) ?_
          refine hE _ _ rfl rfl rfl (e'.trans fun b u hb hh => by rw [upd_ne hb]; exact hh) ⟨c, ns, o, i + 1, big', _, upd_same, ?_, by omega, Int.emod_nonneg _ (by omega), Int.emod_lt_of_pos _ (by omega)⟩
          have hcs : c ≠ s := fun q => by rw [q, h1] at h2; cases h2
          rw [upd_ne hcs]
          exact e' _ _ hcs h2
        have eA : ExS s H (upd (upd H s (.lst (srcL c (i + 1) big seed))) s (.lst (srcL c (i + 1) 0 seed))) := fun b u hb hh => by rw [upd_ne hb, upd_ne hb]; exact hh
        refine st_if (et_test (ev_ge (i := x) (ev_var rfl) ev_p18)) (fun _ => ?_) (fun _ => ?_)
        · refine st_src (xs := srcL c (i + 1) 0 seed) (v := .int x) (ev_var rfl) rfl upd_same (ixL 2 (by decide)) ?_
          exact fin _ x upd_same (eA.trans fun b u hb hh => by rw [upd_ne hb]; exact hh) _ fun σ2 H2 a1 a2 a3 a4 a5 => rest σ2 H2 a1 a2 a3 a4 a5 _ fun v H3 h => h
        · exact fin _ 0 upd_same eA _ fun σ2 H2 a1 a2 a3 a4 a5 => rest σ2 H2 a1 a2 a3 a4 a5 _ fun v H3 h => h
      · exact rest _ H rfl rfl rfl .refl ⟨c, ns, o, i, big, seed, h1, h2, h3, h4, h5⟩ _ fun v H2 h => h
end
end Q
/-! Quietdoors: the law's own defs, one by one (5): what is drawn. -/
namespace Q
open PySem PySem.Spec PyProof.Rows L2
theorem cases_of : ∀ ds : List D, (∀ d ∈ ds, ∃ B, d = caseD B ∧ BoxOk B) → ∃ Bs : List BoxR, ds = Bs.map caseD ∧ ∀ B ∈ Bs, BoxOk B
  | [], _ => ⟨[], rfl, fun B hB => by cases hB⟩
  | d :: ds, h => by
    obtain ⟨B, e, hB⟩ := h d List.mem_cons_self
    obtain ⟨Bs, e2, hBs⟩ := cases_of ds fun x hx => h x (List.mem_cons_of_mem _ hx)
    refine ⟨B :: Bs, by rw [e, e2]; rfl, fun C hC => ?_⟩
    rcases List.mem_cons.mp hC with q | q
    · rw [q]; exact hB
    · exact hBs C q
/-- an int with A -/
def IA (A : Int → Prop) : D → Prop := fun d => ∃ i, d = .int i ∧ A i
section
variable {K : PySem.W.Frag} {s : Addr} {Γ : List En} {ta tb te : TE} {A B : Int → Prop} {N : Int}
theorem hx_i {i : Int} (h : HE K Γ te (.int i)) : HX K s Γ te (IA fun j => j = i) := (hx_of h).imp fun d e => ⟨i, e, rfl⟩
theorem hx_add (h1 : HX K s Γ ta (IA A)) (h2 : HX K s Γ tb (IA B)) : HX K s Γ (tOp (rI0 fun i j => .int (i + j)) ta tb) (IA fun k => ∃ i j, k = i + j ∧ A i ∧ B j) := hx_op h1 h2 fun x y ⟨i, ei, hi⟩ ⟨j, ej, hj⟩ => by
  subst ei ej
  exact ⟨.int (i + j), rr_add, _, rfl, i, j, rfl, hi, hj⟩
theorem hx_draw {E : XK} {i : Nat} (hi : Γ[i]? = some (.da (.adr s))) (h : HX K s Γ te (IA fun n => 1 ≤ n ∧ n ≤ N)) (hN : N < 1073741824) : HX K s Γ (tCall (SpX K r__law_draw) [] E (tCons (tVar i) (tCons te tNil))) (IA fun k => 0 ≤ k ∧ k < N) :=
  hx_call hi (hxa_cons h hxa_nil) fun ds ⟨d, r, e1, ⟨n, e2, h1, h2⟩, e3⟩ => by
    subst e3 e2 e1
    exact ⟨_, ⟨n, rfl, rfl, h1, by omega⟩, fun d ⟨k, ek, k1, k2⟩ => ⟨k, ek, k1, by omega⟩⟩
theorem hx_drawC {E : XK} {i : Nat} {n : Int} (hi : Γ[i]? = some (.da (.adr s))) (h : HE K Γ te (.int n)) (h1 : 1 ≤ n) (hN : n < 1073741824) : HX K s Γ (tCall (SpX K r__law_draw) [] E (tCons (tVar i) (tCons te tNil))) (IA fun k => 0 ≤ k ∧ k < n) :=
  hx_draw hi ((hx_of h).imp fun d e => ⟨n, e, h1, Int.le_refl _⟩) hN
/-- [a, b, c][draw(s, 3)] -/
theorem hx_one3 {i : Nat} {E : XK} {a b c : Int} (hi : Γ[i]? = some (.da (.adr s))) (h : HE K Γ te (.lst [.int a, .int b, .int c])) (h1 : 1 ≤ a ∧ a ≤ N) (h2 : 1 ≤ b ∧ b ≤ N) (h3 : 1 ≤ c ∧ c ≤ N) : HX K s Γ (tOp (rIxL K) te (tCall (SpX K r__law_draw) [] E (tCons (tVar i) (tCons (tC (.int 3)) tNil)))) (IA fun n => 1 ≤ n ∧ n ≤ N) :=
  hx_op (hx_of h) (hx_drawC hi he_int (by decide) (by decide)) fun x y ex ⟨k, ek, k1, k2⟩ => by
    subst ex ek
    have : k = 0 ∨ k = 1 ∨ k = 2 := by omega
    rcases this with e | e | e
    · subst e
      exact ⟨_, rr_ixL at0, a, rfl, h1⟩
    · subst e
      exact ⟨_, rr_ixL at1, b, rfl, h2⟩
    · subst e
      exact ⟨_, rr_ixL at2, c, rfl, h3⟩
end
section
variable {P : Program} {w : World} {K : PySem.W.Frag} {mg : Str → Option Value} {base : Heap}
def r__law_pick : List D → (D → Prop) → Prop := fun ds R => ds = [.lst [.str "out", .str "both"]] ∧ R = (fun d => ∃ b : Bool, d = .str (if b = true then "both" else "out")) ∧ True
theorem C__law_pick (T : Tx K mg) : Cal P w K mg base "_law_pick" 2 ["_law_source", "_law_items"] (SpX K r__law_pick) := by
  have S : FnScope ["_law_source", "_law_items"] ["_law_source", "_law_items"] (defScope (top 62)) := ⟨rfl, rfl, rfl, by decide +kernel, rfl, by decide +kernel, by decide +kernel⟩
  refine cal_of T (i := 62) (by decide +kernel) (fun fd F => fn_hx F S (fun ds R q => ?_) fun cdv A outer s0 H E hr => ⟨_, (pss_one (ps_ret (pe_ix ix_list (pv 1) (pe_cal (C__law_draw T) (hr.mono (by decide)) (by rfl) (pa_cons (pv 0) (pa_cons (pe_callB call_len (by rfl) (T.fr "len" (by decide +kernel)) (by decide +kernel) (pa_cons (pv 1) pa_nil)) pa_nil))) (fun _ _ => rfl)))), fun s ds R q => ?_⟩) (fun _ _ _ _ _ _ us hl => match us, hl with | [_, _], _ => rfl)
  · obtain ⟨rfl, _⟩ := q
    rfl
  · obtain ⟨rfl, rfl, _⟩ := q
    exact hxn_ret (hx_op (hx_of (he_var rfl)) (hx_drawC (n := 2) rfl (he_cb (ha1 (he_var rfl)) (rc_lenL (ds := [.str "out", .str "both"]))) (by decide) (by decide)) fun x y ex ⟨k, ek, k1, k2⟩ => by
      subst ex ek
      have : k = 0 ∨ k = 1 := by omega
      rcases this with e | e
      · subst e
        exact ⟨_, rr_ixL at0, false, rfl⟩
      · subst e
        exact ⟨_, rr_ixL at1, true, rfl⟩)

def r__law_case : List D → (D → Prop) → Prop := fun ds R => ds = [] ∧ R = (fun d => ∃ B, d = caseD B ∧ BoxOk B) ∧ True
theorem C__law_case (T : Tx K mg) : Cal P w K mg base "_law_case" 3 ["_law_source"] (SpX K r__law_case) := by
  have S : FnScope ["_law_source", "_law_least", "_law_most"] ["_law_source"] (defScope (top 63)) := ⟨rfl, rfl, rfl, by decide +kernel, rfl, by decide +kernel, by decide +kernel⟩
  refine cal_of T (i := 63) (by decide +kernel) (fun fd F => fn_hx F S (fun ds R q => ?_) fun cdv A outer s0 H E hr => ⟨_, (pss_cons (ps_set (i := 1) S.nd rfl (Or.inl rfl) (pe_op op_add pe_int (pe_cal (C__law_draw T) (hr.mono (by decide)) (by rfl) (pa_cons (pv 0) (pa_cons (pe_ix ix_list (pe_frz (pe_lst (pa_cons pe_int (pa_cons pe_int (pa_cons pe_int pa_nil))))) (pe_cal (C__law_draw T) (hr.mono (by decide)) (by rfl) (pa_cons (pv 0) (pa_cons pe_int pa_nil))) (fun _ _ => rfl)) pa_nil)))))
  (pss_cons (ps_set (i := 2) S.nd rfl (Or.inl rfl) (pe_op op_add (pv 1) (pe_cal (C__law_draw T) (hr.mono (by decide)) (by rfl) (pa_cons (pv 0) (pa_cons (pe_ix ix_list (pe_frz (pe_lst (pa_cons pe_int (pa_cons pe_int (pa_cons pe_int pa_nil))))) (pe_cal (C__law_draw T) (hr.mono (by decide)) (by rfl) (pa_cons (pv 0) (pa_cons pe_int pa_nil))) (fun _ _ => rfl)) pa_nil)))))
  (pss_one (ps_ret (pe_frz (pe_lst (pa_cons (pv 1) (pa_cons (pv 2) (pa_cons (pe_cal (C__law_draw T) (hr.mono (by decide)) (by rfl) (pa_cons (pv 0) (pa_cons pe_int pa_nil))) (pa_cons (pe_cal (C__law_pick T) (hr.mono (by decide)) (by rfl) (pa_cons (pv 0) (pa_cons (pe_frz (pe_lst (pa_cons pe_str (pa_cons pe_str pa_nil)))) pa_nil))) pa_nil)))))))))), fun s ds R q => ?_⟩) (fun _ _ _ _ _ _ us hl => match us, hl with | [_], _ => rfl)
  · obtain ⟨rfl, _⟩ := q
    rfl
  · obtain ⟨rfl, rfl, _⟩ := q
    refine hxn_seq (hxn_set (hx_add (hx_i he_int) (hx_draw rfl (hx_one3 (N := 200) rfl (he_frz (hl_lst (ha_cons he_int (ha2 he_int he_int)) (Nat.le_of_ble_eq_true rfl))) (by decide) (by decide) (by decide)) (by decide)))) fun G ⟨d1, ⟨lo, e1, x1, y1, l1, l2, l3⟩, eG⟩ => ?_
    subst e1 eG
    refine hxn_seq (hxn_set (hx_add (hx_i (he_var rfl)) (hx_draw rfl (hx_one3 (N := 90) rfl (he_frz (hl_lst (ha_cons he_int (ha2 he_int he_int)) (Nat.le_of_ble_eq_true rfl))) (by decide) (by decide) (by decide)) (by decide)))) fun G ⟨d2, ⟨hi, e2, x2, y2, m1, m2, m3⟩, eG⟩ => ?_
    subst e2 eG
    refine hxn_ret ((hx_frz (hxl_lst (hxa_cons (hx_i (he_var rfl)) (hxa_cons (hx_i (he_var rfl)) (hxa_cons (hx_drawC rfl he_int (by decide) (by decide)) (hxa_cons (hx_call rfl (hxa_of (ha1 (he_frz (hl_lst (ha2 he_str he_str) (Nat.le_of_ble_eq_true rfl))))) fun ds e => ⟨_, ⟨e, rfl, trivial⟩, fun d h => h⟩) hxa_nil)))) ?_)).imp ?_)
    · rintro ds ⟨a, r, ea, _, b, r2, eb, _, c, r3, ec, _, d, r4, ed, _, er⟩
      subst er ed ec eb ea
      exact Nat.le_of_ble_eq_true rfl
    · rintro d ⟨ds, ed, a, r, ea, ⟨i1, ei1, f1⟩, b, r2, eb, ⟨i2, ei2, f2⟩, c, r3, ec, ⟨i3, ei3, f3⟩, d', r4, ed', ⟨bo, ebo⟩, er⟩
      subst er ed' ec eb ea ed ei1 ei2 ei3 ebo
      refine ⟨⟨i1, i2, i3, bo⟩, rfl, ?_⟩
      refine ⟨?_, ?_, ?_, ?_, ?_⟩ <;> show _ ≤ _ <;> simp only <;> omega

def r__law_times : List D → (D → Prop) → Prop := fun ds R => ∃ (m st : Int), ds = [.int m, .int st] ∧ R = (fun d => ∃ ts : List Int, d = .lst (ts.map .int) ∧ (ts.length : Int) = m ∧ TimesOk ts) ∧ (0 ≤ m) ∧ (m ≤ 5) ∧ (1 ≤ st) ∧ (st ≤ 6) ∧ True
theorem C__law_times (T : Tx K mg) : Cal P w K mg base "_law_times" 2 ["_law_source", "_law_many", "_law_step"] (SpX K r__law_times) := by
  have S : FnScope ["_law_source", "_law_many", "_law_step", "_law_found", "_law_time", "_law_turn"] ["_law_source", "_law_many", "_law_step"] (defScope (top 67)) := ⟨rfl, rfl, rfl, by decide +kernel, rfl, by decide +kernel, by decide +kernel⟩
  refine cal_of T (i := 67) (by decide +kernel) (fun fd F => fn_hx F S (fun ds R q => ?_) fun cdv A outer s0 H E hr => ⟨_, (pss_cons (ps_par (by rfl) S.nd (i := 3) (j := 4) rfl rfl (by decide) rfl rfl (pa_cons (pe_lst pa_nil) (pa_cons (pe_cal (C__law_draw T) (hr.mono (by decide)) (by rfl) (pa_cons (pv 0) (pa_cons pe_int pa_nil))) pa_nil)) (by rfl))
  (pss_cons (ps_frz 3 (ps_for PassesOwn.never rfl (pi_range1 (by rfl) (T.fr "range" (by decide +kernel)) (pa_cons (pv 1) pa_nil)) (pg_name (i := 5) S.nd rfl (Or.inl rfl))
  (pss_cons (ps_expr (pe_bm PySem.F.plainAttrs_list PySem.F.slot_list_append PySem.F.type_list_append mt_append (pv 3) (pa_cons (pv 4) pa_nil)))
  (pss_one (ps_set (i := 4) S.nd rfl (Or.inl rfl) (pe_op op_add (pe_op op_add (pv 4) pe_int) (pe_cal (C__law_draw T) (hr.mono (by decide)) (by rfl) (pa_cons (pv 0) (pa_cons (pv 2) pa_nil)))))))))
  (pss_one (ps_ret (pv 3))))), fun s ds R q => ?_⟩) (fun _ _ _ _ _ _ us hl => match us, hl with | [_, _, _], _ => rfl)
  · obtain ⟨_, _, rfl, _⟩ := q
    rfl
  · obtain ⟨m, st, rfl, rfl, h1, h2, h3, h4, _⟩ := q
    let J : Nat → List En → Prop := fun i G => ∃ (ts : List Int) (t : Int), G = [.da (.adr s), .da (.int m), .da (.int st), .own (ts.map .int), .da (.int t), .no] ∧ ts.length = i ∧ ts.Pairwise (· < ·) ∧ (∀ x ∈ ts, 0 ≤ x ∧ x < t) ∧ 0 ≤ t ∧ t ≤ 7 + 6 * (i : Int)
    refine hxn_seq (hxn_parLX (hl_lst ha_nil (Nat.zero_le _)) (hx_drawC rfl he_int (by decide) (by decide))) fun G ⟨d1, ⟨t0, e1, l1, l2⟩, eG⟩ => ?_
    subst e1 eG
    refine hxn_seq (Mid := fun G => ∃ (ts : List Int), G[3]? = some (.da (.lst (ts.map .int))) ∧ (ts.length : Int) = m ∧ TimesOk ts) (hxn_frz (hxn_for (hi_range1 (ha1 (he_var rfl)) h1 (by omega)) J ⟨[], t0, rfl, rfl, .nil, fun x hx => (by cases hx), l1, by omega⟩ fun i d G hd hJ => ?_) fun G hJ => ?_) fun G ⟨ts, hG, h5, h6⟩ => ?_
    · obtain ⟨ts, t, eG, j1, j2, j3, j4, j5⟩ := hJ
      subst eG
      have hi : i < m.toNat := by
        have := (List.getElem?_eq_some_iff.mp hd).1
        rw [List.length_map, List.length_range] at this
        exact this
      have hlen : (ts.map D.int).length ≤ 5 := by
        rw [List.length_map]
        omega
      refine ⟨_, _, hg_name, hxn_seq (hxn_of (hs_app (i := 3) rfl (by omega) rfl (he_var rfl))) fun G ⟨eG, _⟩ => ?_⟩
      subst eG
      refine (hxn_set (hx_add (hx_add (hx_i (he_var rfl)) (hx_i he_int)) (hx_drawC rfl (he_var rfl) h3 (by omega)))).sub fun G ⟨d2, ⟨t2, e2, a, b, ab, ⟨a1, a2, a12, a3, a4⟩, b1, b2⟩, eG⟩ => ?_
      subst e2 eG
      refine ⟨_, ?_, ts ++ [t], t2, rfl, ?_, ?_, ?_, by omega, by omega⟩
      · rw [List.map_append]
        exact (by repeat (first | exact Sub.nil | refine Sub.eq ?_ | refine Sub.no ?_))
      · rw [List.length_append, j1]
        rfl
      · refine List.pairwise_append.mpr ⟨j2, List.pairwise_singleton _ _, fun x hx y hy => ?_⟩
        rw [List.mem_singleton.mp hy]
        exact (j3 x hx).2
      · intro x hx
        rcases List.mem_append.mp hx with hx | hx
        · have := j3 x hx
          exact ⟨this.1, by omega⟩
        · rw [List.mem_singleton.mp hx]
          exact ⟨j4, by omega⟩
    · obtain ⟨ts, t, eG, j1, j2, j3, j4, j5⟩ := hJ
      subst eG
      rw [List.length_map, List.length_range] at j1 j5
      refine ⟨ts.map .int, rfl, rfl, ts, rfl, by omega, by omega, fun x hx => ⟨(j3 x hx).1, by have := (j3 x hx).2; omega⟩, ?_⟩
      have key : ∀ (ts : List Int), ts.Pairwise (· < ·) → ∀ p ∈ ts.zip (ts.drop 1), p.1 < p.2 := fun ts => by
        induction ts with
        | nil => intro _ p hp; cases hp
        | cons x xs ih =>
          intro h p hp
          cases xs with
          | nil => cases hp
          | cons y ys =>
            have hp' : p ∈ (x, y) :: ys.zip ((y :: ys).drop 1) ∨ True := .inr trivial
            rw [show (x :: y :: ys).drop 1 = y :: ys from rfl, List.zip_cons_cons] at hp
            rcases List.mem_cons.mp hp with e | hp
            · rw [e]
              exact (List.pairwise_cons.mp h).1 y List.mem_cons_self
            · exact ih (List.pairwise_cons.mp h).2 p hp
      exact key ts j2
    · exact hxn_ret ((hx_of (he_var hG)).imp fun d e => ⟨ts, e, h5, h6⟩)

def r__law_talk : List D → (D → Prop) → Prop := fun ds R => ds = [.int 4, .int 6] ∧ R = (fun d => ∃ T, d = talkD T ∧ TalkV T) ∧ True
theorem C__law_talk (T : Tx K mg) : Cal P w K mg base "_law_talk" 3 ["_law_source", "_law_most", "_law_step"] (SpX K r__law_talk) := by
  have S : FnScope ["_law_source", "_law_most", "_law_step", "_law_outward", "_law_inward"] ["_law_source", "_law_most", "_law_step"] (defScope (top 68)) := ⟨rfl, rfl, rfl, by decide +kernel, rfl, by decide +kernel, by decide +kernel⟩
  refine cal_of T (i := 68) (by decide +kernel) (fun fd F => fn_hx F S (fun ds R q => ?_) fun cdv A outer s0 H E hr => ⟨_, (pss_cons (ps_set (i := 3) S.nd rfl (Or.inl rfl) (pe_cal (C__law_times T) (hr.mono (by decide)) (by rfl) (pa_cons (pv 0) (pa_cons (pe_op op_add pe_int (pe_cal (C__law_draw T) (hr.mono (by decide)) (by rfl) (pa_cons (pv 0) (pa_cons (pv 1) pa_nil)))) (pa_cons (pv 2) pa_nil)))))
  (pss_cons (ps_set (i := 4) S.nd rfl (Or.inl rfl) (pe_cal (C__law_times T) (hr.mono (by decide)) (by rfl) (pa_cons (pv 0) (pa_cons (pe_cal (C__law_draw T) (hr.mono (by decide)) (by rfl) (pa_cons (pv 0) (pa_cons (pe_op op_add (pv 1) pe_int) pa_nil))) (pa_cons (pv 2) pa_nil)))))
  (pss_one (ps_ret (pe_frz (pe_lst (pa_cons (pv 3) (pa_cons (pv 4) (pa_cons (pe_cal (C__law_draw T) (hr.mono (by decide)) (by rfl) (pa_cons (pv 0) (pa_cons pe_int pa_nil))) pa_nil))))))))), fun s ds R q => ?_⟩) (fun _ _ _ _ _ _ us hl => match us, hl with | [_, _, _], _ => rfl)
  · obtain ⟨rfl, _⟩ := q
    rfl
  · obtain ⟨rfl, rfl, _⟩ := q
    refine hxn_seq (hxn_set (P := fun d => ∃ ts : List Int, d = .lst (ts.map .int) ∧ 1 ≤ ts.length ∧ TimesOk ts) (hx_call rfl (hxa_cons (hx_add (hx_i he_int) (hx_drawC rfl (he_var rfl) (by decide) (by decide))) (hxa_of (ha1 (he_var rfl)))) fun ds ⟨d, r, e1, ⟨n, e2, a, b, ab, a1, b1, b2⟩, e3⟩ => ?cal)) fun G ⟨d1, hd1, eG⟩ => ?nx
    case cal =>
      subst e3 e2 e1
      exact ⟨fun d => ∃ ts : List Int, d = .lst (ts.map .int) ∧ (ts.length : Int) = n ∧ TimesOk ts, ⟨n, 6, rfl, rfl, by omega, by omega, by decide, by decide, trivial⟩, fun d ⟨ts, h1, h2, h3⟩ => (⟨ts, h1, by omega, h3⟩ : ∃ ts : List Int, d = .lst (ts.map .int) ∧ 1 ≤ ts.length ∧ TimesOk ts)⟩
    case nx =>
      obtain ⟨out, e1, o1, o2⟩ := hd1
      subst e1 eG
      refine hxn_seq (hxn_set (P := fun d => ∃ ts : List Int, d = .lst (ts.map .int) ∧ TimesOk ts) (hx_call rfl (hxa_cons (hx_drawC rfl (he_op (he_var rfl) he_int rr_add) (by decide) (by decide)) (hxa_of (ha1 (he_var rfl)))) fun ds ⟨d, r, e1, ⟨n, e2, b1, b2⟩, e3⟩ => ?cal2)) fun G ⟨d2, hd2, eG⟩ => ?nx2
      case cal2 =>
        subst e3 e2 e1
        exact ⟨fun d => ∃ ts : List Int, d = .lst (ts.map .int) ∧ (ts.length : Int) = n ∧ TimesOk ts, ⟨n, 6, rfl, rfl, by omega, by omega, by decide, by decide, trivial⟩, fun d ⟨ts, h1, h2, h3⟩ => (⟨ts, h1, h3⟩ : ∃ ts : List Int, d = .lst (ts.map .int) ∧ TimesOk ts)⟩
      case nx2 =>
        obtain ⟨back, e2, b2⟩ := hd2
        subst e2 eG
        refine hxn_ret ((hx_frz (hxl_lst (hxa_cons (hx_of (he_var rfl)) (hxa_cons (hx_of (he_var rfl)) (hxa_cons (hx_drawC rfl he_int (by decide) (by decide)) hxa_nil))) ?_)).imp ?_)
        · rintro ds ⟨a, r, ea, _, b, r2, eb, _, c, r3, ec, _, er⟩
          subst er ec eb ea
          exact Nat.le_of_ble_eq_true rfl
        · rintro d ⟨ds, ed, a, r, ea, e1, b, r2, eb, e2, c, r3, ec, ⟨l, el, l1, l2⟩, er⟩
          subst er ec eb ea ed e1 e2 el
          exact ⟨⟨out, back, l⟩, rfl, o1, o2, b2, l1, by show l ≤ 5; omega⟩

def r__law_line : List D → (D → Prop) → Prop := fun ds R => ds = [.int 2, .int 3] ∧ R = (fun d => ∃ R, d = lineD R ∧ RowV R ∧ (∀ B ∈ R.boxes, BoxOk B)) ∧ True
theorem C__law_line (T : Tx K mg) : Cal P w K mg base "_law_line" 4 ["_law_source", "_law_most", "_law_wide"] (SpX K r__law_line) := by
  have S : FnScope ["_law_source", "_law_most", "_law_wide", "_law_many", "_law_steps", "_law_turn", "_law_least"] ["_law_source", "_law_most", "_law_wide"] (defScope (top 65)) := ⟨rfl, rfl, rfl, by decide +kernel, rfl, by decide +kernel, by decide +kernel⟩
  refine cal_of T (i := 65) (by decide +kernel) (fun fd F => fn_hx F S (fun ds R q => ?_) fun cdv A outer s0 H E hr => ⟨_, (pss_cons (ps_set (i := 3) S.nd rfl (Or.inl rfl) (pe_op op_add pe_int (pe_cal (C__law_draw T) (hr.mono (by decide)) (by rfl) (pa_cons (pv 0) (pa_cons (pv 1) pa_nil)))))
  (pss_cons (ps_set (i := 4) S.nd rfl (Or.inl rfl) (pe_lst pa_nil))
  (pss_cons (ps_frz 4 (ps_for PassesOwn.never rfl (pi_range1 (by rfl) (T.fr "range" (by decide +kernel)) (pa_cons (pe_op op_add (pv 3) pe_int) pa_nil)) (pg_name (i := 5) S.nd rfl (Or.inl rfl))
  (pss_cons (ps_set (i := 6) S.nd rfl (Or.inl rfl) (pe_cal (C__law_draw T) (hr.mono (by decide)) (by rfl) (pa_cons (pv 0) (pa_cons pe_int pa_nil))))
  (pss_one (ps_expr (pe_bm PySem.F.plainAttrs_list PySem.F.slot_list_append PySem.F.type_list_append mt_append (pv 4) (pa_cons (pe_tup (pa_cons (pv 6) (pa_cons (pe_op op_add (pv 6) (pe_cal (C__law_draw T) (hr.mono (by decide)) (by rfl) (pa_cons (pv 0) (pa_cons (pe_op op_add (pv 2) pe_int) pa_nil)))) pa_nil))) pa_nil)))))))
  (pss_one (ps_ret (pe_frz (pe_lst (pa_cons (pe_frz (pe_lc (own := [("_law_turn", 5)]) (g := (gName 5)) (tt := tYes) (te := (tCall (SpX K r__law_case) [] L2.E0 (tCons (tVar 0) tNil))) (by rfl) S.nd (pi_range1 (by rfl) (T.fr "range" (by decide +kernel)) (pa_cons (pv 3) pa_nil)) (blkOk_by (N := ["_law_source", "_law_most", "_law_wide", "_law_many", "_law_steps", "_law_turn", "_law_least"]) (sc := defScope (top 65)) (by decide +kernel)) (fun _ _ _ _ _ => (pg_name (i := 5) S.nd rfl (Or.inl rfl))) (fun _ _ _ _ _ => pts_nil) (fun _ _ _ _ _ => (pe_cal (C__law_case T) (hr.mono (by decide)) (by rfl) (pa_cons (pv 0) pa_nil))))) (pa_cons (pv 4) pa_nil))))))))), fun s ds R q => ?_⟩) (fun _ _ _ _ _ _ us hl => match us, hl with | [_, _, _], _ => rfl)
  · obtain ⟨rfl, _⟩ := q
    rfl
  · obtain ⟨rfl, rfl, _⟩ := q
    refine hxn_seq (hxn_set (hx_add (hx_i he_int) (hx_drawC rfl (he_var rfl) (by decide) (by decide)))) fun G ⟨d1, ⟨m, e1, a, b, ab, a1, b1, b2⟩, eG⟩ => ?_
    subst e1 eG
    have hm1 : 1 ≤ m := by omega
    have hm2 : m ≤ 2 := by omega
    refine hxn_seq (hxn_of (hs_setL (hl_lst ha_nil (Nat.zero_le _)))) fun G ⟨eG, _⟩ => ?_
    subst eG
    let J : Nat → List En → Prop := fun i G => ∃ (ls : List (Int × Int)), G = [.da (.adr s), .da (.int 2), .da (.int 3), .da (.int m), .own (ls.map prD), .no, .no] ∧ ls.length = i ∧ ∀ p ∈ ls, LinkOk p
    refine hxn_seq (Mid := fun G => ∃ (ls : List (Int × Int)), G = [.da (.adr s), .da (.int 2), .da (.int 3), .da (.int m), .da (.lst (ls.map prD)), .no, .no] ∧ (ls.length : Int) = m + 1 ∧ ∀ p ∈ ls, LinkOk p) (hxn_frz (hxn_for (hi_range1 (ha1 (he_op (he_var rfl) he_int rr_add)) (by omega) (by omega)) J ⟨[], rfl, rfl, fun p hp => (by cases hp)⟩ fun i d G hd hJ => ?_) fun G hJ => ?_) fun G ⟨ls, eG, h5, h6⟩ => ?_
    · obtain ⟨ls, eG, j1, j2⟩ := hJ
      subst eG
      have hi : i < (m + 1).toNat := by
        have := (List.getElem?_eq_some_iff.mp hd).1
        rw [List.length_map, List.length_range] at this
        exact this
      have hlen : (ls.map prD).length ≤ 5 := by
        rw [List.length_map]
        omega
      refine ⟨_, _, hg_name, hxn_seq (hxn_set (hx_drawC rfl he_int (by decide) (by decide))) fun G ⟨d2, ⟨lo, e2, l1, l2⟩, eG⟩ => ?_⟩
      subst e2 eG
      refine (hxn_app (i := 4) rfl (by omega) rfl (P := fun d => ∃ p, d = prD p ∧ LinkOk p) ((hx_tup (hxa_cons (hx_i (he_var rfl)) (hxa_cons (hx_add (hx_i (he_var rfl)) (hx_drawC rfl (he_op (he_var rfl) he_int rr_add) (by decide) (by decide))) hxa_nil)) ?_).imp ?_)).sub fun G ⟨d3, ⟨p, e3, hp⟩, eG⟩ => ?_
      · rintro ds ⟨a, r, ea, _, b, r2, eb, _, er⟩
        subst er eb ea
        exact Nat.le_of_ble_eq_true rfl
      · rintro d ⟨ds, ed, a, r, ea, ⟨i1, ei1, f1⟩, b, r2, eb, ⟨i2, ei2, x, y, exy, f2, f3, f4⟩, er⟩
        subst er eb ea ed ei1 ei2
        refine ⟨(i1, i2), rfl, ?_, ?_, ?_⟩
        · show 0 ≤ i1
          omega
        · show i1 ≤ i2
          omega
        · show i2 ≤ 1000
          omega
      · subst e3 eG
        refine ⟨_, ?_, ls ++ [p], rfl, by rw [List.length_append, j1]; rfl, fun q hq => ?_⟩
        · rw [List.map_append]
          exact (by repeat (first | exact Sub.nil | refine Sub.eq ?_ | refine Sub.no ?_))
        · rcases List.mem_append.mp hq with hq | hq
          · exact j2 q hq
          · rw [List.mem_singleton.mp hq]
            exact hp
    · obtain ⟨ls, eG, j1, j2⟩ := hJ
      subst eG
      rw [List.length_map, List.length_range] at j1
      exact ⟨ls.map prD, rfl, rfl, ls, rfl, by omega, j2⟩
    · subst eG
      have em : m = ((m.toNat : Nat) : Int) := by omega
      refine hxn_ret ((hx_frz (hxl_lst (hxa_cons (hx_frz (hxl_lc (P := fun d => ∃ B, d = caseD B ∧ BoxOk B) (List.range m.toNat) (fun i => .int (i : Int)) (HI.to (hi_range (n := m.toNat) ((he_var rfl).to (by rw [← em])) (by omega)) rfl) (by rw [List.length_range]; omega) fun i hi => ⟨_, _, hg_name, by decide, hx_call rfl hxa_nil fun ds e => ⟨_, ⟨e, rfl, trivial⟩, fun d h => h⟩⟩)) (hxa_cons (hx_of (he_var rfl)) hxa_nil)) ?_)).imp ?_)
      · rintro ds ⟨a, r, ea, _, b, r2, eb, _, er⟩
        subst er eb ea
        exact Nat.le_of_ble_eq_true rfl
      · rintro d ⟨ds, ed, a, r, ea, ⟨cs, ec, c1, c2⟩, b, r2, eb, e2, er⟩
        subst er eb ea ed ec e2
        obtain ⟨Bs, eB, hB⟩ := cases_of cs c2
        subst eB
        rw [List.length_map, List.length_range] at c1
        refine ⟨⟨Bs, ls⟩, rfl, ⟨⟨?_, ?_, ?_⟩, h6⟩, hB⟩
        · show ls.length = Bs.length + 1
          omega
        · show 1 ≤ Bs.length
          omega
        · show Bs.length ≤ 4
          omega

end
end Q
/-! Quietdoors: the law. -/
namespace Q
open PySem PySem.Spec PyProof.Rows L2
section
variable {K : PySem.W.Frag} {s : Addr} {Γ : List En} {te : TE} {P R : D → Prop} {Post : List En → Prop} {g : TG}
theorem hxn_asg (h : HX K s Γ te P) (hg : ∀ d, P d → ∃ (Γ' : List En) (ss : List Nat), HG K Γ g d Γ' ss ∧ Post Γ') : HXN K s Γ (tAsg te g) R Post := fun H0 σ H E e0 st hs sc hr hn => h H0 σ H st hs sc _ fun v H1 d p e1 sc1 i1 => by
  obtain ⟨Γ', ss, h1, h2⟩ := hg d p
  exact h1 H0 σ H1 v (st.exS hs e1 sc) i1 _ fun σ2 s2 _ => hn σ2 H1 Γ' h2 (e0.trans e1) (e1.i sc) sc1 s2
end
section
variable {P : Program} {w : World} {K : PySem.W.Frag} {mg : Str → Option Value} {base : Heap}
def spBegin (K : PySem.W.Frag) : Sp := fun vs H Q _ => ∃ (a : Addr) (ns : List Int), vs = [.ref a] ∧ SqL K H a (ns.map V.int) ∧ ns.length ≤ 63 ∧ ∀ s H', H s = none → Ex H H' → Sc H' s → Q (.ref s) H'
theorem cut_int (ns : List Int) (lo hi : Option Int) : ∃ ms : List Int, cutV (ns.map V.int) lo hi = ms.map V.int ∧ ms.length ≤ ns.length := by
  unfold cutV
  rw [List.length_map, ← List.map_drop, ← List.map_take]
  exact ⟨_, rfl, Nat.le_trans (by rw [List.length_take]; exact Nat.min_le_right _ _) (by rw [List.length_drop]; exact Nat.sub_le _ _)⟩
theorem C__law_begin (T : Tx K mg) : Cal P w K mg base "_law_begin" 1 ["_law_script"] (spBegin K) := by
  have S : FnScope ["_law_script"] ["_law_script"] (defScope (top 60)) := ⟨rfl, rfl, rfl, by decide +kernel, rfl, by decide +kernel, by decide +kernel⟩
  refine cal_of T (i := 60) (by decide +kernel) (fun fd F => F.ok S (fun vs H Q E q => ?_) (fun cdv A outer s0 H vs Q E hr q => ⟨_, PSs.nox (pss_one (ps_ret (pe_lst (pa_cons (pe_frz (pe_callTy call_list_of (by rfl) (T.fr "list" (by decide +kernel)) (by decide +kernel) (pa_cons (pe_slice sl_list (pv 0) po_none (po_some pe_int)) pa_nil))) (pa_cons pe_int (pa_cons pe_int (pa_cons pe_int pa_nil))))))), ?_⟩)) (fun _ _ _ _ _ _ us hl => match us, hl with | [_], _ => rfl)
  · obtain ⟨a, ns, rfl, _⟩ := q
    rfl
  · obtain ⟨a, ns, rfl, hS, hl, q⟩ := q
    obtain ⟨ms, em, hm⟩ := cut_int ns none (some 63)
    refine ⟨_, rfl, 63, rfl, a, ns.map V.int, rfl, hS, fun p hp => ?_⟩
    rw [em]
    have e1 : Ex H (upd H p (.lst (ms.map V.int))) := Ex.new hp
    refine ⟨p, ms.map V.int, rfl, .inl (SqL.of upd_same), fun c hc => ?_⟩
    have e2 : Ex (upd H p (.lst (ms.map V.int))) (upd (upd H p (.lst (ms.map V.int))) c (.lst (ms.map V.int))) := Ex.new hc
    refine ⟨c, _, rfl, upd_same, True.intro, fun od => ⟨(by show 4 ≤ sizeLine; exact small_line (by decide)), fun s hs => ?_⟩⟩
    have hcn : H c = none := (e1.none hc)
    have e3 : Ex H (upd (upd (upd H p (.lst (ms.map V.int))) c (.lst (ms.map V.int))) c (.frz od (.lst (ms.map V.int)))) := (e1.trans e2).mut hcn
    refine q s _ (e3.none hs) (e3.trans (Ex.new hs)) ⟨c, ms, od, 0, 0, 7, upd_same, ?_, by decide, by decide, by decide⟩
    have hcs : c ≠ s := fun z => by
      rw [← z, upd_same] at hs
      cases hs
    rw [upd_ne hcs, upd_same]
def spLaw (K : PySem.W.Frag) : Sp := fun vs H Q _ => ∃ (a : Addr) (ns : List Int), vs = [.ref a] ∧ SqL K H a (ns.map V.int) ∧ ns.length ≤ 63 ∧ ∀ H', Q (.bl true) H'
theorem F_law (T : Tx K mg) {f : Addr} {fd : FuncData} (F : FunD K "law" "law" (defArgs (top 80)) (defBody (top 80)) (defScope (top 80)) [] [] f fd) : FnOk P w K mg base L2.CX0 11 f fd ["_law_script"] (spLaw K) := by
  have S : FnScope ["_law_script", "_law_source", "_law_turn", "_law_line_here", "_law_talk_here", "_law_more", "_law_again", "_law_row_here", "_law_made", "_law_other", "_law_later", "_law_own", "_law_told", "_law_most", "_law_b"] ["_law_script"] (defScope (top 80)) := ⟨rfl, rfl, rfl, by decide +kernel, rfl, by decide +kernel, by decide +kernel⟩
  refine F.ok S (fun vs H Q E q => ?_) (fun cdv A outer s0 H vs Q E hr q => ⟨_, PSs.nox (pss_cons (ps_set (i := 1) S.nd rfl (Or.inl rfl) (pe_cal (C__law_begin T) (hr.mono (by decide)) (by rfl) (pa_cons (pv 0) pa_nil)))
  (pss_cons (ps_for PassesOwn.never rfl (pi_range1 (by rfl) (T.fr "range" (by decide +kernel)) (pa_cons pe_int pa_nil)) (pg_name (i := 2) S.nd rfl (Or.inl rfl))
  (pss_cons (ps_asg (pe_tup (pa_cons (pe_cal (C__law_line T) (hr.mono (by decide)) (by rfl) (pa_cons (pv 1) (pa_cons pe_int (pa_cons pe_int pa_nil)))) (pa_cons (pe_cal (C__law_talk T) (hr.mono (by decide)) (by rfl) (pa_cons (pv 1) (pa_cons pe_int (pa_cons pe_int pa_nil)))) pa_nil))) (pg_tup (by rfl) (pgs_cons (pg_name (i := 3) S.nd rfl (Or.inr rfl)) (pgs_cons (pg_name (i := 4) S.nd rfl (Or.inr rfl)) pgs_nil))))
  (pss_cons (ps_par (by rfl) S.nd (i := 5) (j := 6) rfl rfl (by decide) rfl rfl (pa_cons (pe_cal (C__law_line T) (hr.mono (by decide)) (by rfl) (pa_cons (pv 1) (pa_cons pe_int (pa_cons pe_int pa_nil)))) (pa_cons (pe_cal (C__law_talk T) (hr.mono (by decide)) (by rfl) (pa_cons (pv 1) (pa_cons pe_int (pa_cons pe_int pa_nil)))) pa_nil)) (by rfl))
  (pss_cons (ps_if (pt_cmpR op_eq (pe_cal (C__law_draw T) (hr.mono (by decide)) (by rfl) (pa_cons (pv 1) (pa_cons pe_int pa_nil))) pe_int (nomark _)) (pss_one (ps_set (i := 6) S.nd rfl (Or.inl rfl) (pe_frz (pe_lst (pa_cons (pe_ix ix_list (pv 4) pe_int (fun _ _ => rfl)) (pa_cons (pe_ix ix_list (pv 4) pe_int (fun _ _ => rfl)) (pa_cons (pe_ix ix_list (pv 6) pe_int (fun _ _ => rfl)) pa_nil))))))) pss_nil)
  (pss_cons (ps_asg (pe_tup (pa_cons (pe_cal (C__law_row T) (hr.mono (by decide)) (by rfl) (pa_cons (pv 3) pa_nil)) (pa_cons (pe_cal (C__law_made_talk T) (hr.mono (by decide)) (by rfl) (pa_cons (pv 4) pa_nil)) (pa_cons (pe_cal (C__law_row T) (hr.mono (by decide)) (by rfl) (pa_cons (pv 5) pa_nil)) (pa_cons (pe_cal (C__law_made_talk T) (hr.mono (by decide)) (by rfl) (pa_cons (pv 6) pa_nil)) pa_nil))))) (pg_tup (by rfl) (pgs_cons (pg_name (i := 7) S.nd rfl (Or.inl rfl)) (pgs_cons (pg_name (i := 8) S.nd rfl (Or.inl rfl)) (pgs_cons (pg_name (i := 9) S.nd rfl (Or.inl rfl)) (pgs_cons (pg_name (i := 10) S.nd rfl (Or.inl rfl)) pgs_nil))))))
  (pss_cons (ps_set (i := 11) S.nd rfl (Or.inl rfl) (pe_cal (C_paper T) (hr.mono (by decide)) (by rfl) (pa_cons (pv 7) (pa_cons (pv 8) pa_nil))))
  (pss_cons (ps_for PassesOwn.never rfl (pi_list (pe_frz (pe_lst (pa_cons (pe_cal (C_paper T) (hr.mono (by decide)) (by rfl) (pa_cons (pv 9) (pa_cons (pv 10) pa_nil))) (pa_cons (pe_cal (C_paper T) (hr.mono (by decide)) (by rfl) (pa_cons (pv 7) (pa_cons (pv 10) pa_nil))) (pa_cons (pe_cal (C_paper T) (hr.mono (by decide)) (by rfl) (pa_cons (pv 9) (pa_cons (pv 8) pa_nil))) (pa_cons (pv 11) pa_nil))))))) (pg_name (i := 12) S.nd rfl (Or.inl rfl))
  (pss_one (ps_if (pt_cmpR op_ne (pe_callB call_reprB (by rfl) (T.fr "repr" (by decide +kernel)) (by decide +kernel) (pa_cons (pe_cal (C_accepts T) (hr.mono (by decide)) (by rfl) (pa_cons (pv 7) (pa_cons (pv 8) (pa_cons (pv 12) pa_nil)))) pa_nil)) (pe_callB call_reprB (by rfl) (T.fr "repr" (by decide +kernel)) (by decide +kernel) (pa_cons (pe_cal (C__law_due T) (hr.mono (by decide)) (by rfl) (pa_cons (pv 3) (pa_cons (pv 4) (pa_cons (pv 7) (pa_cons (pv 8) (pa_cons (pv 12) pa_nil)))))) pa_nil)) (nomark _)) (pss_one (ps_ret pe_bl)) pss_nil)))
  (pss_cons (ps_frz 13 (ps_setLc (i := 13) (own := [("_law_b", 14)]) (g := (gName 14)) (tt := tYes) (te := (tCall (SpR K r__law_greatest) [] L2.E0 (tCons (tVar 3) (tCons (tVar 4) (tCons (tVar 14) tNil))))) (by rfl) S.nd rfl rfl (sw_true rfl rfl rfl (by decide +kernel)) (pi_range1 (by rfl) (T.fr "range" (by decide +kernel)) (pa_cons (pe_callB (call_lenC (hr.mono (by decide)) (C_Row___len__ T)) (by rfl) (T.fr "len" (by decide +kernel)) (by decide +kernel) (pa_cons (pv 7) pa_nil)) pa_nil)) (blkOk_by (N := ["_law_script", "_law_source", "_law_turn", "_law_line_here", "_law_talk_here", "_law_more", "_law_again", "_law_row_here", "_law_made", "_law_other", "_law_later", "_law_own", "_law_told", "_law_most", "_law_b"]) (sc := defScope (top 80)) (by decide +kernel)) (fun _ _ _ _ _ => (pg_name (i := 14) S.nd rfl (Or.inl rfl))) (fun _ _ _ _ _ => pts_nil) (fun _ _ _ _ _ => (pe_cal (C__law_greatest T) (hr.mono (by decide)) (by rfl) (pa_cons (pv 3) (pa_cons (pv 4) (pa_cons (pv 14) pa_nil)))))))
  (pss_one (ps_if (PW.pt (pw_or (pt_not (pt_val (pe_cal (C__law_bounds_right T) (hr.mono (by decide)) (by rfl) (pa_cons (pv 3) (pa_cons (pv 7) (pa_cons (pv 8) (pa_cons (pv 13) pa_nil))))))) (pw_or1 (pt_cmpR op_notBl (pe_cal (C_accepts T) (hr.mono (by decide)) (by rfl) (pa_cons (pv 7) (pa_cons (pv 8) (pa_cons (pv 11) pa_nil)))) pe_bl (nomark _))))) (pss_one (ps_ret pe_bl)) pss_nil))))))))))
  (pss_one (ps_ret pe_bl)))), ?_⟩)
  · obtain ⟨a, ns, rfl, _⟩ := q
    rfl
  · obtain ⟨a, ns, rfl, hS, hl, q⟩ := q
    refine ⟨_, rfl, a, ns, rfl, hS, hl, fun s H1 hs1 e1 sc => ?_⟩
    let G0' : List En := [.no, .da (.adr s), .no, .no, .no, .no, .no, .no, .no, .no, .no, .no, .no, .no, .no]
    have sat : Sat K H1 H1 G0' ((L2.start ["_law_script", "_law_source", "_law_turn", "_law_line_here", "_law_talk_here", "_law_more", "_law_again", "_law_row_here", "_law_made", "_law_other", "_law_later", "_law_own", "_law_told", "_law_most", "_law_b"] [V.ref a]).set 1 (some (V.ref s))) :=
      .cons True.intro (.cons ⟨_, rfl, .adr s⟩ (.cons True.intro (.cons True.intro (.cons True.intro (.cons True.intro (.cons True.intro (.cons True.intro (.cons True.intro (.cons True.intro (.cons True.intro (.cons True.intro (.cons True.intro (.cons True.intro (.cons True.intro .nil))))))))))))))
    refine hxn_seq (K := K) (s := s) (R := fun d => d = .bl true) (Post := fun _ => False) (Mid := fun G => G = G0') (hxn_for (hi_range1 (n := 4) (ha1 he_int) (by decide) (by decide)) (fun _ G => G = G0') rfl fun i d G hd hG => ?_) (fun G hG => ?_) H1 _ H1 _ .refl sat sc.some sc (fun v H' d ed _ _ i => ?_) fun σ' H' G f => f.elim
    · subst hG
      refine ⟨_, _, hg_name, ?_⟩
      refine hxn_seq (Mid := fun G => ∃ R T1, RowV R ∧ (∀ B ∈ R.boxes, BoxOk B) ∧ TalkV T1 ∧ G = [.no, .da (.adr s), .no, .da (lineD R), .da (talkD T1), .no, .no, .no, .no, .no, .no, .no, .no, .no, .no]) (HXN.sub (hxn_asg (Post := fun G => ∃ d R T1, RowV R ∧ (∀ B ∈ R.boxes, BoxOk B) ∧ TalkV T1 ∧ G = [.no, .da (.adr s), .da d, .da (lineD R), .da (talkD T1), .no, .no, .no, .no, .no, .no, .no, .no, .no, .no]) (hx_tup (hxa_cons (P := fun d => ∃ R, d = lineD R ∧ RowV R ∧ (∀ B ∈ R.boxes, BoxOk B)) (hx_call rfl (hxa_of (ha2 he_int he_int)) fun ds e => ⟨_, ⟨e, rfl, trivial⟩, fun d h => h⟩) (hxa_cons (P := fun d => ∃ T, d = talkD T ∧ TalkV T) (hx_call rfl (hxa_of (ha2 he_int he_int)) fun ds e => ⟨_, ⟨e, rfl, trivial⟩, fun d h => h⟩) hxa_nil)) ?_) fun d hd => ?_) fun G ⟨d, R, T1, a1, a2, a3, eG⟩ => ⟨_, ?_, R, T1, a1, a2, a3, rfl⟩) fun G ⟨R, T1, r1, r2, t1, eG⟩ => ?_
      · rintro ds ⟨a, r, ea, _, b, r2, eb, _, er⟩
        subst er eb ea
        exact Nat.le_of_ble_eq_true rfl
      · obtain ⟨ds, ed, a, r, ea, ⟨R, eR, R1, R2⟩, b, r2, eb, ⟨T1, eT, T2⟩, er⟩ := hd
        subst er eb ea ed eR eT
        exact ⟨_, _, hg_tup (hgs_cons hg_name (hgs_cons hg_name hgs_nil)) rfl, _, R, T1, R1, R2, T2, rfl⟩
      · subst eG
        exact (by repeat (first | exact Sub.nil | refine Sub.eq ?_ | refine Sub.no ?_))
      · subst eG
        refine hxn_seq (hxn_par (P := fun d => ∃ R, d = lineD R ∧ RowV R ∧ (∀ B ∈ R.boxes, BoxOk B)) (P' := fun d => ∃ T, d = talkD T ∧ TalkV T) (hx_call rfl (hxa_of (ha2 he_int he_int)) fun ds e => ⟨_, ⟨e, rfl, trivial⟩, fun d h => h⟩) (hx_call rfl (hxa_of (ha2 he_int he_int)) fun ds e => ⟨_, ⟨e, rfl, trivial⟩, fun d h => h⟩)) fun G ⟨x, y, ⟨R', ex, r1', r2'⟩, ⟨T2, ey, t2⟩, eG⟩ => ?_
        subst ex ey eG
        refine hxn_seq (Mid := fun G => ∃ T2, TalkV T2 ∧ G = [.no, .da (.adr s), .no, .da (lineD R), .da (talkD T1), .da (lineD R'), .da (talkD T2), .no, .no, .no, .no, .no, .no, .no, .no]) (hxn_ifX (hx_op (hx_drawC (n := 2) rfl he_int (by decide) (by decide)) (hx_of he_int) fun x y ⟨k, ek, _⟩ ey => by
            subst ek ey
            exact ⟨_, rr_eqI, _, rfl⟩) ((hxn_of (hs_set (d := talkD ⟨T1.out, T1.back, T2.loss⟩) (he_frz (hl_lst (ha_cons (he_t0 (T := T1) (he_var rfl)) (ha2 (he_t1 (T := T1) (he_var rfl)) (he_t2 (T := T2) (he_var rfl)))) (Nat.le_of_ble_eq_true rfl))))).imp fun G ⟨eG, _⟩ => ⟨⟨T1.out, T1.back, T2.loss⟩, ⟨t1.1, t1.2.1, t1.2.2.1, t2.2.2.2⟩, by rw [eG]; rfl⟩) (hxn_next ⟨T2, t2, rfl⟩)) fun G ⟨T2, t2, eG⟩ => ?_
        subst eG
        have low : LowOk R := fun B hB => (r2 B hB).1
        have low' : LowOk R' := fun B hB => (r2' B hB).1
        have hR := r1.1.2.2
        let pps : List Ppr := [paperOf R' T2, paperOf R T2, paperOf R' T1, paperOf R T1]
        have hpp : ∀ p ∈ pps, PprOk p := fun p hp => by
          simp only [pps, List.mem_cons, List.not_mem_nil, or_false] at hp
          rcases hp with e | e | e | e
          · rw [e]; exact paper_ok r1'.1 t2.ok low'
          · rw [e]; exact paper_ok r1.1 t2.ok low
          · rw [e]; exact paper_ok r1'.1 t1.ok low'
          · rw [e]; exact paper_ok r1.1 t1.ok low
        refine (hxn_of (chi := True) (Γ' := G0') ?_).imp fun G ⟨eG, _⟩ => eG
        refine hs_seq (hs_setG (he_tup (ha_cons (he_call (ha1 (he_var rfl)) ⟨R, rfl, rfl, r1, r2, trivial⟩) (ha_cons (he_call (ha1 (he_var rfl)) ⟨T1, rfl, rfl, t1, trivial⟩) (ha2 (he_call (ha1 (he_var rfl)) ⟨R', rfl, rfl, r1', r2', trivial⟩) (he_call (ha1 (he_var rfl)) ⟨T2, rfl, rfl, t2, trivial⟩)))) (Nat.le_of_ble_eq_true rfl)) (hg_tup (hgs_cons hg_name (hgs_cons hg_name (hgs_cons hg_name (hgs_cons hg_name hgs_nil)))) rfl)) fun _ =>
          hs_seq (hs_set (he_call (ha2 (he_var rfl) (he_var rfl)) ⟨R, T1, rfl, rfl, r1.1, t1.ok, low, trivial⟩)) fun _ =>
          hs_seq (hs_forX pps pprD (HI.to (hi_list (he_frz (hl_lst (ha_cons (he_call (ha2 (he_var rfl) (he_var rfl)) ⟨R', T2, rfl, rfl, r1'.1, t2.ok, low', trivial⟩) (ha_cons (he_call (ha2 (he_var rfl) (he_var rfl)) ⟨R, T2, rfl, rfl, r1.1, t2.ok, low, trivial⟩) (ha2 (he_call (ha2 (he_var rfl) (he_var rfl)) ⟨R', T1, rfl, rfl, r1'.1, t1.ok, low', trivial⟩) (he_var rfl)))) (Nat.le_of_ble_eq_true rfl)))) rfl) (fun _ => [.no, .da (.adr s), .no, .da (lineD R), .da (talkD T1), .no, .no, .da (.row R), .da (.talk T1), .no, .no, .da (pprD (paperOf R T1)), .no, .no, .no]) (fun _ => True) (by repeat (first | exact Sub.nil | refine Sub.eq ?_ | refine Sub.no ?_)) trivial fun j p hp _ => ⟨_, _, hg_name, ?_⟩) fun _ =>
          hs_seq (hs_frz (hs_setL (HL.to (hl_lcY (List.range R.boxes.length) (fun k => .int (k : Int)) (fun k => .int (lawGreat R T1 k)) (hi_range (he_cb (ha1 (he_var rfl)) (rc_lenO rfl ⟨R, rfl, rfl, trivial⟩ (by omega))) (by omega)) (by rw [List.length_range]; omega) fun k hk => ⟨_, _, hg_name, by decide, he_call (ha_cons (he_var rfl) (ha2 (he_var rfl) (he_var rfl))) ⟨R, T1, k, rfl, rfl, r1.1, t1.ok, List.mem_range.mp hk, trivial⟩⟩) (es := ((List.range R.boxes.length).map (lawGreat R T1)).map .int) (by rw [List.map_map]; rfl))) rfl rfl) fun _ =>
          (hs_guard (b := false) (HT.to (ht_or (ht_not (ht_B (he_call (ha_cons (he_var rfl) (ha_cons (he_var rfl) (ha2 (he_var rfl) (he_var rfl)))) ⟨R, T1, rfl, rfl, r1.1, t1.ok, trivial⟩))) fun _ => ht_test (he_op (he_call (ha_cons (he_var rfl) (ha2 (he_var rfl) (he_var rfl))) ⟨R, T1, paperOf R T1, rfl, rfl, r1.1, t1.ok, paper_ok r1.1 t1.ok low, trivial⟩) he_bl rr_notB)) ?_) rfl).weak fun _ => ⟨trivial, ?_⟩
        · refine (hs_guard (ht_test (he_reprNe (a := acc R T1 p) (b := lawDue R T1 p) (he_call (ha_cons (he_var rfl) (ha2 (he_var rfl) (he_var rfl))) ⟨R, T1, p, rfl, rfl, r1.1, t1.ok, hpp p (List.mem_of_getElem? hp), trivial⟩) (he_call (ha_cons (he_var rfl) (ha_cons (he_var rfl) (ha_cons (he_var rfl) (ha2 (he_var rfl) (he_var rfl))))) ⟨R, T1, p, rfl, rfl, r1.1, t1.ok, hpp p (List.mem_of_getElem? hp), trivial⟩))) ?_).weak fun _ => ⟨trivial, (by repeat (first | exact Sub.nil | refine Sub.eq ?_ | refine Sub.no ?_))⟩
          rw [due_acc t1.ok, decide_eq_true rfl]
          rfl
        · rw [own_ok r1 t1 low]
          rfl
        · exact (by repeat (first | exact Sub.nil | refine Sub.eq ?_ | refine Sub.no ?_))
    · subst hG
      exact hxn_ret ((hx_of he_bl).imp fun d e => e)
    · subst ed
      have ev := i.bl_v
      subst ev
      exact q H'
end
end Q
/-! Quietdoors: what the head tells, and that it gives the text's facts. -/
namespace Q
open PySem PySem.Spec PyProof.Rows L2
/-- the facts by names -/
def fa1 : List He.Fa := [.cls "Box", .cls "Row", .cls "Talk", .noat "Box" "kept_parts", .noat "Row" "kept_boxes", .noat "Row" "kept_links", .noat "Talk" "kept_out", .noat "Talk" "kept_back", .noat "Talk" "kept_losses", .mkr "Box", .mkr "Row", .mkr "Talk", .int "MOST_TIME" 10000, .int "MOST_BOXES" 4, .int "MOST_LINK" 1000, .int "MOST_TIMES" 60, .int "MOST_LOSSES" 5]
def fa2 : List He.Fa := [.glo "Box", .glo "Row", .glo "Talk", .glo "PARTS", .glo "law"]
def fa : List He.Fa := fa1 ++ (fa2 ++ (topTab.map (fun q => He.Fa.glo q.1) ++ (frees.map He.Fa.free ++ methTab.map fun q => He.Fa.meth q.1 q.2.1)))
def mkTop (q : Str × Nat) : He.DefD := ⟨(q.1, none), q.1, q.1, defArgs (top q.2), defBody (top q.2), defScope (top q.2), [], []⟩
def mkMeth (q : Str × Str × Str × Nat × Nat) : He.DefD := ⟨(q.1, some q.2.1), q.2.1, q.2.2.1, defArgs (inClass (top q.2.2.2.1) q.2.2.2.2), defBody (inClass (top q.2.2.2.1) q.2.2.2.2), defScope (inClass (top q.2.2.2.1) q.2.2.2.2), [], []⟩
def dBox : He.DefD := ⟨("Box", some "__init__"), "__init__", "Box.__init__", defArgs (inClass (top 17) 0), defBody (inClass (top 17) 0), defScope (inClass (top 17) 0), [], [("rest", .int 0), ("sees", .str "out")]⟩
def dTalk : He.DefD := ⟨("Talk", some "__init__"), "__init__", "Talk.__init__", defArgs (inClass (top 58) 0), defBody (inClass (top 58) 0), defScope (inClass (top 58) 0), [.adr (He.dflAt ("Talk", some "__init__") 0), .int 0], []⟩
def dLaw : He.DefD := ⟨("law", none), "law", "law", defArgs (top 80), defBody (top 80), defScope (top 80), [], []⟩
def fn : List He.DefD := [dBox, dTalk, dLaw] ++ (topTab.map mkTop ++ methTab.map mkMeth)
/-- a getter -/
def gW (K : PySem.W.Frag) (g : Addr) : He.FnW := match K.lookup g with
  | some ⟨_, _, .func fd, _⟩ => some (fd.name, fd.qualname, fd.params, fd.body, fd.scope, fd.globals, fd.closure, fd.builtins)
  | _ => none
def gOk (K : PySem.W.Frag) (q : Str) (g : Addr) : Bool := PySem.W.keepIn K (.ref g) && (match K.lookup g with
  | some ⟨_, _, .func fd, _⟩ => PySem.W.codeIn K fd.code q && (He.dflB K fd.defaults [] && He.kwdB K fd.kwdefaults [])
  | _ => false)
def gVal (q : Str × Str × Str × Nat × Nat) : He.FnW := (mkMeth q).val
theorem gFun {K : PySem.W.Frag} {q : Str × Str × Str × Nat × Nat} {g : Addr} (e : gW K g = gVal q) (c : gOk K q.2.2.1 g = true) : ∃ fd, FunD K q.2.1 q.2.2.1 (defArgs (inClass (top q.2.2.2.1) q.2.2.2.2)) (defBody (inClass (top q.2.2.2.1) q.2.2.2.2)) (defScope (inClass (top q.2.2.2.1) q.2.2.2.2)) [] [] g fd := by
  obtain ⟨kp, c2⟩ := He.ba c
  unfold gW at e
  cases z : K.lookup g with
  | none =>
    rw [z] at c2
    cases c2
  | some o =>
    obtain ⟨oc, od, dt, osl⟩ := o
    rw [z] at c2 e
    cases dt with
    | func fd =>
      obtain ⟨n1, n2, n3, n4, n5, n6, n7, n8, n9, n10, n11, n12, n13, n14, n15⟩ := fd
      have e2 : (some (n1, n2, n3, n4, n5, n6, n7, n15) : He.FnW) = some (q.2.1, q.2.2.1, defArgs (inClass (top q.2.2.2.1) q.2.2.2.2), .stmts (defBody (inClass (top q.2.2.2.1) q.2.2.2.2)), defScope (inClass (top q.2.2.2.1) q.2.2.2.2), mainGlobals, [], builtinsNs) := e
      simp only [Option.some.injEq, Prod.mk.injEq] at e2
      obtain ⟨h1, h2, h3, h4, h5, h6, h7, h8⟩ := e2
      subst h1 h2 h3 h4 h5 h6 h7 h8
      have c3 : (PySem.W.codeIn K n13 q.2.2.1 && (He.dflB K n8 [] && He.kwdB K n9 [])) = true := c2
      obtain ⟨k1, k2⟩ := He.ba c3
      obtain ⟨k3, k4⟩ := He.ba k2
      exact ⟨_, ⟨oc, od, n8, n9, n10, n11, n12, n13, n14, osl, rfl, z, k1, He.dflB_ok k3, He.kwdB_ok k4⟩, kp⟩
    | _ => cases c2
def prB (K : PySem.W.Frag) (c m : Str) : Bool := He.eqO (PySem.W.findIn K (.ref (He.ga K c)) m) (some (some (.ref (He.ma K (He.ga K c) m)))) && (He.eqO (PySem.W.specialIn K (.ref (He.ma K (He.ga K c) m)) "__get__") (some (some (.builtin "property.__get__"))) && (decide (PySem.W.takesIn K (.ref (He.ma K (He.ga K c) m)) = some true) && (match PySem.W.recIn K (He.ma K (He.ga K c) m) "property" with
  | some (.ref g :: _) => decide (g = pg K c m)
  | _ => false)))
theorem prB_ok {K : PySem.W.Frag} {c m : Str} (h : prB K c m = true) : PropOf K (He.ga K c) m (He.ma K (He.ga K c) m) (pg K c m) := by
  obtain ⟨h1, h⟩ := He.ba h
  obtain ⟨h2, h⟩ := He.ba h
  obtain ⟨h3, h4⟩ := He.ba h
  refine ⟨He.eqO_ok h1, He.eqO_ok h2, of_decide_eq_true h3, ?_⟩
  cases z : PySem.W.recIn K (He.ma K (He.ga K c) m) "property" with
  | none =>
    rw [z] at h4
    cases h4
  | some l =>
    rw [z] at h4
    cases l with
    | nil => cases h4
    | cons v r =>
      cases v with
      | ref g =>
        have e : g = pg K c m := of_decide_eq_true h4
        exact ⟨r, by rw [e]⟩
      | _ => cases h4
def isB (K : PySem.W.Frag) : Bool := He.eqO (PySem.W.findIn K (.ref (He.ga K "Box")) "__class__") (some (some (.builtin "object.__class__"))) && (He.eqO (PySem.W.specialIn K (.builtin "object.__class__") "__get__") (some (some (.builtin "getset_descriptor.__get__"))) && (decide (PySem.W.takesIn K (.builtin "object.__class__") = some true) && (decide (PySem.W.mroIn K (He.ga K "Box") (.type "object") = some true) && decide (PySem.W.kitOne K (.ref (He.ga K "Box")) (.ref (He.ga K "Box")) = some true))))
def exB (K : PySem.W.Frag) : Bool := isB K && (He.tupB K "PARTS" [.str "low", .str "high", .str "rest", .str "sees"] && propTab.all fun q => prB K q.1 q.2.1 && gOk K q.2.2.1 (pg K q.1 q.2.1))
abbrev AlP : Type := He.AlD × List He.FnW × Bool
def obsP (K : PySem.W.Frag) : AlP := (He.obsD fa fn K, propTab.map fun q => gW K (pg K q.1 q.2.1), exB K)
def valP : AlP := (He.valD fn, propTab.map gVal, true)
/-! the addresses that are looked at, step by step (no list is made unlike: what stands twice is found at once) -/
def isDictA (g : Addr → Option Obj) (a : Addr) : Bool := match g a with
  | some ⟨_, _, .dict _ _, _⟩ => true
  | _ => false
def isFuncA (g : Addr → Option Obj) (a : Addr) : Bool := match g a with
  | some ⟨_, _, .func _, _⟩ => true
  | _ => false
def refsA (g : Addr → Option Obj) (a : Addr) : List Addr := match g a with
  | some o => He.refsD o
  | none => []
def as1 (g : Addr → Option Obj) : List Addr := refsA g mainGlobals
def as2 (g : Addr → Option Obj) : List Addr := (as1 g).flatMap (refsA g)
def as3 (g : Addr → Option Obj) : List Addr := ((as2 g).filter (isDictA g)).flatMap (refsA g)
def as4 (g : Addr → Option Obj) : List Addr := (as3 g).flatMap (refsA g)
def as5 (g : Addr → Option Obj) : List Addr := ((as4 g).filter (isFuncA g)).flatMap (refsA g)
def asN (g : Addr → Option Obj) : List Addr := mainGlobals :: (as1 g ++ (as2 g ++ (as3 g ++ (as4 g ++ as5 g))))
def obsPG (g : Addr → Option Obj) : AlP := obsP (He.frG g (asN g))
def hookP : PySem.W.Hook where
  α := AlP
  obs := fun s => obsPG s.heap.get?
  val := fun _ => valP
  says := fun _ h => ∃ K : PySem.W.Frag, K.In h ∧ obsP K = valP
  of := fun _ _ e => ⟨_, He.frG_in, e⟩
  keeps := fun _ _ _ ⟨K, hK, c⟩ k => ⟨K, PySem.W.Frag.In.keeps hK k, c⟩
theorem obsPG_eq {g : Addr → Option Obj} {s : Shared} (h : ∀ a, g a = s.heap.get? a) : obsPG g = hookP.obs s := by
  have e : g = s.heap.get? := funext h
  rw [e] <;> rfl
section
variable {K : PySem.W.Frag} {h : Heap} {mg : Str → Option Value}
theorem mem_fa {f : He.Fa} : f ∈ fa ↔ (f ∈ fa1 ∨ f ∈ fa2 ∨ f ∈ topTab.map (fun q => He.Fa.glo q.1) ∨ f ∈ frees.map He.Fa.free ∨ f ∈ methTab.map fun q => He.Fa.meth q.1 q.2.1) := by
  unfold fa
  simp only [List.mem_append]
theorem tx_of (X : K.In h) (G : h.Ns mainGlobals mg) (c : obsP K = valP) : Tx K mg ∧ (∃ fd, FunD K "law" "law" (defArgs (top 80)) (defBody (top 80)) (defScope (top 80)) [] [] (He.ga K "law") fd) ∧ mg "law" = some (.ref (He.ga K "law")) := by
  have c1 : He.SaysD fa fn K := congrArg (fun z : AlP => z.1) c
  have c2 : propTab.map (fun q => gW K (pg K q.1 q.2.1)) = propTab.map gVal := congrArg (fun z : AlP => z.2.1) c
  have c3 : exB K = true := congrArg (fun z : AlP => z.2.2) c
  obtain ⟨x1, x2⟩ := He.ba c3
  obtain ⟨x2, x3⟩ := He.ba x2
  have f1 : ∀ f ∈ fa1, f.ok K = true := fun f hf => He.SaysD.facts c1 (mem_fa.mpr (.inl hf))
  have f2 : ∀ f ∈ fa2, f.ok K = true := fun f hf => He.SaysD.facts c1 (mem_fa.mpr (.inr (.inl hf)))
  have f3 : ∀ x i, (x, i) ∈ topTab → (He.Fa.glo x).ok K = true := fun x i hx => He.SaysD.facts c1 (mem_fa.mpr (.inr (.inr (.inl (List.mem_map.mpr ⟨(x, i), hx, rfl⟩)))))
  have f4 : ∀ x ∈ frees, (He.Fa.free x).ok K = true := fun x hx => He.SaysD.facts c1 (mem_fa.mpr (.inr (.inr (.inr (.inl (List.mem_map.mpr ⟨x, hx, rfl⟩))))))
  have f5 : ∀ q ∈ methTab, (He.Fa.meth q.1 q.2.1).ok K = true := fun q hq => He.SaysD.facts c1 (mem_fa.mpr (.inr (.inr (.inr (.inr (List.mem_map.mpr ⟨q, hq, rfl⟩))))))
  have at1 : ∀ (i : Nat) (f : He.Fa), fa1[i]? = some f → f.ok K = true := fun i f e => f1 f (List.mem_of_getElem? e)
  have at2 : ∀ (i : Nat) (f : He.Fa), fa2[i]? = some f → f.ok K = true := fun i f e => f2 f (List.mem_of_getElem? e)
  have cB : Cls K (He.ga K "Box") := He.cls_ok (at1 0 _ rfl)
  have cR : Cls K (He.ga K "Row") := He.cls_ok (at1 1 _ rfl)
  have cT : Cls K (He.ga K "Talk") := He.cls_ok (at1 2 _ rfl)
  have isb : C8.InsC K (He.ga K "Box") := by
    obtain ⟨y1, y⟩ := He.ba x1
    obtain ⟨y2, y⟩ := He.ba y
    obtain ⟨y3, y⟩ := He.ba y
    obtain ⟨y4, y5⟩ := He.ba y
    exact ⟨cB, He.eqO_ok y1, He.eqO_ok y2, of_decide_eq_true y3, of_decide_eq_true y4, of_decide_eq_true y5⟩
  have px : ∀ q ∈ propTab, prB K q.1 q.2.1 = true ∧ gOk K q.2.2.1 (pg K q.1 q.2.1) = true := fun q hq => He.ba (List.all_eq_true.mp x3 q hq)
  have pv : ∀ q ∈ propTab, gW K (pg K q.1 q.2.1) = gVal q := fun q hq => by
    obtain ⟨i, hi, e⟩ := List.mem_iff_getElem.mp hq
    have e2 : (propTab.map fun q => gW K (pg K q.1 q.2.1))[i]? = (propTab.map gVal)[i]? := by rw [c2]
    rw [List.getElem?_map, List.getElem?_map, List.getElem?_eq_getElem hi, e] at e2
    exact Option.some.inj e2
  have dB : ∃ fd, FunD K dBox.name dBox.qual dBox.params dBox.body dBox.scope (dBox.dvs K) (dBox.kws K) (He.fAd K dBox.at_) fd := He.SaysD.defs c1 (List.mem_append_left _ List.mem_cons_self)
  have dT : ∃ fd, FunD K dTalk.name dTalk.qual dTalk.params dTalk.body dTalk.scope (dTalk.dvs K) (dTalk.kws K) (He.fAd K dTalk.at_) fd := He.SaysD.defs c1 (List.mem_append_left _ (List.mem_cons_of_mem _ List.mem_cons_self))
  have dL : ∃ fd, FunD K dLaw.name dLaw.qual dLaw.params dLaw.body dLaw.scope (dLaw.dvs K) (dLaw.kws K) (He.fAd K dLaw.at_) fd := He.SaysD.defs c1 (List.mem_append_left _ (List.mem_cons_of_mem _ (List.mem_cons_of_mem _ List.mem_cons_self)))
  refine ⟨{ fz := ⟨cB, cR, cT, He.noat_ok (at1 3 _ rfl), He.noat_ok (at1 4 _ rfl), He.noat_ok (at1 5 _ rfl), He.noat_ok (at1 6 _ rfl), He.noat_ok (at1 7 _ rfl), He.noat_ok (at1 8 _ rfl)⟩
            fr := fun x hx => He.free_ok X G (f4 x (List.contains_iff_mem.mp hx))
            cBox := cB, cRow := cR, cTalk := cT, iBox := isb
            gBox := He.glo_ok X G (at2 0 _ rfl), gRow := He.glo_ok X G (at2 1 _ rfl), gTalk := He.glo_ok X G (at2 2 _ rfl), gPARTS := He.glo_ok X G (at2 3 _ rfl)
            tPARTS := fun H => He.tupB_ok x2 H
            mkBox := He.mkr_ok (at1 9 _ rfl), mkRow := He.mkr_ok (at1 10 _ rfl), mkTalk := He.mkr_ok (at1 11 _ rfl)
            mMOST_TIME := He.int_ok X G (at1 12 _ rfl), mMOST_BOXES := He.int_ok X G (at1 13 _ rfl), mMOST_LINK := He.int_ok X G (at1 14 _ rfl), mMOST_TIMES := He.int_ok X G (at1 15 _ rfl), mMOST_LOSSES := He.int_ok X G (at1 16 _ rfl)
            dfn := fun x i hx => He.SaysD.defs c1 (List.mem_append_right _ (List.mem_append_left _ (List.mem_map.mpr ⟨(x, i), hx, rfl⟩ : mkTop (x, i) ∈ topTab.map mkTop)))
            glo := fun x i hx => He.glo_ok X G (f3 x i hx)
            mfn := fun c m q i j hx => He.SaysD.defs c1 (List.mem_append_right _ (List.mem_append_right _ (List.mem_map.mpr ⟨(c, m, q, i, j), hx, rfl⟩ : mkMeth (c, m, q, i, j) ∈ methTab.map mkMeth)))
            met := fun c m q i j hx => He.meth_ok (f5 (c, m, q, i, j) hx)
            pfn := fun c m q i j hx => gFun (q := (c, m, q, i, j)) (pv _ hx) (px _ hx).2
            prp := fun c m q i j hx => prB_ok (px _ hx).1
            iniB := dB
            iniT := by
              obtain ⟨fd, F⟩ := dT
              exact ⟨_, fd, F⟩ }, dL, He.glo_ok X G (at2 4 _ rfl)⟩
theorem facts {P : Program} {w : World} {f : Addr} (X : K.In h) (G : h.Ns mainGlobals mg) (hfa : mg ("law" : Str) = some (.ref f)) (c : obsP K = valP) :
    ∃ fd : FuncData, (∀ (s : Shared) (v : Value), BindsTo s fd ⟨[v], []⟩ [("_law_script", v)]) ∧ ∀ base : Heap, K.In base → base.Ns mainGlobals mg → FnOk P w K mg base L2.CX0 11 f fd ["_law_script"] (spLaw K) := by
  obtain ⟨T, ⟨fd, F⟩, e1⟩ := tx_of X G c
  have e := hfa.symm.trans e1
  cases e
  have b := FunD.bindsA (ps := ["_law_script"]) F fun _ _ _ _ _ _ us hl => match us, hl with | [_], _ => rfl
  exact ⟨fd, fun s v => b s [v] rfl, fun base _ _ => F_law T F⟩
end
end Q
set_option maxHeartbeats 0
/-! Quietdoors: the head, the end. -/
namespace QHead
open PySem PySem.W PySem.Calls PyProof.Rows
abbrev R : OpenRow := OpenLaw.row PySem.Challenge.rw_quietdoors_k37_whole_papers_of_others
abbrev qv : Program := view R.prog [80]
def names0 : List PySem.Str := ["_wall", "QuietError", "InvalidNumber", "InvalidName", "InvalidBox", "InvalidRow", "InvalidTalk", "InvalidLetter", "InvalidCourse", "MOST_TIME", "PARTS", "is_integer", "is_between", "is_count", "is_part_value", "Box", "window_of", "links_along", "place_along", "are_steps", "can_be_lost", "is_course", "check_course", "seen_at", "is_sight", "quiet_before", "course_gap", "windows", "lost_in", "lost_between"]
def names1 : List PySem.Str := ["pairs_of", "gap", "ends", "times_along", "worst_course", "gaps", "paper", "accepts_broken", "accepts_gap", "accepts", "MOST_BOXES", "MOST_LINK", "is_link", "are_boxes", "are_links", "summed", "Row", "MOST_TIMES", "MOST_LOSSES", "are_times", "merged", "Talk", "_law_begin", "_law_draw", "_law_pick", "_law_case", "_law_box", "_law_line", "_law_row", "_law_times"]
def names2 : List PySem.Str := ["_law_talk", "_law_made_talk", "_law_letters", "_law_sent", "_law_span", "_law_is_sight", "_law_can_lose", "_law_gone", "_law_gaps", "_law_greatest", "_law_due", "_law_bounds_right"]
def names : List PySem.Str := names0 ++ names1 ++ names2
abbrev hk : PySem.W.Hook := Q.hookP
def ob (s : PySem.W.SharedT) : Q.AlP := Q.obsPG (HandSHeadRun.getT s)
theorem ob_eq (s : PySem.W.SharedT) : ob s = hk.obs s.abs := Q.obsPG_eq (HandSHeadRun.getT_eq s)
theorem map3 {σ α β γ : Type} {o : Option σ} {f : σ → α} {g : σ → β} {h : σ → γ} {a : α} {b : β} {c : γ} (h1 : o.map (fun s => (f s, g s)) = some (a, b)) (h2 : o.map h = some c) : o.map (fun s => (f s, g s, h s)) = some (a, b, c) := by
  cases o with
  | none => cases h2
  | some s =>
    have e1 := Option.some.inj h1
    have e2 := Option.some.inj h2
    have e3 := (Prod.mk.inj e1).1
    have e4 := (Prod.mk.inj e1).2
    show some (f s, g s, h s) = some (a, b, c)
    rw [e3, e4, e2]
/-- the run in two looks, each by the kernel alone (the memory of one is free before the next) -/
theorem runA (w : World) (os : OsState) : (HandSHeadRun.endF (HandSHeadRun.stepQ (HandSHeadRun.denQ HandSHeadRun.tabQ) R.prog w) 16000 R.prog w os).map (fun s => (HandSHeadRun.looksF R.prog (boot_heap w.params) s.abs, HandSHeadRun.seenQ qv names (importedModules R.prog.main.body) (fun s => xlAt qv [] s && recOk R.toRowW.records s) s.abs)) = some (true, openGood qv names) := by
  kernel_rfl
theorem runB (w : World) (os : OsState) : (HandSHeadRun.endF (HandSHeadRun.stepQ (HandSHeadRun.denQ HandSHeadRun.tabQ) R.prog w) 16000 R.prog w os).map ob = some (hk.val w) := by
  kernel_rfl
theorem run (w : World) : HandSHeadRun.RunEq R qv hk ob 16000 names w := fun os => map3 (runA w os) (runB w os)
end QHead
open PySem PySem.W PySem.Calls PyProof.Rows
theorem PySem.Challenge.cw_quietdoors_k37_whole_papers_of_others_holds : PySem.Challenge.rw_quietdoors_k37_whole_papers_of_others.Holds := by
  w_on; o_law
  refine HandSHeadRun.head_any (r := OpenLaw.row PySem.Challenge.rw_quietdoors_k37_whole_papers_of_others) (q := view (OpenLaw.row PySem.Challenge.rw_quietdoors_k37_whole_papers_of_others).prog [80]) (H := QHead.hk) (ob := QHead.ob) (M := 16000) (loose := QHead.names) (d := HandSHeadRun.topDef (OpenLaw.row PySem.Challenge.rw_quietdoors_k37_whole_papers_of_others).prog 80) (kwd := []) QHead.ob_eq
    (by kernel_rfl) (fun s => by kernel_rfl) QHead.run (by kernel_rfl) (by kernel_rfl) (by kernel_rfl) (by rfl) (by first | assumption | decide +kernel) (by decide +kernel) ⟨rfl, rfl, rfl, rfl, rfl, by decide +kernel⟩ ?hw ?hc
  case hw => w_witness2
  case hc =>
    refine L2.walk_ofE (l := PySem.Challenge.rw_quietdoors_k37_whole_papers_of_others) (n := 63) (k := 11) (x := "_law_script") (CX := L2.CX0) rfl (by decide) (by kernel_rfl) ⟨rfl, by decide, by decide⟩ ?F (fun _ _ _ _ z => z)
    intro w mg fa h Y G hmg0
    obtain ⟨K, KX, c⟩ := Y
    have hmg : mg ("law" : PySem.Str) = some (.ref fa) := by
      have e : (HandSHeadRun.topDef (OpenLaw.row PySem.Challenge.rw_quietdoors_k37_whole_papers_of_others).prog 80).name = ("law" : PySem.Str) := by kernel_rfl
      rw [← e]
      exact hmg0
    obtain ⟨fd, hb, hF⟩ := Q.facts (P := (PySem.Challenge.rw_quietdoors_k37_whole_papers_of_others).prog) (w := w) KX G hmg c
    exact ⟨K, fd, Q.spLaw K, KX, hb, fun H a ns hl _ hS => ⟨a, ns, rfl, hS, hl, fun _ => rfl⟩, hF⟩
