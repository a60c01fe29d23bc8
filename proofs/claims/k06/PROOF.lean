import PyProof.Rows.All
import Wide.All
import OpenK.AllK
import Wide.FinOn
import HandS.ForMost
import HandS.ForExc
import HandS.Evl
import HandS.Wide
import HandS.Lambda
import HandS.CallSlots
import HandS.Defaults
import HandS.ExcInit
import HandS.ExcField
import HandS.IsInst
import HandS.NoneIn
import KE.DataCmp
import HandS.HeadHook1
import PyProof.StrBlock2
import HandS.Walk
import HandS.ClsMeth
import HandS.TryMany
import HandS.HeadHook4
import HandS.HeadWalk
import HandS.NestedK
import HandS.SortKw
import KE.DataMinMax
import KE.SortKeyHeap
import KE.KDflt
import HandS.More
import KE.SortData
import HandS.DictComp
import KE.KRevSl
import HandS.Style
import PyProof.CollectStr
import PyProof.ListStr
import HandS.CallLocal
import KE.KUnpackStar
import HandS.DeepEq
import HandS.Conv
import KE.KStateDown
import HandS.Head0
import HandS.Head1
import HandS.Head2
import HandS.HeadEnd
import HandS.HeadHook3
import PySem.Challenge.RW_wordtread_k06_lists_of_words
set_option Elab.async false
set_option linter.all false
set_option maxRecDepth 100000
set_option maxHeartbeats 4000000
/-! DL1: data, slots, states; readings that speak of data alone -/
namespace DL
open PySem PySem.Spec L2
open PyProof.Rows hiding St
open Evl (Ex ex_l ex_t ex_rd)

abbrev D := PyData
def kD : Key → D
  | .inl i => .int i
  | .inr x => .str x
def kT (l : List Key) : D := .tuple (l.map kD)

mutual
/-- the value v stands for the data d, by what the shared heap G holds -/
inductive Rp (K : PySem.W.Frag) (G : Hp) : V → D → Prop
  | non : Rp K G .non .none
  | bl (b : Bool) : Rp K G (.bl b) (.bool b)
  | int (i : Int) : Rp K G (.int i) (.int i)
  | str (x : Str) : Rp K G (.str x) (.str x)
  | lst {a : Addr} {xs : List V} {ds : List D} : SqL K G a xs → RpA K G xs ds → Rp K G (.ref a) (.list ds)
  | tup {a : Addr} {xs : List V} {ds : List D} : G a = some (.tup xs) → RpA K G xs ds → Rp K G (.ref a) (.tuple ds)
  | tpK {a : Addr} {is : List Int} : (∃ (o : Obj) (its : Array Value) (n : Nat), K.lookup a = some o ∧ o.cls = .type "tuple" ∧ o.data = .seq its n ∧ its.size ≤ sizeLine ∧ Vals (is.map V.int) its.toList) → Rp K G (.ref a) (.tuple (is.map .int))
  | dct {a : Addr} {ob : Obj} {kvs : List (Key × V)} {ks : List Key} {ds : List D} : G a = some (.frz ob (.dK kvs)) → kvs.map (·.1) = ks → RpA K G (kvs.map (·.2)) ds → Rp K G (.ref a) (.dict ((ks.map kD).zip ds))
  | dcT {a : Addr} {ob : Obj} {kvs : List (List Key × V)} {ks : List (List Key)} {ds : List D} : G a = some (.frz ob (.dT kvs)) → kvs ≠ [] → kvs.map (·.1) = ks → RpA K G (kvs.map (·.2)) ds → Rp K G (.ref a) (.dict ((ks.map kT).zip ds))
inductive RpA (K : PySem.W.Frag) (G : Hp) : List V → List D → Prop
  | nil : RpA K G [] []
  | cons {v : V} {vs : List V} {d : D} {ds : List D} : Rp K G v d → RpA K G vs ds → RpA K G (v :: vs) (d :: ds)
end

section
variable {K : PySem.W.Frag} {G G' : Hp}
mutual
theorem Rp.mono (e : Ex G G') : ∀ {v : V} {d : D}, Rp K G v d → Rp K G' v d
  | _, _, .non => .non
  | _, _, .bl b => .bl b
  | _, _, .int i => .int i
  | _, _, .str x => .str x
  | _, _, .lst h r => .lst (ex_l e h) (RpA.mono e r)
  | _, _, .tup h r => .tup (e _ _ h) (RpA.mono e r)
  | _, _, .tpK h => .tpK h
  | _, _, .dct h k r => .dct (e _ _ h) k (RpA.mono e r)
  | _, _, .dcT h n k r => .dcT (e _ _ h) n k (RpA.mono e r)
theorem RpA.mono (e : Ex G G') : ∀ {vs : List V} {ds : List D}, RpA K G vs ds → RpA K G' vs ds
  | _, _, .nil => .nil
  | _, _, .cons h r => .cons (Rp.mono e h) (RpA.mono e r)
end
theorem RpA.len : ∀ {vs : List V} {ds : List D}, RpA K G vs ds → vs.length = ds.length
  | _, _, .nil => rfl
  | _, _, .cons _ r => congrArg Nat.succ (RpA.len r)
theorem RpA.get : ∀ {vs : List V} {ds : List D} {i : Nat} {d : D}, RpA K G vs ds → ds[i]? = some d → ∃ v, vs[i]? = some v ∧ Rp K G v d
  | _, _, _, _, .nil, e => by simp at e
  | _, _, 0, _, .cons h _, e => by
    simp at e
    subst e
    exact ⟨_, rfl, h⟩
  | _, _, i + 1, d, .cons _ r, e => by
    obtain ⟨v, h1, h2⟩ := RpA.get (i := i) (d := d) r (by simpa using e)
    exact ⟨v, by simpa using h1, h2⟩
theorem RpA.getV : ∀ {vs : List V} {ds : List D} {i : Nat} {v : V}, RpA K G vs ds → vs[i]? = some v → ∃ d, ds[i]? = some d ∧ Rp K G v d
  | _, _, _, _, .nil, e => by simp at e
  | _, _, 0, _, .cons h _, e => by
    simp at e
    subst e
    exact ⟨_, rfl, h⟩
  | _, _, i + 1, v, .cons _ r, e => by
    obtain ⟨d, h1, h2⟩ := RpA.getV (i := i) (v := v) r (by simpa using e)
    exact ⟨d, by simpa using h1, h2⟩
theorem RpA.app : ∀ {vs : List V} {ds : List D} {us : List V} {es : List D}, RpA K G vs ds → RpA K G us es → RpA K G (vs ++ us) (ds ++ es)
  | _, _, _, _, .nil, h => h
  | _, _, _, _, .cons h r, h2 => .cons h (RpA.app r h2)
theorem RpA.one {v : V} {d : D} (h : Rp K G v d) : RpA K G [v] [d] := .cons h .nil
theorem RpA.set : ∀ {vs : List V} {ds : List D} (i : Nat) {v : V} {d : D}, RpA K G vs ds → Rp K G v d → RpA K G (vs.set i v) (ds.set i d)
  | _, _, _, _, _, .nil, _ => .nil
  | _, _, 0, _, _, .cons _ r, h => .cons h r
  | _, _, i + 1, _, _, .cons h0 r, h => .cons h0 (RpA.set i r h)
theorem RpA.take : ∀ {vs : List V} {ds : List D} (i : Nat), RpA K G vs ds → RpA K G (vs.take i) (ds.take i)
  | _, _, 0, _ => .nil
  | _, _, _ + 1, .nil => .nil
  | _, _, i + 1, .cons h r => .cons h (RpA.take i r)
theorem RpA.drop : ∀ {vs : List V} {ds : List D} (i : Nat), RpA K G vs ds → RpA K G (vs.drop i) (ds.drop i)
  | _, _, 0, h => h
  | _, _, _ + 1, .nil => .nil
  | _, _, i + 1, .cons _ r => RpA.drop i r
theorem rpa_ints : ∀ is : List Int, RpA K G (is.map V.int) (is.map .int)
  | [] => .nil
  | i :: is => .cons (.int i) (rpa_ints is)
theorem dpa_ints : ∀ is : List Int, DpAll K G (is.map V.int) (is.map .int)
  | [] => .nil
  | i :: is => .cons (.int i) (dpa_ints is)
theorem Rp.int_inv {v : V} {i : Int} (h : Rp K G v (.int i)) : v = .int i := by cases h; rfl
theorem Rp.bl_inv {v : V} {b : Bool} (h : Rp K G v (.bool b)) : v = .bl b := by cases h; rfl
theorem Rp.str_inv {v : V} {x : Str} (h : Rp K G v (.str x)) : v = .str x := by cases h; rfl
theorem Rp.non_inv {v : V} (h : Rp K G v .none) : v = .non := by cases h; rfl
theorem Rp.lst_inv {v : V} {ds : List D} (h : Rp K G v (.list ds)) : ∃ a xs, v = .ref a ∧ SqL K G a xs ∧ RpA K G xs ds := by
  cases h with
  | lst h r => exact ⟨_, _, rfl, h, r⟩
theorem Rp.tup_inv {v : V} {ds : List D} (h : Rp K G v (.tuple ds)) : ∃ a xs, v = .ref a ∧ SqT K G a xs ∧ RpA K G xs ds := by
  cases h with
  | tup h r => exact ⟨_, _, rfl, .inl (.inl h), r⟩
  | tpK h => exact ⟨_, _, rfl, .inr h, rpa_ints _⟩
/-! data without dicts is what the layer's == speaks of -/
mutual
theorem Rp.dp : ∀ {v : V} {d : D}, Rp K G v d → d.canLay0 = true → Dp K G v d
  | _, _, .non, _ => .non
  | _, _, .bl b, _ => .bl b
  | _, _, .int i, _ => .int i
  | _, _, .str x, _ => .str x
  | _, _, .lst h r, c => .lst h (RpA.dp r (by simpa [PyData.canLay0] using c))
  | _, _, .tup h r, c => .tup (.inl (.inl h)) (RpA.dp r (by simpa [PyData.canLay0] using c))
  | _, _, .tpK h, c => .tup (.inr h) (dpa_ints _)
  | _, _, .dct _ _ _, c => by simp [PyData.canLay0] at c
  | _, _, .dcT _ _ _ _, c => by simp [PyData.canLay0] at c
theorem RpA.dp : ∀ {vs : List V} {ds : List D}, RpA K G vs ds → PyData.canLayAll0 ds = true → DpAll K G vs ds
  | _, _, .nil, _ => .nil
  | _, d :: ds, .cons h r, c =>
    have c2 : d.canLay0 = true ∧ PyData.canLayAll0 ds = true := by simpa [PyData.canLayAll0] using c
    .cons (Rp.dp h c2.1) (RpA.dp r c2.2)
end
end

/-! ### slots -/
/-- own things of several cells: an object of a class with its attributes; a list of own lists -/
inductive Bx where
  | ob (c : Str) (fs : List (Str × D))
  | nl (k : Option (List Key)) (xss : List (List D))
def Bx.fz : Bx → Bool
  | .ob _ _ => false
  | .nl _ _ => true
/-- what a slot holds: nothing known, data, an own list or dict (r: it is the one handed in to be changed), an own dict whose keys are tuples; .fv: a def of this name; .sp: an own thing of several cells -/
inductive SV where
  | un
  | d (x : D)
  | ol (r : Bool) (xs : List D)
  | od (r : Bool) (ks : List Key) (xs : List D)
  | fd (r : Bool) (ks : List (List Key)) (xs : List D)
  | fv (x : Str)
  | sp (r : Bool) (z : Bx)
abbrev S := List SV
def SV.own : SV → Bool
  | .un => false
  | .d _ => false
  | .fv _ => false
  | _ => true
/-- what no slot has at its place -/
def inn : HO → Bool
  | .frz _ _ => true
  | .own _ => true
  | .ext _ => true
  | _ => false
/-- a list that stands within an own thing -/
def LstE (a : Addr) (vs : List V) : HO := .ext fun h => vs.length ≤ sizeLine ∧ ∃ (its : List Value) (n : Nat), Vals vs its ∧ h.get? a = some { cls := .type "list", data := .seq its.toArray n }
def nlU (k : Option (List Key)) (rs : List V) : HO := match k with
  | none => .lst rs
  | some ks => .dK (ks.zip rs)
def RpAA (K : PySem.W.Frag) (G : Hp) : List (List V) → List (List D) → Prop
  | [], [] => True
  | vs :: vss, xs :: xss => RpA K G vs xs ∧ RpAA K G vss xss
  | _, _ => False
theorem RpAA.mono {K : PySem.W.Frag} {G G' : Hp} (e : Ex G G') : ∀ {vss : List (List V)} {xss : List (List D)}, RpAA K G vss xss → RpAA K G' vss xss
  | [], [], _ => trivial
  | _ :: _, _ :: _, h => ⟨h.1.mono e, RpAA.mono e h.2⟩
  | [], _ :: _, h => h.elim
  | _ :: _, [], h => h.elim
/-- what stands at its place p, and in which further cells -/
def BxR (K : PySem.W.Frag) (G : Hp) : Bx → Addr → HO → List (Addr × HO) → Prop
  | .ob c fs, p, u, C => ∃ dx vs, u = .ins (He.ga K c) dx vs ∧ C = [(dx, .own p)] ∧ vs.map (·.1) = fs.map (·.1) ∧ RpA K G (vs.map (·.2)) (fs.map (·.2))
  | .nl k xss, _, u, C => ∃ qs : List (Addr × List V), u = nlU k (qs.map fun q => .ref q.1) ∧ C = qs.map (fun q => (q.1, LstE q.1 q.2)) ∧ (qs.map (·.1)).Nodup ∧ RpAA K G (qs.map (·.2)) xss ∧ ∀ ks, k = some ks → ks.length = qs.length ∧ ks.Nodup
theorem BxR.mono {K : PySem.W.Frag} {G G' : Hp} (e : Ex G G') {z : Bx} {p : Addr} {u : HO} {C : List (Addr × HO)} (h : BxR K G z p u C) : BxR K G' z p u C := by
  cases z with
  | ob c fs =>
    obtain ⟨dx, vs, h1, h2, h3, h4⟩ := h
    exact ⟨dx, vs, h1, h2, h3, h4.mono e⟩
  | nl k xss =>
    obtain ⟨qs, h1, h2, h3, h4, h5⟩ := h
    exact ⟨qs, h1, h2, h3, h4.mono e, h5⟩
theorem BxR.inn {K : PySem.W.Frag} {G : Hp} {z : Bx} {p : Addr} {u : HO} {C : List (Addr × HO)} (h : BxR K G z p u C) : DL.inn u = false := by
  cases z with
  | ob c fs =>
    obtain ⟨dx, vs, rfl, _⟩ := h
    rfl
  | nl k xss =>
    obtain ⟨qs, rfl, _⟩ := h
    cases k <;> rfl

def slA (σ : St) (i : Nat) : Option V := (σ[i]?).join

/-- B: the address of what was handed in to be changed; F: what must stay; G: what is shared; H: all -/
def SlR (K : PySem.W.Frag) (B : Addr) (F G H : Hp) : SV → Option V → Prop
  | .un, _ => True
  | .d x, o => ∃ v, o = some v ∧ Rp K G v x
  | .ol r xs, o => ∃ p vs, o = some (.ref p) ∧ (r = true → p = B) ∧ H p = some (.lst vs) ∧ RpA K G vs xs ∧ G p = none ∧ F p = none
  | .od r ks xs, o => ∃ p kvs, o = some (.ref p) ∧ (r = true → p = B) ∧ H p = some (.dK kvs) ∧ kvs.map (·.1) = ks ∧ RpA K G (kvs.map (·.2)) xs ∧ G p = none ∧ F p = none
  | .fd r ks xs, o => ∃ p kvs, ∃ ob : Unit, o = some (.ref p) ∧ (r = true → p = B) ∧ H p = some (.dT kvs) ∧ kvs.map (·.1) = ks ∧ RpA K G (kvs.map (·.2)) xs ∧ G p = none ∧ F p = none
  | .fv x, o => o = some (.ref (He.ga K x))
  | .sp r z, o => ∃ p u C, o = some (.ref p) ∧ (r = true → p = B) ∧ H p = some u ∧ BxR K G z p u C ∧ G p = none ∧ F p = none ∧ ∀ c ∈ C, H c.1 = some c.2 ∧ inn c.2 = true ∧ G c.1 = none ∧ (z.fz = true → F c.1 = none)

/-- all tuples are shared -/
def TupC (G H : Hp) : Prop := ∀ a xs, H a = some (.tup xs) → G a = some (.tup xs)
theorem TupC.updH {G H : Hp} {p : Addr} {u : HO} (h : TupC G H) (nt : ∀ xs, u ≠ .tup xs) : TupC G (upd H p u) := fun a xs e => by
  by_cases z : a = p
  · rw [z, upd_same] at e
    exact absurd (Option.some.inj e) (nt xs)
  · rw [upd_ne z] at e
    exact h a xs e
theorem TupC.upd2 {G H : Hp} {p : Addr} {u : HO} (h : TupC G H) : TupC (upd G p u) (upd H p u) := fun a xs e => by
  by_cases z : a = p
  · rw [z, upd_same] at e ⊢
    exact e
  · rw [upd_ne z] at e ⊢
    exact h a xs e
theorem TupC.updG {G H : Hp} {p : Addr} {u : HO} (h : TupC G H) (hu : H p = some u) : TupC (upd G p u) H := fun a xs e => by
  by_cases z : a = p
  · rw [z, hu] at e
    rw [z, upd_same]
    exact e
  · rw [upd_ne z]
    exact h a xs e

structure IS (K : PySem.W.Frag) (T : List (Addr × Str)) (B : Addr) (F G H : Hp) (σ : St) (s : S) : Prop where
  len : s.length = σ.length
  fr : Ex F H
  gh : Ex G H
  dj : ∀ a o, F a = some o → G a = none
  tb : LamX.Tabs T F
  sl : ∀ i x, s[i]? = some x → SlR K B F G H x (slA σ i)
  ap : ∀ i j x y p, i ≠ j → s[i]? = some x → s[j]? = some y → x.own = true → y.own = true → slA σ i = some (.ref p) → slA σ j = some (.ref p) → False
  tc : TupC G H

/-- how F may turn: not at all, where no tables are told -/
structure Gr (T : List (Addr × Str)) (F F' : Hp) : Prop where
  ex : LamX.ExtN F F'
  same : T = [] → F' = F
theorem Gr.refl {T : List (Addr × Str)} {F : Hp} : Gr T F F := ⟨LamX.ExtN.refl F, fun _ => rfl⟩
theorem Gr.trans {T : List (Addr × Str)} {F F1 F2 : Hp} (a : Gr T F F1) (b : Gr T F1 F2) : Gr T F F2 := ⟨a.ex.trans b.ex, fun h => (b.same h).trans (a.same h)⟩

/-! ### results -/
structure Exc where
  cls : Str
  fs : List (Str × D)
inductive Res (α : Type) where
  | ok (a : α) (s : S)
  | ex (c : Exc) (s : S)
  | bad
def Res.bind {α β : Type} (r : Res α) (k : α → S → Res β) : Res β := match r with
  | .ok a s => k a s
  | .ex c s => .ex c s
  | .bad => .bad
inductive Out where
  | nx (s : S)
  | rt (v : SV) (s : S)
  | bk (s : S)
  | ct (s : S)
  | ex (c : Exc) (s : S)
  | bad
def Res.out {α : Type} (r : Res α) (k : α → S → Out) : Out := match r with
  | .ok a s => k a s
  | .ex c s => .ex c s
  | .bad => .bad
def Out.andThen (r : Out) (k : S → Out) : Out := match r with
  | .nx s => k s
  | .rt v s => .rt v s
  | .bk s => .bk s
  | .ct s => .ct s
  | .ex c s => .ex c s
  | .bad => .bad

/-- an exception's fields -/
def RpF (K : PySem.W.Frag) (G : Hp) (fs : List (Str × V)) (ds : List (Str × D)) : Prop := ∀ x d, ds.lookup x = some d → ∃ v, fs.lookup x = some v ∧ Rp K G v d

/-- what is known of an exception that leaves -/
def PoX (X : Cx) (T : List (Addr × Str)) (B : Addr) (W : WX) (F G : Hp) (σ : St) (c : Exc) (s' : S) : Prop :=
  ∀ F' G' H' C dd fs, Gr T F F' → Ex G G' → IS X.K T B F' G' H' σ s' → X.mg c.cls = some (.ref C) → H' dd = some (.xd fs) → G' dd = none → RpF X.K G' fs c.fs → W (.ref C) (some dd) σ H'

/-- what is wanted behind an evaluation that ends so -/
def Po {α : Type} (X : Cx) (T : List (Addr × Str)) (B : Addr) (W : WX) (F G : Hp) (σ : St) (Qk : Hp → Hp → α → S → Hp → Prop) : Res α → Prop
  | .ok a s' => ∀ F' G' H', Gr T F F' → Ex G G' → IS X.K T B F' G' H' σ s' → Qk F' G' a s' H'
  | .ex c s' => PoX X T B W F G σ c s'
  | .bad => False

section
variable {X : Cx} {T : List (Addr × Str)} {B : Addr} {W : WX} {F F1 G G1 H : Hp} {σ : St} {α β : Type}
theorem PoX.mono {c : Exc} {s' : S} (h : PoX X T B W F G σ c s') (g : Gr T F F1) (e : Ex G G1) : PoX X T B W F1 G1 σ c s' := fun F' G' H' C dd fs g' e' => h F' G' H' C dd fs (g.trans g') (e.trans e')
theorem Po.mono {Qk : Hp → Hp → α → S → Hp → Prop} {r : Res α} (h : Po X T B W F G σ Qk r) (g : Gr T F F1) (e : Ex G G1) : Po X T B W F1 G1 σ Qk r := by
  cases r with
  | ok a s' => exact fun F' G' H' g' e' => h F' G' H' (g.trans g') (e.trans e')
  | ex c s' => exact PoX.mono h g e
  | bad => exact h
theorem Po.bind {Qk : Hp → Hp → β → S → Hp → Prop} {r : Res α} {k : α → S → Res β} (h : Po X T B W F G σ Qk (r.bind k)) :
    Po X T B W F G σ (fun F' G' a s' H' => IS X.K T B F' G' H' σ s' ∧ Po X T B W F' G' σ Qk (k a s')) r := by
  cases r with
  | ok a s' => exact fun F' G' H' g' e' I => ⟨I, Po.mono h g' e'⟩
  | ex c s' => exact h
  | bad => exact h
theorem Po.imp {Qk Qk' : Hp → Hp → α → S → Hp → Prop} {r : Res α} (h : Po X T B W F G σ Qk r) (q : ∀ F' G' a s' H', Gr T F F' → Ex G G' → IS X.K T B F' G' H' σ s' → Qk F' G' a s' H' → Qk' F' G' a s' H') : Po X T B W F G σ Qk' r := by
  cases r with
  | ok a s' => exact fun F' G' H' g' e' I => q _ _ _ _ _ g' e' I (h F' G' H' g' e' I)
  | ex c s' => exact h
  | bad => exact h
end

/-! ### readings -/
abbrev M (α : Type) := S → Res α
def M.bind {α β : Type} (f : M α) (k : α → M β) : M β := fun s => (f s).bind k
def M.ret {α : Type} (a : α) : M α := fun s => .ok a s
/-- an expression's: its data -/
def TEd (X : Cx) (T : List (Addr × Str)) (B : Addr) (W : WX) (f : M D) : TE := fun σ H Q => ∃ F G s, IS X.K T B F G H σ s ∧ Po X T B W F G σ (fun _ G' d _ H' => ∀ v, Rp X.K G' v d → Q v H') (f s)
/-- an expression's: what it makes, own or shared -/
def TEo (X : Cx) (T : List (Addr × Str)) (B : Addr) (W : WX) (f : M SV) : TE := fun σ H Q => ∃ F G s, IS X.K T B F G H σ s ∧ Po X T B W F G σ (fun F' G' x s' H' => ∀ v, IS X.K T B F' G' H' (some v :: σ) (x :: s') → Q v H') (f s)
/-- a test's -/
def TTd (X : Cx) (T : List (Addr × Str)) (B : Addr) (W : WX) (f : M Bool) : TT := fun σ H Q => ∃ F G s, IS X.K T B F G H σ s ∧ Po X T B W F G σ (fun _ _ b _ H' => Q b H') (f s)
/-- arguments' -/
def TAd (X : Cx) (T : List (Addr × Str)) (B : Addr) (W : WX) (f : M (List D)) : TA := fun σ H Q => ∃ F G s, IS X.K T B F G H σ s ∧ Po X T B W F G σ (fun _ G' ds _ H' => ∀ vs, RpA X.K G' vs ds → Q vs H') (f s)

/-- what is wanted behind a statement -/
def PoS (X : Cx) (T : List (Addr × Str)) (B : Addr) (W : WX) (F G : Hp) (E : Ends) : Out → Prop
  | .nx s' => ∀ F' G' H' σ', Gr T F F' → Ex G G' → IS X.K T B F' G' H' σ' s' → E.nx σ' H'
  | .rt x s' => ∀ F' G' H' σ' v, Gr T F F' → Ex G G' → IS X.K T B F' G' H' (some v :: σ') (x :: s') → E.rt v H'
  | .bk s' => ∀ F' G' H' σ', Gr T F F' → Ex G G' → IS X.K T B F' G' H' σ' s' → E.bk σ' H'
  | .ct s' => ∀ F' G' H' σ', Gr T F F' → Ex G G' → IS X.K T B F' G' H' σ' s' → E.ct σ' H'
  | .ex c s' => ∀ σ', PoX X T B W F G σ' c s'
  | .bad => False
def TSd (X : Cx) (T : List (Addr × Str)) (B : Addr) (W : WX) (g : S → Out) : TS := fun E σ H => ∃ F G s, IS X.K T B F G H σ s ∧ PoS X T B W F G E (g s)

/-! ### the judgements -/
def DE (X : Cx) (T : List (Addr × Str)) (B : Addr) (W : WX) (e : Expr) (f : M D) : Prop := PE X e (TEd X T B W f)
def DO (X : Cx) (T : List (Addr × Str)) (B : Addr) (W : WX) (e : Expr) (f : M SV) : Prop := PE X e (TEo X T B W f)
def DT (X : Cx) (T : List (Addr × Str)) (B : Addr) (W : WX) (e : Expr) (f : M Bool) : Prop := PT X e (TTd X T B W f)
def DA (X : Cx) (T : List (Addr × Str)) (B : Addr) (W : WX) (es : List Expr) (f : M (List D)) : Prop := PA X es (TAd X T B W f)
def DS (X : Cx) (T : List (Addr × Str)) (B : Addr) (W : WX) (st : Stmt) (g : S → Out) : Prop := PS X st (TSd X T B W g)
def DSs (X : Cx) (T : List (Addr × Str)) (B : Addr) (W : WX) (st : List Stmt) (g : S → Out) : Prop := PSs X st (TSd X T B W g)

theorem pe_weak {X : Cx} {e : Expr} {t t' : TE} (h : PE X e t) (q : ∀ σ H Q, t' σ H Q → t σ H Q) : PE X e t' := ⟨fun pins s σ H Q I z => h.run pins s σ H Q I (q σ H Q z)⟩
theorem pt_weak {X : Cx} {e : Expr} {t t' : TT} (h : PT X e t) (q : ∀ σ H Q, t' σ H Q → t σ H Q) : PT X e t' := ⟨fun pins s σ H Q I z => h.run pins s σ H Q I (q σ H Q z)⟩
theorem pa_weak {X : Cx} {es : List Expr} {t t' : TA} (h : PA X es t) (q : ∀ σ H Q, t' σ H Q → t σ H Q) : PA X es t' := ⟨fun pos pins s σ H Q I z => h.run pos pins s σ H Q I (q σ H Q z)⟩
theorem ps_weak {X : Cx} {st : Stmt} {t t' : TS} (h : PS X st t) (q : ∀ D σ H, t' D σ H → t D σ H) : PS X st t' := ⟨fun pins s σ H D I z => h.run pins s σ H D I (q D σ H z)⟩
theorem pss_weak {X : Cx} {st : List Stmt} {t t' : TS} (h : PSs X st t) (q : ∀ D σ H, t' D σ H → t D σ H) : PSs X st t' := ⟨fun pins s σ H D I z => h.run pins s σ H D I (q D σ H z)⟩

/-! ### evaluation step by step: a part is evaluated, then the rest k -/
section
variable {X : Cx} {T : List (Addr × Str)} {B : Addr} {W : WX} {F G H : Hp} {σ : St} {s : S} {α : Type} {Qk : Hp → Hp → α → S → Hp → Prop}
theorem runE {fa : M D} {k : D → M α} {Q : VK} (I : IS X.K T B F G H σ s) (p : Po X T B W F G σ Qk ((fa s).bind k))
    (q : ∀ F' G' H' s' v d, Gr T F F' → Ex G G' → IS X.K T B F' G' H' σ s' → Rp X.K G' v d → Po X T B W F' G' σ Qk (k d s') → Q v H') : TEd X T B W fa σ H Q :=
  ⟨F, G, s, I, p.bind.imp fun F' G' d s' H' g e I' r v rv => q F' G' H' s' v d g e I' rv r.2⟩
theorem runO {fa : M SV} {k : SV → M α} {Q : VK} (I : IS X.K T B F G H σ s) (p : Po X T B W F G σ Qk ((fa s).bind k))
    (q : ∀ F' G' H' s' v x, Gr T F F' → Ex G G' → IS X.K T B F' G' H' (some v :: σ) (x :: s') → Po X T B W F' G' σ Qk (k x s') → Q v H') : TEo X T B W fa σ H Q :=
  ⟨F, G, s, I, p.bind.imp fun F' G' x s' H' g e I' r v rv => q F' G' H' s' v x g e rv r.2⟩
theorem runT {fa : M Bool} {k : Bool → M α} {Q : Bool → Hp → Prop} (I : IS X.K T B F G H σ s) (p : Po X T B W F G σ Qk ((fa s).bind k))
    (q : ∀ F' G' H' s' b, Gr T F F' → Ex G G' → IS X.K T B F' G' H' σ s' → Po X T B W F' G' σ Qk (k b s') → Q b H') : TTd X T B W fa σ H Q :=
  ⟨F, G, s, I, p.bind.imp fun F' G' b s' H' g e I' r => q F' G' H' s' b g e I' r.2⟩
theorem runA {fa : M (List D)} {k : List D → M α} {Q : List V → Hp → Prop} (I : IS X.K T B F G H σ s) (p : Po X T B W F G σ Qk ((fa s).bind k))
    (q : ∀ F' G' H' s' vs ds, Gr T F F' → Ex G G' → IS X.K T B F' G' H' σ s' → RpA X.K G' vs ds → Po X T B W F' G' σ Qk (k ds s') → Q vs H') : TAd X T B W fa σ H Q :=
  ⟨F, G, s, I, p.bind.imp fun F' G' ds s' H' g e I' r vs rv => q F' G' H' s' vs ds g e I' rv r.2⟩
end
/-- the end: a result is reckoned, nothing new is made -/
theorem Po.here {α : Type} {X : Cx} {T : List (Addr × Str)} {B : Addr} {W : WX} {F G H : Hp} {σ : St} {Qk : Hp → Hp → α → S → Hp → Prop} {a : α} {s : S} (h : Po X T B W F G σ Qk (.ok a s)) (I : IS X.K T B F G H σ s) : Qk F G a s H := h F G H Gr.refl (Ex.refl G) I
end DL
set_option Elab.async false
set_option linter.all false
set_option maxRecDepth 100000
set_option maxHeartbeats 4000000
/-! DL2: states under making, storing, changing, sharing -/
namespace DL
open PySem PySem.Spec L2
open PyProof.Rows hiding St
open Evl (Ex ex_l ex_t ex_rd)

theorem slA_succ (o : Option V) (σ : St) (i : Nat) : slA (o :: σ) (i + 1) = slA σ i := rfl
theorem slA_set {σ : St} {i j : Nat} {o : Option V} : slA (σ.set i o) j = if i = j ∧ i < σ.length then o else slA σ j := by
  unfold slA
  rw [List.getElem?_set]
  by_cases h : i = j
  · subst h
    by_cases h2 : i < σ.length
    · simp [h2]
    · simp [h2]
  · simp [h]
theorem slA_some {σ : St} {i : Nat} {v : V} (h : slA σ i = some v) : σ[i]? = some (some v) := by
  unfold slA at h
  cases e : σ[i]? with
  | none => rw [e] at h; cases h
  | some o =>
    rw [e] at h
    have h2 : o = some v := h
    rw [h2]
section
variable {K : PySem.W.Frag} {T : List (Addr × Str)} {B : Addr} {F F' G G' H H' : Hp} {σ : St} {s : S} {x : SV} {o : Option V}

/-- a slot's meaning stays where what is shared grows, and its place and its cells stay -/
theorem SlR.keep (h : SlR K B F G H x o) (e : Ex G G') (k : x.own = true → ∀ p u, o = some (.ref p) → H p = some u → inn u = false → G p = none → F p = none → G' p = none ∧ H' p = some u ∧ F' p = none)
    (kc : ∀ p u, H p = some u → inn u = true → G p = none → G' p = none ∧ H' p = some u ∧ (F p = none → F' p = none)) : SlR K B F' G' H' x o := by
  cases x with
  | un => trivial
  | d y =>
    obtain ⟨v, h1, h2⟩ := h
    exact ⟨v, h1, h2.mono e⟩
  | ol r xs =>
    obtain ⟨p, vs, h1, h2, h3, h4, h5, h6⟩ := h
    obtain ⟨k1, k2, k3⟩ := k rfl p _ h1 h3 rfl h5 h6
    exact ⟨p, vs, h1, h2, k2, h4.mono e, k1, k3⟩
  | od r ks xs =>
    obtain ⟨p, vs, h1, h2, h3, h4, h5, h6, h7⟩ := h
    obtain ⟨k1, k2, k3⟩ := k rfl p _ h1 h3 rfl h6 h7
    exact ⟨p, vs, h1, h2, k2, h4, h5.mono e, k1, k3⟩
  | fd r ks xs =>
    obtain ⟨p, vs, ob, h1, h2, h3, h4, h5, h6, h7⟩ := h
    obtain ⟨k1, k2, k3⟩ := k rfl p _ h1 h3 rfl h6 h7
    exact ⟨p, vs, ob, h1, h2, k2, h4, h5.mono e, k1, k3⟩
  | fv y => exact h
  | sp r z =>
    obtain ⟨p, u, C, h1, h2, h3, h4, h5, h6, h7⟩ := h
    obtain ⟨k1, k2, k3⟩ := k rfl p _ h1 h3 h4.inn h5 h6
    refine ⟨p, u, C, h1, h2, k2, h4.mono e, k1, k3, fun c hc => ?_⟩
    obtain ⟨a1, a2, a3, a4⟩ := h7 c hc
    obtain ⟨b1, b2, b3⟩ := kc c.1 c.2 a1 a2 a3
    exact ⟨b2, a2, b1, fun q => b3 (a4 q)⟩
theorem SlR.mono3 (h : SlR K B F G H x o) (e : Ex G G') (k : ∀ p u, H p = some u → G p = none → F p = none → G' p = none ∧ H' p = some u ∧ F' p = none)
    (kc : ∀ p u, H p = some u → inn u = true → G p = none → G' p = none ∧ H' p = some u ∧ (F p = none → F' p = none)) : SlR K B F' G' H' x o := h.keep e (fun _ p u _ h1 _ h2 h3 => k p u h1 h2 h3) kc
theorem inn_ne {p q : Addr} {u w : HO} (hp : H p = some u) (iu : inn u = false) (hq : H q = some w) (iw : inn w = true) : q ≠ p := by
  rintro rfl
  rw [hq] at hp
  cases hp
  rw [iu] at iw
  cases iw
theorem SlR.mono (h : SlR K B F G H x o) (e : Ex G G') (k : ∀ p u, H p = some u → G p = none → G' p = none ∧ H' p = some u ∧ (F p = none → F' p = none)) : SlR K B F' G' H' x o :=
  h.keep e (fun _ p u _ h1 _ h2 h3 => ⟨(k p u h1 h2).1, (k p u h1 h2).2.1, (k p u h1 h2).2.2 h3⟩) fun p u h1 _ h2 => k p u h1 h2
/-- an own slot's place -/
theorem SlR.place (h : SlR K B F G H x o) (w : x.own = true) : ∃ p u, o = some (.ref p) ∧ H p = some u ∧ G p = none ∧ F p = none := by
  cases x with
  | un => cases w
  | d y => cases w
  | ol r xs =>
    obtain ⟨p, vs, h1, h2, h3, h4, h5, h6⟩ := h
    exact ⟨p, _, h1, h3, h5, h6⟩
  | od r ks xs =>
    obtain ⟨p, vs, h1, h2, h3, h4, h5, h6, h7⟩ := h
    exact ⟨p, _, h1, h3, h6, h7⟩
  | fd r ks xs =>
    obtain ⟨p, vs, ob, h1, h2, h3, h4, h5, h6, h7⟩ := h
    exact ⟨p, _, h1, h3, h6, h7⟩
  | fv y => cases w
  | sp r z =>
    obtain ⟨p, u, C, h1, h2, h3, h4, h5, h6, h7⟩ := h
    exact ⟨p, _, h1, h3, h5, h6⟩
theorem SlR.placeI (h : SlR K B F G H x o) (w : x.own = true) : ∃ p u, o = some (.ref p) ∧ H p = some u ∧ inn u = false := by
  cases x with
  | un => cases w
  | d y => cases w
  | ol r xs =>
    obtain ⟨p, vs, h1, h2, h3, h4, h5, h6⟩ := h
    exact ⟨p, _, h1, h3, rfl⟩
  | od r ks xs =>
    obtain ⟨p, vs, h1, h2, h3, h4, h5, h6, h7⟩ := h
    exact ⟨p, _, h1, h3, rfl⟩
  | fd r ks xs =>
    obtain ⟨p, vs, ob, h1, h2, h3, h4, h5, h6, h7⟩ := h
    exact ⟨p, _, h1, h3, rfl⟩
  | fv y => cases w
  | sp r z =>
    obtain ⟨p, u, C, h1, h2, h3, h4, h5, h6, h7⟩ := h
    exact ⟨p, _, h1, h3, h4.inn⟩
/-- a cell of an own thing is no slot's place -/
theorem IS.innN (I : IS K T B F G H σ s) {i : Nat} {p q : Addr} {u : HO} (hx : s[i]? = some x) (w : x.own = true) (hp : slA σ i = some (.ref p)) (hq : H q = some u) (iu : inn u = true) : q ≠ p := by
  obtain ⟨p2, u2, h1, h2, h3⟩ := (I.sl i x hx).placeI w
  rw [hp] at h1
  cases h1
  rintro rfl
  rw [hq] at h2
  cases h2
  rw [iu] at h3
  cases h3

theorem IS.freshG (I : IS K T B F G H σ s) {p : Addr} (h : H p = none) : G p = none := by
  cases e : G p with
  | none => rfl
  | some u => rw [I.gh p u e] at h; cases h
theorem IS.freshF (I : IS K T B F G H σ s) {p : Addr} (h : H p = none) : F p = none := by
  cases e : F p with
  | none => rfl
  | some u => rw [I.fr p u e] at h; cases h
theorem IS.at (I : IS K T B F G H σ s) {i : Nat} (h : s[i]? = some x) : SlR K B F G H x (slA σ i) := I.sl i x h
/-- a data slot -/
theorem IS.dat (I : IS K T B F G H σ s) {i : Nat} {d : D} (h : s[i]? = some (.d d)) : ∃ v, σ[i]? = some (some v) ∧ Rp K G v d := by
  obtain ⟨v, h1, h2⟩ := I.sl i _ h
  exact ⟨v, slA_some h1, h2⟩

/-- a new object that is shared -/
theorem IS.new (I : IS K T B F G H σ s) {p : Addr} {u : HO} (hp : H p = none) : IS K T B F (upd G p u) (upd H p u) σ s := by
  have gp := I.freshG hp
  have fp := I.freshF hp
  have ne : ∀ {a w}, H a = some w → a ≠ p := fun e => ne_of_none e hp
  refine ⟨I.len, fun a w e => ?_, fun a w e => ?_, fun a w e => ?_, I.tb, fun i y hy => ?_, I.ap, I.tc.upd2⟩
  · rw [upd_ne (ne (I.fr a w e))]
    exact I.fr a w e
  · by_cases h : a = p
    · rw [h, upd_same] at e
      rw [h, upd_same]
      exact e
    · rw [upd_ne h] at e ⊢
      exact I.gh a w e
  · rw [upd_ne (ne (I.fr a w e))]
    exact I.dj a w e
  · exact (I.sl i y hy).mono (Ex.new gp) fun q w h1 h2 => ⟨by rw [upd_ne (ne h1)]; exact h2, by rw [upd_ne (ne h1)]; exact h1, fun h3 => h3⟩
theorem ex_new {p : Addr} {u : HO} (I : IS K T B F G H σ s) (hp : H p = none) : Ex G (upd G p u) := Ex.new (I.freshG hp)
/-- a new object that nobody knows, or that nobody need know -/
theorem IS.loose (I : IS K T B F G H σ s) {p : Addr} {u : HO} (hp : H p = none) (nt : ∀ xs, u ≠ .tup xs := by intro xs z; cases z) : IS K T B F G (upd H p u) σ s := by
  have ne : ∀ {a w}, H a = some w → a ≠ p := fun e => ne_of_none e hp
  refine ⟨I.len, fun a w e => ?_, fun a w e => ?_, I.dj, I.tb, fun i y hy => ?_, I.ap, I.tc.updH nt⟩
  · rw [upd_ne (ne (I.fr a w e))]
    exact I.fr a w e
  · rw [upd_ne (ne (I.gh a w e))]
    exact I.gh a w e
  · exact (I.sl i y hy).mono (Ex.refl G) fun q w h1 h2 => ⟨h2, by rw [upd_ne (ne h1)]; exact h1, fun h3 => h3⟩

/-- a further slot ahead -/
theorem IS.push (I : IS K T B F G H σ s) (h : SlR K B F G H x o) (na : x.own = true → ∀ p i y, o = some (.ref p) → s[i]? = some y → y.own = true → slA σ i ≠ some (.ref p)) : IS K T B F G H (o :: σ) (x :: s) := by
  refine ⟨congrArg Nat.succ I.len, I.fr, I.gh, I.dj, I.tb, fun i y hy => ?_, fun i j y z p ne hy hz oy oz ay az => ?_, I.tc⟩
  · cases i with
    | zero =>
      simp at hy
      subst hy
      exact h
    | succ i => exact I.sl i y (by simpa using hy)
  · cases i with
    | zero =>
      simp at hy
      subst hy
      cases j with
      | zero => exact ne rfl
      | succ j => exact na oy p j z ay (by simpa using hz) oz az
    | succ i =>
      cases j with
      | zero =>
        simp at hz
        subst hz
        exact na oz p i y az (by simpa using hy) oy ay
      | succ j => exact I.ap i j y z p (fun e => ne (by rw [e])) (by simpa using hy) (by simpa using hz) oy oz ay az
theorem IS.pushD (I : IS K T B F G H σ s) {v : V} {d : D} (h : Rp K G v d) : IS K T B F G H (some v :: σ) (.d d :: s) := I.push ⟨v, rfl, h⟩ fun w => by cases w
theorem IS.tail (I : IS K T B F G H (o :: σ) (x :: s)) : IS K T B F G H σ s :=
  ⟨Nat.succ.inj I.len, I.fr, I.gh, I.dj, I.tb, fun i y hy => I.sl (i + 1) y (by simpa using hy), fun i j y z p ne hy hz => I.ap (i + 1) (j + 1) y z p (fun e => ne (Nat.succ.inj e)) (by simpa using hy) (by simpa using hz), I.tc⟩
theorem IS.head (I : IS K T B F G H (o :: σ) (x :: s)) : SlR K B F G H x o := I.sl 0 x rfl
/-- the slot ahead is stored at i -/
theorem IS.store (I : IS K T B F G H (o :: σ) (x :: s)) (i : Nat) : IS K T B F G H (σ.set i o) (s.set i x) := by
  have J := I.tail
  have len : s.length = σ.length := J.len
  have back : ∀ {j y}, (s.set i x)[j]? = some y → (i = j ∧ i < s.length ∧ y = x) ∨ (s[j]? = some y ∧ ¬ (i = j ∧ i < s.length)) := fun {j y} h => by
    rw [List.getElem?_set] at h
    by_cases e : i = j
    · subst e
      by_cases l : i < s.length
      · simp [l] at h
        exact .inl ⟨rfl, l, h.symm⟩
      · simp [l] at h
    · simp [e] at h
      exact .inr ⟨h, fun q => e q.1⟩
  have val : ∀ j, slA (σ.set i o) j = if i = j ∧ i < s.length then o else slA σ j := fun j => by rw [slA_set, len]
  refine ⟨by simp [len], I.fr, I.gh, I.dj, I.tb, fun j y hy => ?_, fun j k y z p ne hy hz oy oz ay az => ?_, I.tc⟩
  · rw [val]
    rcases back hy with ⟨e, l, rfl⟩ | ⟨h, n⟩
    · rw [if_pos ⟨e, l⟩]
      exact I.head
    · rw [if_neg n]
      exact J.sl j y h
  · rw [val] at ay az
    rcases back hy with ⟨e, l, rfl⟩ | ⟨h, n⟩
    · rw [if_pos ⟨e, l⟩] at ay
      rcases back hz with ⟨e2, l2, rfl⟩ | ⟨h2, n2⟩
      · exact ne (e.symm.trans e2)
      · rw [if_neg n2] at az
        exact I.ap 0 (k + 1) y z p (fun q => by cases q) rfl (by simpa using h2) oy oz ay az
    · rw [if_neg n] at ay
      rcases back hz with ⟨e2, l2, rfl⟩ | ⟨h2, n2⟩
      · rw [if_pos ⟨e2, l2⟩] at az
        exact I.ap 0 (j + 1) z y p (fun q => by cases q) rfl (by simpa using h) oz oy az ay
      · rw [if_neg n2] at az
        exact J.ap j k y z p ne h h2 oy oz ay az
theorem IS.storeD (I : IS K T B F G H σ s) {v : V} {d : D} (h : Rp K G v d) (i : Nat) : IS K T B F G H (σ.set i (some v)) (s.set i (.d d)) := (I.pushD h).store i
/-- a slot forgotten -/
theorem IS.forget (I : IS K T B F G H σ s) (i : Nat) (o : Option V) : IS K T B F G H (σ.set i o) (s.set i .un) := (I.push (x := .un) (o := o) trivial fun w => by cases w).store i
/-- a slot's meaning weakened to nothing known -/
theorem IS.blur (I : IS K T B F G H σ s) (i : Nat) : IS K T B F G H σ (s.set i .un) := by
  refine ⟨by simp [I.len], I.fr, I.gh, I.dj, I.tb, fun j y hy => ?_, fun j k y z p ne hy hz oy oz ay az => ?_, I.tc⟩
  · rw [List.getElem?_set] at hy
    split at hy
    · split at hy
      · cases hy
        trivial
      · cases hy
    · exact I.sl j y hy
  · have q : ∀ {j : Nat} {y : SV}, (s.set i .un)[j]? = some y → y.own = true → s[j]? = some y := fun {j y} h w => by
      rw [List.getElem?_set] at h
      split at h
      · split at h
        · cases h
          cases w
        · cases h
      · exact h
    exact I.ap j k y z p ne (q hy oy) (q hz oz) oy oz ay az

/-- an own slot is changed: what stands at its place turns from u to u' -/
theorem IS.change (I : IS K T B F G H σ s) {i : Nat} {y : SV} {p : Addr} {u' : HO} (hx : s[i]? = some x) (ow : x.own = true) (hp : slA σ i = some (.ref p)) (hy : SlR K B F G (upd H p u') y (some (.ref p))) (yo : y.own = true ∨ y = .un) (nt : ∀ xs, u' ≠ .tup xs := by intro xs z; cases z) :
    IS K T B F G (upd H p u') σ (s.set i y) := by
  obtain ⟨q, u, e1, e2, e3, e4⟩ := (I.sl i x hx).place ow
  have eq : q = p := by
    have h := e1.symm.trans hp
    cases h
    rfl
  subst eq
  have hi : i < s.length := (List.getElem?_eq_some_iff.mp hx).1
  have back : ∀ {j z}, (s.set i y)[j]? = some z → (i = j ∧ z = y) ∨ (s[j]? = some z ∧ i ≠ j) := fun {j z} h => by
    rw [List.getElem?_set] at h
    by_cases e : i = j
    · subst e
      simp [hi] at h
      exact .inl ⟨rfl, h.symm⟩
    · simp [e] at h
      exact .inr ⟨h, e⟩
  refine ⟨by simp [I.len], fun a w e => ?_, fun a w e => ?_, I.dj, I.tb, fun j z hz => ?_, fun j k y1 z1 r ne hy1 hz1 oy oz ay az => ?_, I.tc.updH nt⟩
  · rw [upd_ne (ne_of_none e e4)]
    exact I.fr a w e
  · rw [upd_ne (ne_of_none e e3)]
    exact I.gh a w e
  · rcases back hz with ⟨e, rfl⟩ | ⟨h, n⟩
    · rw [← e, hp]
      exact hy
    · have h0 := I.sl j z h
      refine h0.keep (Ex.refl G) (fun oz r w f1 f2 fi f3 f4 => ?_) fun r w h1 h2 h3 => ?_
      · have nr : r ≠ q := fun e => I.ap i j x z q n hx h ow oz hp (by rw [f1, e])
        exact ⟨f3, by rw [upd_ne nr]; exact f2, f4⟩
      · have nr : r ≠ q := I.innN hx ow hp h1 h2
        exact ⟨h3, by rw [upd_ne nr]; exact h1, fun z => z⟩
  · rcases back hy1 with ⟨e, rfl⟩ | ⟨h, n⟩
    · rcases back hz1 with ⟨e2, rfl⟩ | ⟨h2, n2⟩
      · exact ne (e.symm.trans e2)
      · rw [← e] at ay
        exact I.ap i k x z1 r n2 hx h2 ow oz ay az
    · rcases back hz1 with ⟨e2, rfl⟩ | ⟨h2, n2⟩
      · rw [← e2] at az
        exact I.ap j i y1 x r (Ne.symm n) h hx oy ow ay az
      · exact I.ap j k y1 z1 r ne h h2 oy oz ay az

/-- what an own thing is when it is shared from now on -/
def SV.frz : SV → SV
  | .ol _ xs => .d (.list xs)
  | x => x
/-- an own slot is shared from now on -/
theorem IS.share (I : IS K T B F G H σ s) {i : Nat} (hx : s[i]? = some x) : ∃ G', Ex G G' ∧ IS K T B F G' H σ (s.set i x.frz) := by
  have triv : x.frz = x → ∃ G', Ex G G' ∧ IS K T B F G' H σ (s.set i x.frz) := fun e => ⟨G, Ex.refl G, by
    have e2 : s.set i x.frz = s := by
      rw [e]
      apply List.ext_getElem?
      intro j
      rw [List.getElem?_set]
      split
      · rename_i h
        subst h
        split
        · exact hx.symm
        · rename_i h
          rw [List.getElem?_eq_none (by omega)]
      · rfl
    rw [e2]
    exact I⟩
  have main : ∀ {p : Addr} {u : HO} {d : D}, x.own = true → slA σ i = some (.ref p) → H p = some u → G p = none → F p = none → Rp K (upd G p u) (.ref p) d → IS K T B F (upd G p u) H σ (s.set i (.d d)) := by
    intro p u d ow hp hu gp fp hd
    have hi : i < s.length := (List.getElem?_eq_some_iff.mp hx).1
    have back : ∀ {j z}, (s.set i (.d d))[j]? = some z → (i = j ∧ z = .d d) ∨ (s[j]? = some z ∧ i ≠ j) := fun {j z} h => by
      rw [List.getElem?_set] at h
      by_cases e : i = j
      · subst e
        simp [hi] at h
        exact .inl ⟨rfl, h.symm⟩
      · simp [e] at h
        exact .inr ⟨h, e⟩
    refine ⟨by simp [I.len], I.fr, fun a w e => ?_, fun a w e => ?_, I.tb, fun j z hz => ?_, fun j k y1 z1 r ne hy1 hz1 oy oz ay az => ?_, I.tc.updG hu⟩
    · by_cases h : a = p
      · rw [h, upd_same] at e
        rw [h, hu]
        exact e
      · rw [upd_ne h] at e
        exact I.gh a w e
    · rw [upd_ne (ne_of_none e fp)]
      exact I.dj a w e
    · rcases back hz with ⟨e, rfl⟩ | ⟨h, n⟩
      · rw [← e]
        exact ⟨_, hp, hd⟩
      · have h0 := I.sl j z h
        refine h0.keep (Ex.new gp) (fun oz r w f1 f2 fi f3 f4 => ?_) fun r w h1 h2 h3 => ?_
        · have nr : r ≠ p := fun e => I.ap i j x z p n hx h ow oz hp (by rw [f1, e])
          exact ⟨by rw [upd_ne nr]; exact f3, f2, f4⟩
        · have nr : r ≠ p := I.innN hx ow hp h1 h2
          exact ⟨by rw [upd_ne nr]; exact h3, h1, fun z => z⟩
    · have q : ∀ {j : Nat} {y : SV}, (s.set i (.d d))[j]? = some y → y.own = true → s[j]? = some y := fun {j y} h w => by
        rcases back h with ⟨_, rfl⟩ | ⟨h, _⟩
        · cases w
        · exact h
      exact I.ap j k y1 z1 r ne (q hy1 oy) (q hz1 oz) oy oz ay az
  cases x with
  | un => exact triv rfl
  | d _ => exact triv rfl
  | fd r ks xs => exact triv rfl
  | fv y => exact triv rfl
  | sp r z => exact triv rfl
  | ol r xs =>
    obtain ⟨p, vs, h1, h2, h3, h4, h5, h6⟩ := I.sl i _ hx
    exact ⟨upd G p (.lst vs), Ex.new h5, main rfl h1 h3 h5 h6 (.lst (.inl (.inl upd_same)) (h4.mono (Ex.new h5)))⟩
  | od r ks xs => exact triv rfl
/-- an empty dict is one of either kind -/
def Cv (u u' : HO) : Prop := u' = u ∨ (u = .dT [] ∧ u' = .dK [])
/-- an own dict is shared and locked from now on -/
theorem IS.lockAt (I : IS K T B F G H σ s) {i : Nat} {p : Addr} {u : HO} {d : D} (hx : s[i]? = some x) (ow : x.own = true) (hp : slA σ i = some (.ref p)) (gp : G p = none) (fp : F p = none) (ob : Obj) (hd : Rp K (upd G p (.frz ob u)) (.ref p) d) :
    IS K T B F (upd G p (.frz ob u)) (upd H p (.frz ob u)) σ (s.set i (.d d)) := by
  have hi : i < s.length := (List.getElem?_eq_some_iff.mp hx).1
  have back : ∀ {j z}, (s.set i (.d d))[j]? = some z → (i = j ∧ z = .d d) ∨ (s[j]? = some z ∧ i ≠ j) := fun {j z} h => by
    rw [List.getElem?_set] at h
    by_cases e : i = j
    · subst e
      simp [hi] at h
      exact .inl ⟨rfl, h.symm⟩
    · simp [e] at h
      exact .inr ⟨h, e⟩
  refine ⟨by simp [I.len], fun a w e => ?_, fun a w e => ?_, fun a w e => ?_, I.tb, fun j z hz => ?_, fun j k y1 z1 r ne hy1 hz1 oy oz ay az => ?_, I.tc.upd2⟩
  · rw [upd_ne (ne_of_none e fp)]
    exact I.fr a w e
  · by_cases h : a = p
    · rw [h, upd_same] at e
      rw [h, upd_same]
      exact e
    · rw [upd_ne h] at e
      rw [upd_ne h]
      exact I.gh a w e
  · rw [upd_ne (ne_of_none e fp)]
    exact I.dj a w e
  · rcases back hz with ⟨e, rfl⟩ | ⟨h, n⟩
    · rw [← e]
      exact ⟨_, hp, hd⟩
    · have h0 := I.sl j z h
      refine h0.keep (Ex.new gp) (fun oz r w f1 f2 fi f3 f4 => ?_) fun r w h1 h2 h3 => ?_
      · have nr : r ≠ p := fun e => I.ap i j x z p n hx h ow oz hp (by rw [f1, e])
        exact ⟨by rw [upd_ne nr]; exact f3, by rw [upd_ne nr]; exact f2, f4⟩
      · have nr : r ≠ p := I.innN hx ow hp h1 h2
        exact ⟨by rw [upd_ne nr]; exact h3, by rw [upd_ne nr]; exact h1, fun z => z⟩
  · have q : ∀ {j : Nat} {y : SV}, (s.set i (.d d))[j]? = some y → y.own = true → s[j]? = some y := fun {j y} h w => by
      rcases back h with ⟨_, rfl⟩ | ⟨h, _⟩
      · cases w
      · exact h
    exact I.ap j k y1 z1 r ne (q hy1 oy) (q hz1 oz) oy oz ay az
/-- what an own dict is, as data -/
def SV.lck : SV → Option D
  | .od _ ks xs => some (.dict ((ks.map kD).zip xs))
  | .fd _ ks xs => some (.dict ((ks.map kT).zip xs))
  | _ => none
theorem IS.lock (I : IS K T B F G H σ s) {i : Nat} {d : D} (hx : s[i]? = some x) (hd : x.lck = some d) : ∃ p u0 u, slA σ i = some (.ref p) ∧ H p = some u0 ∧ Mut (some u0) ∧ Cv u0 u ∧ G p = none ∧ ∀ ob, Ex G (upd G p (.frz ob u)) ∧ IS K T B F (upd G p (.frz ob u)) (upd H p (.frz ob u)) σ (s.set i (.d d)) ∧ Rp K (upd G p (.frz ob u)) (.ref p) d := by
  cases x with
  | od r ks xs =>
    cases hd
    obtain ⟨p, kvs, h1, h2, h3, h4, h5, h6, h7⟩ := I.sl i _ hx
    refine ⟨p, .dK kvs, .dK kvs, h1, h3, trivial, .inl rfl, h6, fun ob => ?_⟩
    have rp : Rp K (upd G p (.frz ob (.dK kvs))) (.ref p) (.dict ((ks.map kD).zip xs)) := .dct upd_same h4 (h5.mono (Ex.new h6))
    exact ⟨Ex.new h6, I.lockAt hx rfl h1 h6 h7 ob rp, rp⟩
  | fd r ks xs =>
    cases hd
    obtain ⟨p, kvs, _, h1, h2, h3, h4, h5, h6, h7⟩ := I.sl i _ hx
    cases kvs with
    | nil =>
      refine ⟨p, .dT [], .dK [], h1, h3, trivial, .inr ⟨rfl, rfl⟩, h6, fun ob => ?_⟩
      subst h4
      have rp : Rp K (upd G p (.frz ob (.dK []))) (.ref p) (.dict (((([] : List (List Key × V)).map (·.1)).map kT).zip xs)) := by
        have e := Rp.dct (K := K) (G := upd G p (.frz ob (.dK []))) (ks := []) (ds := []) upd_same rfl .nil
        exact e
      exact ⟨Ex.new h6, I.lockAt hx rfl h1 h6 h7 ob rp, rp⟩
    | cons kv0 kvs =>
      refine ⟨p, .dT (kv0 :: kvs), .dT (kv0 :: kvs), h1, h3, trivial, .inl rfl, h6, fun ob => ?_⟩
      have rp : Rp K (upd G p (.frz ob (.dT (kv0 :: kvs)))) (.ref p) (.dict ((ks.map kT).zip xs)) := .dcT upd_same (fun z => nomatch z) h4 (h5.mono (Ex.new h6))
      exact ⟨Ex.new h6, I.lockAt hx rfl h1 h6 h7 ob rp, rp⟩
  | _ => cases hd
end
/-- what is evaluated to may be locked behind it -/
def tLk (t : TE) : TE := fun σ H Q => t σ H fun v H1 => Q v H1 ∨ ∃ p u0 u, v = .ref p ∧ H1 p = some u0 ∧ Mut (some u0) ∧ Cv u0 u ∧ ∀ ob, Q v (upd H1 p (.frz ob u))
theorem lock_cv {X : Cx} {pins : List (Addr × Obj)} {σ : St} {H : Hp} {s : Shared} {d : Addr} {u u' : HO} (I : Inv X pins σ H s) (h : H d = some u) (mu : Mut (some u)) (cv : Cv u u') : ∃ od, Inv X pins σ (upd H d (.frz od u')) s := by
  rcases cv with rfl | ⟨rfl, rfl⟩
  · exact I.lock h mu
  · have x := I.hok d _ h
    obtain ⟨z, y, xs, r, o, es, ep, e1, e2, e3, e4, e5⟩ := x
    cases r
    have new : ObjOk X.prog X.w (upd H d (.frz o (.dK []))) s.heap d (.frz o (.dK [])) := ⟨e1, Nat.zero_le _, y, [], .nil, o, es, ep, e1, e2, e3, (by
      intro e he
      have : e ∈ es.toList := Array.mem_toList_iff.mpr he
      rw [e4] at this
      cases this), (by rw [e4]; exact .nil), List.nodup_nil⟩
    exact ⟨o, I.write (x := d) (e := d) (t' := s.toks) (h' := s.heap) (by rw [h]; exact mu) (.inl rfl) (fun b v _ q => q) ⟨o, e1⟩ new⟩
theorem pe_lk {X : Cx} {e : Expr} {t : TE} (h : PE X e t) : PE X e (tLk t) := ⟨fun pins s σ H Q I z => thn (h.run pins s σ H _ I z) fun u s1 ⟨v, H1, I1, r1, q⟩ => by
  rcases q with q | ⟨p, w, w', rfl, hp, mu, cv, q⟩
  · exact ⟨v, H1, I1, r1, q⟩
  · obtain ⟨ob, I2⟩ := lock_cv I1 hp mu cv
    exact ⟨.ref p, _, I2, r1, q ob⟩⟩
end DL
set_option Elab.async false
set_option linter.all false
set_option maxRecDepth 100000
set_option maxHeartbeats 4000000
/-! DL3: expressions -/
namespace DL
open PySem PySem.Spec L2
open PyProof.Rows hiding St
open Evl (Ex ex_l ex_t ex_rd)

/-! ### what is reckoned -/
def lift {α β : Type} (g : α → Option β) : α → M β := fun a s => match g a with
  | some b => .ok b s
  | none => .bad
def mOp {α β γ : Type} (g : α → β → Option γ) (fa : M α) (fb : M β) : M γ := fa.bind fun x => fb.bind fun y => lift (g x) y
def mUn {α β : Type} (g : α → Option β) (fa : M α) : M β := fa.bind (lift g)
/-- a name's data; an own thing is shared from then on -/
def mVar (i : Nat) : M D := fun s => match s[i]? with
  | some (.d x) => .ok x s
  | some (.ol _ xs) => .ok (.list xs) (s.set i (.d (.list xs)))
  | some (.od _ ks xs) => .ok (.dict ((ks.map kD).zip xs)) (s.set i (.d (.dict ((ks.map kD).zip xs))))
  | some (.fd _ ks xs) => .ok (.dict ((ks.map kT).zip xs)) (s.set i (.d (.dict ((ks.map kT).zip xs))))
  | _ => .bad
def mC (d : D) : M D := fun s => .ok d s

section
variable {X : Cx} {T : List (Addr × Str)} {B : Addr} {W : WX}

theorem de_c {e : Expr} {v : V} {d : D} (h : PE X e (tC v)) (r : ∀ G, Rp X.K G v d) : DE X T B W e (mC d) := pe_weak h fun σ H Q ⟨F, G, s, I, p⟩ => p.here I v (r G)
theorem de_int {i j pos} : DE X T B W (.Constant (.int i) j pos) (mC (.int i)) := de_c pe_int fun _ => .int _
theorem de_bl {b j pos} : DE X T B W (.Constant (.bool b) j pos) (mC (.bool b)) := de_c pe_bl fun _ => .bl _
theorem de_non {j pos} : DE X T B W (.Constant .none j pos) (mC .none) := de_c pe_non fun _ => .non
theorem de_str {x j pos} : DE X T B W (.Constant (.str x) j pos) (mC (.str x)) := de_c pe_str fun _ => .str _
theorem de_glob {x : Str} {pos : Pos} {u : Value} {v : V} {d : D} (hg : Gl X x) (hm : X.mg x = some u) (r : RelV v u) (hd : ∀ G, Rp X.K G v d) (hdb : (x == ("__debug__" : Str)) = false := by decide) : DE X T B W (.Name x pos) (mC d) := de_c (pe_glob hg hm r hdb) hd

theorem de_var (i : Nat) {x : Str} {pos : Pos} (hN : X.N[i]? = some x := by rfl) (hv : Vis X.env.scope x := by first | exact Or.inl rfl | exact Or.inr (Or.inl rfl) | exact Or.inr (Or.inr rfl)) (hd : (x == ("__debug__" : Str)) = false := by decide)
    (hcd : (x == ("__classdict__" : Str)) = false := by decide) : DE X T B W (.Name x pos) (mVar i) := pe_weak (pe_lk (pe_var (i := i) hN hv hd hcd)) fun σ H Q ⟨F, G, s, I, p⟩ => by
  unfold mVar at p
  cases e : s[i]? with
  | none => rw [e] at p; exact p.elim
  | some y =>
    rw [e] at p
    cases y with
    | un => exact p.elim
    | d z =>
      obtain ⟨v, h1, h2⟩ := I.dat e
      exact ⟨v, h1, .inl (p.here I v h2)⟩
    | ol r xs =>
      obtain ⟨G', eG, I'⟩ := I.share e
      obtain ⟨v, h1, h2⟩ := I'.dat (i := i) (d := .list xs) (by rw [List.getElem?_set_self (List.getElem?_eq_some_iff.mp e).1]; rfl)
      exact ⟨v, h1, .inl (p F G' H Gr.refl eG I' v h2)⟩
    | od r ks xs =>
      obtain ⟨q, u0, u, h1, h2, h3, cv, h4, h5⟩ := I.lock (d := .dict ((ks.map kD).zip xs)) e rfl
      exact ⟨_, slA_some h1, .inr ⟨q, u0, u, rfl, h2, h3, cv, fun ob => p F _ _ Gr.refl (h5 ob).1 (h5 ob).2.1 _ (h5 ob).2.2⟩⟩
    | fd r ks xs =>
      obtain ⟨q, u0, u, h1, h2, h3, cv, h4, h5⟩ := I.lock (d := .dict ((ks.map kT).zip xs)) e rfl
      exact ⟨_, slA_some h1, .inr ⟨q, u0, u, rfl, h2, h3, cv, fun ob => p F _ _ Gr.refl (h5 ob).1 (h5 ob).2.1 _ (h5 ob).2.2⟩⟩
    | fv _ => exact p.elim
    | sp _ _ => exact p.elim

/-! ### operators -/
/-- what an operator does on values is what g does on data -/
def OpS (K : PySem.W.Frag) (r : R2) (g : D → D → Option D) : Prop := ∀ (T : List (Addr × Str)) (B : Addr) (F G H : Hp) (σ : St) (s : S) (x y : V) (dx dy dz : D) (Q : VK), IS K T B F G H σ s → Rp K G x dx → Rp K G y dy → g dx dy = some dz →
  (∀ F' G' H' v, Gr T F F' → Ex G G' → IS K T B F' G' H' σ s → Rp K G' v dz → Q v H') → r x y H Q
theorem te_op {r : R2} {g : D → D → Option D} {fa fb : M D} (hs : OpS X.K r g) {σ : St} {H : Hp} {Q : VK} (h : TEd X T B W (mOp g fa fb) σ H Q) : tOp r (TEd X T B W fa) (TEd X T B W fb) σ H Q := by
  obtain ⟨F, G, s, I, p⟩ := h
  refine runE I p fun F1 G1 H1 s1 x dx g1 e1 I1 r1 p1 => runE I1 p1 fun F2 G2 H2 s2 y dy g2 e2 I2 r2 p2 => ?_
  unfold lift at p2
  cases eg : g dx dy with
  | none => rw [eg] at p2; exact p2.elim
  | some z =>
    rw [eg] at p2
    exact hs T B F2 G2 H2 σ s2 x y dx dy z Q I2 (r1.mono e2) r2 eg fun F' G' H' v a b c d => p2 F' G' H' a b c v d
theorem de_op {op : Operator} {r : R2} {g : D → D → Option D} {a b : Expr} {fa fb : M D} {pos : Pos} (ho : OpR X (binaryOp op) r) (hs : OpS X.K r g) (ha : DE X T B W a fa) (hb : DE X T B W b fb) : DE X T B W (.BinOp a op b pos) (mOp g fa fb) :=
  pe_weak (pe_op ho ha hb) fun _ _ _ h => te_op hs h
theorem de_cmp {op : CmpOp} {r : R2} {g : D → D → Option D} {a b : Expr} {fa fb : M D} {pos : Pos} (ho : OpR X (compareOp op) r) (hs : OpS X.K r g) (ha : DE X T B W a fa) (hb : DE X T B W b fb) (hm : behindInMarks op b = false) : DE X T B W (.Compare a [op] [b] pos) (mOp g fa fb) :=
  pe_weak (pe_cmpR ho ha hb hm) fun _ _ _ h => te_op hs h
/-- an operator that makes nothing new -/
theorem ops_val {K : PySem.W.Frag} {r : R2} {g : D → D → Option D} (h : ∀ (G H : Hp) (x y : V) (dx dy dz : D) (Q : VK), Ex G H → Rp K G x dx → Rp K G y dy → g dx dy = some dz → (∀ v, Rp K G v dz → Q v H) → r x y H Q) : OpS K r g :=
  fun T B F G H σ s x y dx dy dz Q I rx ry eg q => h G H x y dx dy dz Q I.gh rx ry eg fun v rv => q F G H v Gr.refl (Ex.refl G) I rv
theorem OpS.or {K : PySem.W.Frag} {r r' : R2} {g g' h : D → D → Option D} (a : OpS K r g) (b : OpS K r' g') (e : ∀ x y z, h x y = some z → g x y = some z ∨ g' x y = some z) : OpS K (fun x y H Q => r x y H Q ∨ r' x y H Q) h :=
  fun T B F G H σ s x y dx dy dz Q I rx ry eg q => (e dx dy dz eg).elim (fun z => .inl (a T B F G H σ s x y dx dy dz Q I rx ry z q)) (fun z => .inr (b T B F G H σ s x y dx dy dz Q I rx ry z q))
abbrev lim : Nat := 1000000
theorem lim_le {n : Nat} (h : n ≤ lim) : n ≤ sizeLine := Nat.le_trans h (by decide)
theorem lim_lt {n : Nat} (h : n < lim) : n < sizeLine := Nat.lt_of_lt_of_le h (by decide)
/-- two ints, under c -/
def dII (c : Int → Int → Bool) (g : Int → Int → D) : D → D → Option D
  | .int a, .int b => if c a b = true then some (g a b) else none
  | _, _ => none
theorem dII_inv {c : Int → Int → Bool} {g : Int → Int → D} {x y z : D} (h : dII c g x y = some z) : ∃ a b, x = .int a ∧ y = .int b ∧ c a b = true ∧ z = g a b := by
  unfold dII at h
  split at h
  · split at h
    · cases h
      exact ⟨_, _, rfl, rfl, by assumption, rfl⟩
    · cases h
  · cases h
theorem ops_II {K : PySem.W.Frag} {C : Int → Int → Prop} {c : Int → Int → Bool} {gv : Int → Int → V} {g : Int → Int → D} (hc : ∀ a b, c a b = true → C a b) (hg : ∀ G a b, Rp K G (gv a b) (g a b)) : OpS K (rI C gv) (dII c g) := ops_val fun G H x y dx dy dz Q e rx ry eg q => by
  obtain ⟨a, b, rfl, rfl, h, rfl⟩ := dII_inv eg
  exact ⟨a, b, rx.int_inv, ry.int_inv, hc a b h, q _ (hg G a b)⟩
theorem ops_II0 {K : PySem.W.Frag} {gv : Int → Int → V} {g : Int → Int → D} (hg : ∀ G a b, Rp K G (gv a b) (g a b)) : OpS K (rI0 gv) (dII (fun _ _ => true) g) := ops_val fun G H x y dx dy dz Q e rx ry eg q => by
  obtain ⟨a, b, rfl, rfl, h, rfl⟩ := dII_inv eg
  exact ⟨a, b, rx.int_inv, ry.int_inv, q _ (hg G a b)⟩
/-- two texts, under c -/
def dSS (c : Str → Str → Bool) (g : Str → Str → D) : D → D → Option D
  | .str a, .str b => if c a b = true then some (g a b) else none
  | _, _ => none
def dAdd : D → D → Option D
  | .int a, .int b => some (.int (a + b))
  | .str a, .str b => if a.length + b.length ≤ lim then some (.str (a ++ b)) else none
  | _, _ => none
def rAddB : R2 := fun x y H Q => rI0 (fun i j => .int (i + j)) x y H Q ∨ (fun x y H Q => ∃ i j, x = V.str i ∧ y = V.str j ∧ i.length + j.length ≤ sizeLine ∧ Q (V.str (i ++ j)) H) x y H Q
theorem op_addB : OpR X (binaryOp .Add) rAddB := OpR.or op_add op_add_str
theorem ops_addB {K : PySem.W.Frag} : OpS K rAddB dAdd := ops_val fun G H x y dx dy dz Q e rx ry eg q => by
  unfold dAdd at eg
  split at eg
  · cases eg
    exact .inl ⟨_, _, rx.int_inv, ry.int_inv, q _ (.int _)⟩
  · split at eg
    · cases eg
      exact .inr ⟨_, _, rx.str_inv, ry.str_inv, lim_le (by assumption), q _ (.str _)⟩
    · cases eg
  · cases eg
theorem de_add {a b : Expr} {fa fb : M D} {pos : Pos} (ha : DE X T B W a fa) (hb : DE X T B W b fb) : DE X T B W (.BinOp a .Add b pos) (mOp dAdd fa fb) := de_op op_addB ops_addB ha hb
def dSub : D → D → Option D := dII (fun _ _ => true) fun a b => .int (a - b)
theorem de_sub {a b : Expr} {fa fb : M D} {pos : Pos} (ha : DE X T B W a fa) (hb : DE X T B W b fb) : DE X T B W (.BinOp a .Sub b pos) (mOp dSub fa fb) := de_op op_sub (ops_II0 fun _ _ _ => .int _) ha hb
def mulOk (a b : Int) : Bool := decide (a.natAbs.log2 + b.natAbs.log2 < 1000000)
def dMul : D → D → Option D := dII mulOk fun a b => .int (a * b)
def divOk (_ b : Int) : Bool := decide (0 < b ∧ b.natAbs.log2 < 9000)
def dDiv : D → D → Option D := dII divOk fun a b => .int (a / b)
theorem de_div {a b : Expr} {fa fb : M D} {pos : Pos} (ha : DE X T B W a fa) (hb : DE X T B W b fb) : DE X T B W (.BinOp a .FloorDiv b pos) (mOp dDiv fa fb) := de_op op_fdivW (ops_II (fun a b h => by unfold CDivW; exact of_decide_eq_true h) fun _ _ _ => .int _) ha hb
def modOk (_ b : Int) : Bool := decide (0 < b)
def dMod : D → D → Option D := dII modOk fun a b => .int (a % b)
theorem de_mod {a b : Expr} {fa fb : M D} {pos : Pos} (ha : DE X T B W a fa) (hb : DE X T B W b fb) : DE X T B W (.BinOp a .Mod b pos) (mOp dMod fa fb) := de_op op_mod (ops_II (fun a b h => of_decide_eq_true h) fun _ _ _ => .int _) ha hb
def powOk (a b : Int) : Bool := decide (0 ≤ b ∧ b ≤ 1000 ∧ a.natAbs < 1000000)
theorem powOk_ok {a b : Int} (h : powOk a b = true) : CPow a b := by
  have h2 : 0 ≤ b ∧ b ≤ 1000 ∧ a.natAbs < 1000000 := of_decide_eq_true h
  exact ⟨h2.1, by omega, Nat.lt_trans h2.2.2 (by decide)⟩
def dPow : D → D → Option D := dII powOk fun a b => .int (a ^ b.toNat)
theorem de_pow {a b : Expr} {fa fb : M D} {pos : Pos} (ha : DE X T B W a fa) (hb : DE X T B W b fb) : DE X T B W (.BinOp a .Pow b pos) (mOp dPow fa fb) := de_op op_pow (ops_II (fun a b h => powOk_ok h) fun _ _ _ => .int _) ha hb

/-! ### comparisons -/
def dCmp (gi : Int → Int → Bool) (gs : Str → Str → Bool) : D → D → Option D
  | .int a, .int b => some (.bool (gi a b))
  | .str a, .str b => some (.bool (gs a b))
  | _, _ => none
theorem ops_cmp {K : PySem.W.Frag} {gi : Int → Int → Bool} {gs : Str → Str → Bool} : OpS K (fun x y H Q => rI0 (fun i j => .bl (gi i j)) x y H Q ∨ (fun x y H Q => ∃ i j, x = V.str i ∧ y = V.str j ∧ Q (V.bl (gs i j)) H) x y H Q) (dCmp gi gs) := ops_val fun G H x y dx dy dz Q e rx ry eg q => by
  unfold dCmp at eg
  split at eg
  · cases eg
    exact .inl ⟨_, _, rx.int_inv, ry.int_inv, q _ (.bl _)⟩
  · cases eg
    exact .inr ⟨_, _, rx.str_inv, ry.str_inv, q _ (.bl _)⟩
  · cases eg
def ltS (a b : Str) : Bool := decide (a.cps.toList < b.cps.toList)
def dLt : D → D → Option D := dCmp (fun a b => decide (a < b)) ltS
def dLe : D → D → Option D := dCmp (fun a b => decide (a ≤ b)) fun a b => !ltS b a
def dGt : D → D → Option D := dCmp (fun a b => decide (b < a)) fun a b => ltS b a
def dGe : D → D → Option D := dCmp (fun a b => decide (b ≤ a)) fun a b => !ltS a b
theorem de_lt {a b : Expr} {fa fb : M D} {pos : Pos} (ha : DE X T B W a fa) (hb : DE X T B W b fb) : DE X T B W (.Compare a [.Lt] [b] pos) (mOp dLt fa fb) := de_cmp (OpR.or op_lt op_lt_str) ops_cmp ha hb (nomark _)
def dEq (x y : D) : Option D := if SeqAt.shaped x = true ∧ SeqAt.shaped y = true then some (.bool (PyData.eqv x y)) else none
def dNe (x y : D) : Option D := if SeqAt.shaped x = true ∧ SeqAt.shaped y = true then some (.bool (!PyData.eqv x y)) else none
theorem ops_eq {K : PySem.W.Frag} : OpS K (rEqD K) dEq := ops_val fun G H x y dx dy dz Q e rx ry eg q => by
  unfold dEq at eg
  split at eg
  · rename_i h
    cases eg
    exact ⟨dx, dy, (rx.mono e).dp (SeqAt.canLay_of_shaped h.1), (ry.mono e).dp (SeqAt.canLay_of_shaped h.2), h.1, h.2, q _ (.bl _)⟩
  · cases eg
theorem ops_ne {K : PySem.W.Frag} : OpS K (rNeD K) dNe := ops_val fun G H x y dx dy dz Q e rx ry eg q => by
  unfold dNe at eg
  split at eg
  · rename_i h
    cases eg
    exact ⟨dx, dy, (rx.mono e).dp (SeqAt.canLay_of_shaped h.1), (ry.mono e).dp (SeqAt.canLay_of_shaped h.2), h.1, h.2, q _ (.bl _)⟩
  · cases eg
theorem de_eq {a b : Expr} {fa fb : M D} {pos : Pos} (hu : X.A.units + 64 < cLine) (ha : DE X T B W a fa) (hb : DE X T B W b fb) : DE X T B W (.Compare a [.Eq] [b] pos) (mOp dEq fa fb) := de_cmp (op_eqD hu) ops_eq ha hb (nomark _)
theorem de_ne {a b : Expr} {fa fb : M D} {pos : Pos} (hu : X.A.units + 64 < cLine) (ha : DE X T B W a fa) (hb : DE X T B W b fb) : DE X T B W (.Compare a [.NotEq] [b] pos) (mOp dNe fa fb) := de_cmp (op_neD hu) ops_ne ha hb (nomark _)
/-- x is None -/
def dIsN : D → D → Option D
  | x, .none => some (.bool (match x with | .none => true | _ => false))
  | _, _ => none
def dNotN : D → D → Option D
  | x, .none => some (.bool (match x with | .none => false | _ => true))
  | _, _ => none
theorem ops_isN {K : PySem.W.Frag} : OpS K (fun x y H Q => y = .non ∧ Q (.bl (decide (x = .non))) H) dIsN := ops_val fun G H x y dx dy dz Q e rx ry eg q => by
  unfold dIsN at eg
  split at eg
  · cases eg
    refine ⟨ry.non_inv, ?_⟩
    cases rx <;> exact q _ (.bl _)
  · cases eg
theorem de_isN {a b : Expr} {fa fb : M D} {pos : Pos} (ha : DE X T B W a fa) (hb : DE X T B W b fb) : DE X T B W (.Compare a [.Is] [b] pos) (mOp dIsN fa fb) := de_cmp op_isN ops_isN ha hb (nomark _)
/-- one sign in a text -/
def sign? (x : Str) : Option Nat := match x.cps.toList with
  | [c] => some c
  | _ => none
def dInS (neg : Bool) : D → D → Option D
  | .str a, .str b => (sign? a).map fun c => .bool (if neg then !decide (c ∈ b.cps.toList) else decide (c ∈ b.cps.toList))
  | _, _ => none
/-! ### one operand -/
def UnS (K : PySem.W.Frag) (r : V → Hp → VK → Prop) (g : D → Option D) : Prop := ∀ (G H : Hp) (x : V) (dx dz : D) (Q : VK), Ex G H → Rp K G x dx → g dx = some dz → (∀ v, Rp K G v dz → Q v H) → r x H Q
theorem te_un {r : V → Hp → VK → Prop} {g : D → Option D} {fa : M D} (hs : UnS X.K r g) {σ : St} {H : Hp} {Q : VK} (h : TEd X T B W (mUn g fa) σ H Q) : TEd X T B W fa σ H (fun x H1 => r x H1 Q) := by
  obtain ⟨F, G, s, I, p⟩ := h
  refine runE I p fun F1 G1 H1 s1 x dx g1 e1 I1 r1 p1 => ?_
  unfold lift at p1
  cases eg : g dx with
  | none => rw [eg] at p1; exact p1.elim
  | some z =>
    rw [eg] at p1
    exact hs G1 H1 x dx z Q I1.gh r1 eg fun v rv => p1.here I1 v rv
def dNeg : D → Option D
  | .int a => some (.int (-a))
  | _ => none
theorem de_neg {a : Expr} {fa : M D} {pos : Pos} (ha : DE X T B W a fa) : DE X T B W (.UnaryOp .USub a pos) (mUn dNeg fa) := pe_weak (pe_un un_neg ha) fun _ _ _ h => te_un (fun G H x dx dz Q e rx eg q => by
  unfold dNeg at eg
  split at eg
  · cases eg
    exact ⟨_, rx.int_inv, q _ (.int _)⟩
  · cases eg) h

/-! ### tests -/
/-- the truth of data -/
def dTru : D → Option Bool
  | .none => some false
  | .bool b => some b
  | .int i => some (i != 0)
  | .str x => if x.length ≤ lim then some ((x.length : Int) != 0) else none
  | .list xs => some (!xs.isEmpty)
  | .tuple xs => some (!xs.isEmpty)
  | _ => none
theorem len_empty {K : PySem.W.Frag} {G : Hp} {vs : List V} {ds : List D} (h : RpA K G vs ds) : vs.isEmpty = ds.isEmpty := by cases h <;> rfl
theorem tru_of {K : PySem.W.Frag} {G H : Hp} {x : V} {d : D} {b : Bool} (e : Ex G H) (rx : Rp K G x d) (h : dTru d = some b) : TruV K x H b := by
  cases rx with
  | non => cases h; rfl
  | bl b' => cases h; rfl
  | int i => cases h; rfl
  | str z =>
    have h2 : (if z.length ≤ lim then some ((z.length : Int) != 0) else none) = some b := h
    split at h2
    · cases h2
      exact ⟨lim_le (by assumption), rfl⟩
    · cases h2
  | lst hs r =>
    cases h
    exact .inl ⟨_, ex_l e hs, by rw [len_empty r]⟩
  | tup hs r =>
    cases h
    exact .inr (.inl ⟨_, ex_t e (.inl (.inl hs)), by rw [len_empty r]⟩)
  | tpK hs =>
    cases h
    exact .inr (.inl ⟨_, ex_t e (.inr hs), by rw [len_empty (rpa_ints (K := K) (G := G) _)]⟩)
  | dct _ _ _ => cases h
  | dcT _ _ _ _ => cases h
def mTru (f : M D) : M Bool := mUn dTru f
theorem te_tru {fa : M D} {σ : St} {H : Hp} {Q : Bool → Hp → Prop} (h : TTd X T B W (mTru fa) σ H Q) : TEd X T B W fa σ H (fun x H' => ∃ k, TruV X.K x H' k ∧ Q k H') := by
  obtain ⟨F, G, s, I, p⟩ := h
  refine runE I p fun F1 G1 H1 s1 x dx g1 e1 I1 r1 p1 => ?_
  unfold lift at p1
  cases eg : dTru dx with
  | none => rw [eg] at p1; exact p1.elim
  | some b =>
    rw [eg] at p1
    exact ⟨b, tru_of I1.gh r1 eg, p1.here I1⟩
/-- an expression of any kind as a test -/
theorem dt_val {a : Expr} {fa : M D} (ha : DE X T B W a fa) (he : ∀ whole, isTrue a X.env whole = (do let v ← whole; standAt a.pos; holding [v] (truthy v)) := by intro _; rfl) : DT X T B W a (mTru fa) := pt_weak (pt_truth ha he) fun _ _ _ h => te_tru h
theorem te_test {f : M D} {σ : St} {H : Hp} {Q : Bool → Hp → Prop} {t : TE} (ht : ∀ Q, TEd X T B W f σ H Q → t σ H Q) (h : TTd X T B W (mTru f) σ H Q) (hb : ∀ s d s', f s = .ok d s' → ∃ b, d = .bool b) : t σ H (fun x H' => ∃ k, x = .bl k ∧ Q k H') := by
  obtain ⟨F, G, s, I, p⟩ := h
  refine ht _ ⟨F, G, s, I, ?_⟩
  cases ef : f s with
  | bad =>
    have p2 : Po X T B W F G σ (fun _ _ b _ H' => Q b H') ((f s).bind (lift dTru)) := p
    rw [ef] at p2
    exact p2
  | ex c s' =>
    have p2 : Po X T B W F G σ (fun _ _ b _ H' => Q b H') ((f s).bind (lift dTru)) := p
    rw [ef] at p2
    exact p2
  | ok d s' =>
    have p2 : Po X T B W F G σ (fun _ _ b _ H' => Q b H') ((f s).bind (lift dTru)) := p
    rw [ef] at p2
    obtain ⟨b, rfl⟩ := hb s d s' ef
    exact fun F' G' H' g' e' I' v rv => ⟨b, rv.bl_inv, p2 F' G' H' g' e' I'⟩
theorem mOp_bool {g : D → D → Option D} {fa fb : M D} (hb : ∀ x y z, g x y = some z → ∃ b, z = .bool b) : ∀ s d s', mOp g fa fb s = .ok d s' → ∃ b, d = .bool b := by
  intro s d s' h
  unfold mOp M.bind at h
  cases e1 : fa s with
  | bad => rw [e1] at h; cases h
  | ex c s' => rw [e1] at h; cases h
  | ok x s1 =>
    rw [e1] at h
    have h2 : (fb s1).bind (fun y => lift (g x) y) = .ok d s' := h
    cases e2 : fb s1 with
    | bad => rw [e2] at h2; cases h2
    | ex c s' => rw [e2] at h2; cases h2
    | ok y s2 =>
      rw [e2] at h2
      have h3 : lift (g x) y s2 = .ok d s' := h2
      unfold lift at h3
      cases e3 : g x y with
      | none => rw [e3] at h3; cases h3
      | some z =>
        rw [e3] at h3
        cases h3
        exact hb x y d e3
/-- a comparison as a test -/
theorem dt_cmp {op : CmpOp} {r : R2} {g : D → D → Option D} {a b : Expr} {fa fb : M D} {pos : Pos} (ho : OpR X (compareOp op) r) (hs : OpS X.K r g) (hb : ∀ x y z, g x y = some z → ∃ b, z = .bool b) (ha : DE X T B W a fa) (hb' : DE X T B W b fb) (hm : behindInMarks op b = false) :
    DT X T B W (.Compare a [op] [b] pos) (mTru (mOp g fa fb)) := pt_weak (pt_cmpR ho ha hb' hm) fun σ H Q h => te_test (t := tOp r (TEd X T B W fa) (TEd X T B W fb)) (fun Q h => te_op hs h) h (mOp_bool hb)
theorem dCmp_bool {gi : Int → Int → Bool} {gs : Str → Str → Bool} : ∀ x y z, dCmp gi gs x y = some z → ∃ b, z = .bool b := fun x y z h => by
  unfold dCmp at h
  split at h
  · cases h
    exact ⟨_, rfl⟩
  · cases h
    exact ⟨_, rfl⟩
  · cases h
theorem dt_lt {a b : Expr} {fa fb : M D} {pos : Pos} (ha : DE X T B W a fa) (hb : DE X T B W b fb) : DT X T B W (.Compare a [.Lt] [b] pos) (mTru (mOp dLt fa fb)) := dt_cmp (OpR.or op_lt op_lt_str) ops_cmp dCmp_bool ha hb (nomark _)
theorem dt_gt {a b : Expr} {fa fb : M D} {pos : Pos} (ha : DE X T B W a fa) (hb : DE X T B W b fb) : DT X T B W (.Compare a [.Gt] [b] pos) (mTru (mOp dGt fa fb)) := dt_cmp (OpR.or op_gt op_gt_str) ops_cmp dCmp_bool ha hb (nomark _)
theorem dt_ge {a b : Expr} {fa fb : M D} {pos : Pos} (ha : DE X T B W a fa) (hb : DE X T B W b fb) : DT X T B W (.Compare a [.GtE] [b] pos) (mTru (mOp dGe fa fb)) := dt_cmp (OpR.or op_ge op_ge_str) ops_cmp dCmp_bool ha hb (nomark _)
theorem dt_ne {a b : Expr} {fa fb : M D} {pos : Pos} (hu : X.A.units + 64 < cLine) (ha : DE X T B W a fa) (hb : DE X T B W b fb) : DT X T B W (.Compare a [.NotEq] [b] pos) (mTru (mOp dNe fa fb)) := dt_cmp (op_neD hu) ops_ne (fun x y z h => by
  unfold dNe at h
  split at h <;> cases h
  exact ⟨_, rfl⟩) ha hb (nomark _)
theorem dt_isN {a b : Expr} {fa fb : M D} {pos : Pos} (ha : DE X T B W a fa) (hb : DE X T B W b fb) : DT X T B W (.Compare a [.Is] [b] pos) (mTru (mOp dIsN fa fb)) := dt_cmp op_isN ops_isN (fun x y z h => by
  unfold dIsN at h
  split at h <;> cases h
  exact ⟨_, rfl⟩) ha hb (nomark _)
/-! ### and, or, not -/
def mAnd (f g : M Bool) : M Bool := f.bind fun b => if b = true then g else M.ret false
def mOr (f g : M Bool) : M Bool := f.bind fun b => if b = true then M.ret true else g
def mNot (f : M Bool) : M Bool := f.bind fun b => M.ret (!b)
def DW (X : Cx) (T : List (Addr × Str)) (B : Addr) (W : WX) (e : Expr) (f : M Bool) : Prop := PW X e (TTd X T B W f)
theorem pw_weak {X : Cx} {e : Expr} {t t' : TT} (h : PW X e t) (q : ∀ σ H Q, t' σ H Q → t σ H Q) : PW X e t' := ⟨fun wh pins s σ H Q I z => h.run wh pins s σ H Q I (q σ H Q z)⟩
theorem dt_w {e : Expr} {f : M Bool} (h : DW X T B W e f) : DT X T B W e f := h.pt
theorem dw_and1 {a : Expr} {f : M Bool} {pos : Pos} (h : DT X T B W a f) : DW X T B W (.BoolOp .And [a] pos) f := pw_and1 h
theorem dw_or1 {a : Expr} {f : M Bool} {pos : Pos} (h : DT X T B W a f) : DW X T B W (.BoolOp .Or [a] pos) f := pw_or1 h
theorem dw_and {a b : Expr} {rest : List Expr} {f g : M Bool} {pos : Pos} (ha : DT X T B W a f) (hb : DW X T B W (.BoolOp .And (b :: rest) pos) g) : DW X T B W (.BoolOp .And (a :: b :: rest) pos) (mAnd f g) := pw_weak (pw_and ha hb) fun σ H Q ⟨F, G, s, I, p⟩ => by
  refine runT I p fun F1 G1 H1 s1 b g1 e1 I1 p1 => ?_
  cases b with
  | true => exact ⟨F1, G1, s1, I1, p1⟩
  | false => exact p1.here I1
theorem dw_or {a b : Expr} {rest : List Expr} {f g : M Bool} {pos : Pos} (ha : DT X T B W a f) (hb : DW X T B W (.BoolOp .Or (b :: rest) pos) g) : DW X T B W (.BoolOp .Or (a :: b :: rest) pos) (mOr f g) := pw_weak (pw_or ha hb) fun σ H Q ⟨F, G, s, I, p⟩ => by
  refine runT I p fun F1 G1 H1 s1 b g1 e1 I1 p1 => ?_
  cases b with
  | true => exact p1.here I1
  | false => exact ⟨F1, G1, s1, I1, p1⟩
theorem dt_not {a : Expr} {f : M Bool} {pos : Pos} (ha : DT X T B W a f) : DT X T B W (.UnaryOp .Not a pos) (mNot f) := pt_weak (pt_not ha) fun σ H Q ⟨F, G, s, I, p⟩ => runT I p fun F1 G1 H1 s1 b g1 e1 I1 p1 => p1.here I1
/-- .. as values -/
def asB : D → Option Bool
  | .bool b => some b
  | _ => none
def mAndV (f g : M D) : M D := f.bind fun x => match x with
  | .bool true => g
  | .bool false => mC (.bool false)
  | _ => fun _ => .bad
def mOrV (f g : M D) : M D := f.bind fun x => match x with
  | .bool true => mC (.bool true)
  | .bool false => g
  | _ => fun _ => .bad
def mNotV (f : M D) : M D := mUn (fun x => (asB x).map fun b => (.bool (!b) : D)) f
theorem de_one {op} {a : Expr} {f : M D} {pos : Pos} (h : DE X T B W a f) : DE X T B W (.BoolOp op [a] pos) f := pe_one h
theorem de_and {a b : Expr} {rest : List Expr} {f g : M D} {pos : Pos} (ha : DE X T B W a f) (hb : DE X T B W (.BoolOp .And (b :: rest) pos) g) : DE X T B W (.BoolOp .And (a :: b :: rest) pos) (mAndV f g) := pe_weak (pe_and ha hb) fun σ H Q ⟨F, G, s, I, p⟩ => by
  refine runE I p fun F1 G1 H1 s1 v d g1 e1 I1 r1 p1 => ?_
  split at p1
  · exact ⟨true, r1.bl_inv, ⟨F1, G1, s1, I1, p1⟩⟩
  · exact ⟨false, r1.bl_inv, p1.here I1 _ (.bl _)⟩
  · exact p1.elim
theorem de_not {a : Expr} {f : M D} {pos : Pos} (ha : DE X T B W a f) : DE X T B W (.UnaryOp .Not a pos) (mNotV f) := pe_weak (pe_not ha) fun _ _ _ h => te_un (r := fun x H1 Q => ∃ c, x = .bl c ∧ Q (.bl (!c)) H1) (fun G H x dx dz Q e rx eg q => by
  cases rx with
  | bl b =>
    cases eg
    exact ⟨b, rfl, q _ (.bl _)⟩
  | _ => cases eg) h
def mIf {α : Type} (t : M Bool) (f g : M α) : M α := t.bind fun b => if b = true then f else g
end
end DL
set_option Elab.async false
set_option linter.all false
set_option maxRecDepth 100000
set_option maxHeartbeats 4000000
/-! DL4: subscripts, slices, displays, built-in calls -/
namespace DL
open PySem PySem.Spec L2
open PyProof.Rows hiding St
open Evl (Ex ex_l ex_t ex_rd)

section
variable {X : Cx} {T : List (Addr × Str)} {B : Addr} {W : WX}
/-! ### texts so often -/
def dMulA : D → D → Option D
  | .int a, .int b => if mulOk a b = true then some (.int (a * b)) else none
  | .str a, .int b => if 0 ≤ b ∧ b ≤ 1000 ∧ a.length ≤ 1000 then some (.str (Txt.mul a b)) else none
  | _, _ => none
theorem mulS_ok {a : Str} {b : Int} (h : 0 ≤ b ∧ b ≤ 1000 ∧ a.length ≤ 1000) : MulOk a b := by
  obtain ⟨h1, h2, h3⟩ := h
  refine ⟨?_, fun h4 _ => ?_, fun _ _ => ?_⟩
  · rw [decide_eq_false (by omega), decide_eq_false (by omega)]
    rfl
  · have h5 : (1000 : Int) ≤ (2 ^ 63 - 1) / b := by
      refine (Int.le_ediv_iff_mul_le (by omega)).mpr ?_
      omega
    omega
  · have h6 : a.length * b.toNat ≤ 1000 * 1000 := Nat.mul_le_mul h3 (by omega)
    unfold Builtin.Str.tooLong
    refine decide_eq_false ?_
    have h7 : sizeLine = 16777216 := sizeLine_eq
    omega
theorem op_mulS : OpR X (binaryOp .Mult) (fun x y H Q => ∃ a b, x = V.str a ∧ y = V.int b ∧ MulOk a b ∧ Q (V.str (Txt.mul a b)) H) := by
  intro pins s σ H x y v u Q I rx ry h
  obtain ⟨a, b, rfl, rfl, hok, q⟩ := h
  obtain ⟨t, rfl⟩ := rx
  obtain ⟨t2, rfl⟩ := ry
  exact SB.mul hok fun t' k => ⟨.str _, H, I.tok _, ⟨_, rfl⟩, q⟩
def rMulA : R2 := fun x y H Q => rI CMulW (fun i j => .int (i * j)) x y H Q ∨ (fun x y H Q => ∃ a b, x = V.str a ∧ y = V.int b ∧ MulOk a b ∧ Q (V.str (Txt.mul a b)) H) x y H Q
theorem ops_mulA {K : PySem.W.Frag} : OpS K rMulA dMulA := ops_val fun G H x y dx dy dz Q e rx ry eg q => by
  unfold dMulA at eg
  split at eg
  · split at eg
    · cases eg
      rename_i h
      refine .inl ⟨_, _, rx.int_inv, ry.int_inv, ?_, q _ (.int _)⟩
      unfold CMulW
      exact of_decide_eq_true h
    · cases eg
  · split at eg
    · cases eg
      rename_i h
      exact .inr ⟨_, _, rx.str_inv, ry.int_inv, mulS_ok h, q _ (.str _)⟩
    · cases eg
  · cases eg
theorem de_mulA {a b : Expr} {fa fb : M D} {pos : Pos} (ha : DE X T B W a fa) (hb : DE X T B W b fb) : DE X T B W (.BinOp a .Mult b pos) (mOp dMulA fa fb) := de_op (OpR.or op_mulW op_mulS) ops_mulA ha hb

/-! ### chains of two comparisons -/
def mChain (g g' : D → D → Option D) (fa fb fc : M D) : M D := fa.bind fun x => fb.bind fun y => (lift (g x) y : M D).bind fun b => match b with
  | .bool true => fc.bind fun z => lift (g' y) z
  | .bool false => mC (.bool false)
  | _ => fun _ => .bad
theorem te_chain {r r' : R2} {g g' : D → D → Option D} {fa fb fc : M D} (hs : OpS X.K r g) (hs' : OpS X.K r' g') {σ : St} {H : Hp} {Q : VK} (h : TEd X T B W (mChain g g' fa fb fc) σ H Q) : tChain r r' (TEd X T B W fa) (TEd X T B W fb) (TEd X T B W fc) σ H Q := by
  obtain ⟨F, G, s, I, p⟩ := h
  refine runE I p fun F1 G1 H1 s1 x dx g1 e1 I1 r1 p1 => runE I1 p1 fun F2 G2 H2 s2 y dy g2 e2 I2 r2 p2 => ?_
  cases eg : g dx dy with
  | none =>
    have p3 : Po X T B W F2 G2 σ (fun _ G' d _ H' => ∀ v, Rp X.K G' v d → Q v H') ((lift (g dx) dy s2).bind fun b => match b with
      | .bool true => fc.bind fun z => lift (g' dy) z
      | .bool false => mC (.bool false)
      | _ => fun _ => .bad) := p2
    unfold lift at p3
    rw [eg] at p3
    exact p3.elim
  | some z =>
    have p3 : Po X T B W F2 G2 σ (fun _ G' d _ H' => ∀ v, Rp X.K G' v d → Q v H') ((lift (g dx) dy s2).bind fun b => match b with
      | .bool true => fc.bind fun z => lift (g' dy) z
      | .bool false => mC (.bool false)
      | _ => fun _ => .bad) := p2
    rw [show lift (g dx) dy s2 = .ok z s2 by unfold lift; rw [eg]] at p3
    refine hs T B F2 G2 H2 σ s2 x y dx dy z _ I2 (r1.mono e2) r2 eg fun F3 G3 H3 v g3 e3 I3 r3 => ?_
    have p4 : Po X T B W F2 G2 σ (fun _ G' d _ H' => ∀ v, Rp X.K G' v d → Q v H') ((match z with
      | .bool true => fc.bind fun z => lift (g' dy) z
      | .bool false => mC (.bool false)
      | _ => fun _ => .bad) s2) := p3
    split at p4
    · refine ⟨true, r3.bl_inv, ?_⟩
      show TEd X T B W fc σ H3 _
      refine runE I3 (p4.mono g3 e3) fun F5 G5 H5 s5 w dw g5 e5 I5 r5 p5 => ?_
      unfold lift at p5
      cases eg' : g' dy dw with
      | none => rw [eg'] at p5; exact p5.elim
      | some z' =>
        rw [eg'] at p5
        exact hs' T B F5 G5 H5 σ s5 y w dy dw z' Q I5 ((r2.mono e3).mono e5) r5 eg' fun F' G' H' v a b c d => p5 F' G' H' a b c v d
    · exact ⟨false, r3.bl_inv, (p4.mono g3 e3).here I3 _ (.bl _)⟩
    · exact p4.elim
theorem dt_chain {op op' : CmpOp} {r r' : R2} {g g' : D → D → Option D} {a b c : Expr} {fa fb fc : M D} {pos : Pos} (ho : OpR X (compareOp op) r) (ho' : OpR X (compareOp op') r') (hs : OpS X.K r g) (hs' : OpS X.K r' g') (hb' : ∀ x y z, g' x y = some z → ∃ b, z = .bool b)
    (ha : DE X T B W a fa) (hb : DE X T B W b fb) (hc : DE X T B W c fc) (hm : lastMarks [op, op'] [b, c] = false := by with_unfolding_all rfl) : DT X T B W (.Compare a [op, op'] [b, c] pos) (mTru (mChain g g' fa fb fc)) :=
  pt_weak (pt_chain ho ho' ha hb hc hm) fun σ H Q h => te_test (t := tChain r r' (TEd X T B W fa) (TEd X T B W fb) (TEd X T B W fc)) (fun Q h => te_chain hs hs' h) h fun s d s' e => by
    unfold mChain M.bind at e
    cases e1 : fa s with
    | bad => rw [e1] at e; cases e
    | ex c s' => rw [e1] at e; cases e
    | ok x s1 =>
      rw [e1] at e
      cases e2 : fb s1 with
      | bad => simp only [Res.bind, e2] at e; cases e
      | ex c s' => simp only [Res.bind, e2] at e; cases e
      | ok y s2 =>
        simp only [Res.bind, e2, lift] at e
        cases e3 : g x y with
        | none => rw [e3] at e; cases e
        | some z =>
          rw [e3] at e
          simp only at e
          split at e
          · cases e4 : fc s2 with
            | bad => simp only [Res.bind, e4] at e; cases e
            | ex c s' => simp only [Res.bind, e4] at e; cases e
            | ok w s3 =>
              simp only [Res.bind, e4] at e
              cases e5 : g' y w with
              | none => rw [e5] at e; cases e
              | some z' =>
                rw [e5] at e
                cases e
                exact hb' _ _ _ e5
          · cases e
            exact ⟨false, rfl⟩
          · cases e
theorem dt_lele {a b c : Expr} {fa fb fc : M D} {pos : Pos} (ha : DE X T B W a fa) (hb : DE X T B W b fb) (hc : DE X T B W c fc) (hm : lastMarks [.LtE, .LtE] [b, c] = false := by with_unfolding_all rfl) : DT X T B W (.Compare a [.LtE, .LtE] [b, c] pos) (mTru (mChain dLe dLe fa fb fc)) :=
  dt_chain (OpR.or op_le op_le_str) (OpR.or op_le op_le_str) ops_cmp ops_cmp dCmp_bool ha hb hc hm
/-! ### items -/
def dIx : D → D → Option D
  | .list xs, .int i => atI xs i
  | .tuple xs, .int i => atI xs i
  | .str x, .int i => if x.length ≤ lim then (atI x.cps.toList i).map fun c => .str ⟨#[c]⟩ else none
  | _, _ => none
theorem RpA.atI {K : PySem.W.Frag} {G : Hp} {vs : List V} {ds : List D} {i : Int} {d : D} (r : RpA K G vs ds) (h : L2.atI ds i = some d) : ∃ v, L2.atI vs i = some v ∧ Rp K G v d := by
  unfold L2.atI at h ⊢
  rw [r.len]
  cases e : ixN ds.length i with
  | none => rw [e] at h; cases h
  | some j =>
    rw [e] at h
    exact r.get h
theorem ops_ix {K : PySem.W.Frag} : OpS K (rIx K) dIx := ops_val fun G H x y dx dy dz Q e rx ry eg q => by
  unfold dIx at eg
  split at eg
  · obtain ⟨a, xs, rfl, hs, r⟩ := rx.lst_inv
    obtain ⟨v, h1, h2⟩ := r.atI eg
    exact .inl ⟨a, xs, _, v, rfl, ry.int_inv, ex_l e hs, h1, q v h2⟩
  · obtain ⟨a, xs, rfl, hs, r⟩ := rx.tup_inv
    obtain ⟨v, h1, h2⟩ := r.atI eg
    exact .inr (.inl ⟨a, xs, _, v, rfl, ry.int_inv, ex_t e hs, h1, q v h2⟩)
  · split at eg
    · rename_i x i hl
      cases h : atI x.cps.toList i with
      | none => rw [h] at eg; cases eg
      | some c =>
        rw [h] at eg
        cases eg
        exact .inr (.inr ⟨_, _, c, rx.str_inv, ry.int_inv, lim_le hl, h, q _ (.str _)⟩)
    · cases eg
  · cases eg
theorem de_ix {a b : Expr} {fa fb : M D} {pos : Pos} (ha : DE X T B W a fa) (hb : DE X T B W b fb) (hs : PlainIx b := by intro _ _; rfl) : DE X T B W (.Subscript a b pos) (mOp dIx fa fb) := pe_weak (pe_ix ix_seq ha hb hs) fun _ _ _ h => te_op ops_ix h

/-! ### arguments, displays -/
def mNil : M (List D) := fun s => .ok [] s
def mCons (f : M D) (g : M (List D)) : M (List D) := f.bind fun x => g.bind fun xs => M.ret (x :: xs)
theorem da_nil : DA X T B W [] mNil := pa_weak pa_nil fun σ H Q ⟨F, G, s, I, p⟩ => p.here I [] .nil
theorem da_cons {e : Expr} {es : List Expr} {f : M D} {g : M (List D)} (ha : DE X T B W e f) (hr : DA X T B W es g) (hs : starEach (e :: es) X.env = (false, eval e X.env) :: starEach es X.env := by rfl) : DA X T B W (e :: es) (mCons f g) := pa_weak (pa_cons ha hr hs) fun σ H Q ⟨F, G, s, I, p⟩ =>
  runE I p fun F1 G1 H1 s1 v d g1 e1 I1 r1 p1 => runA I1 p1 fun F2 G2 H2 s2 vs ds g2 e2 I2 r2 p2 => p2.here I2 _ (.cons (r1.mono e2) r2)

/-- a new own object -/
theorem IS.newO {K : PySem.W.Frag} {F G H : Hp} {σ : St} {s : S} (I : IS K T B F G H σ s) {p : Addr} {u : HO} {x : SV} (hp : H p = none) (hx : SlR K B F G (upd H p u) x (some (.ref p))) (nt : ∀ xs, u ≠ .tup xs := by intro xs z; cases z) : IS K T B F G (upd H p u) (some (.ref p) :: σ) (x :: s) :=
  (I.loose hp nt).push hx fun w q i y e1 e2 e3 e4 => by
    cases e1
    obtain ⟨r, w2, f1, f2, f3, f4⟩ := (I.sl i y e2).place e3
    rw [e4] at f1
    cases f1
    rw [hp] at f2
    cases f2
def chk {α : Type} (b : α → Bool) (f : M α) : M α := f.bind fun x => if b x = true then M.ret x else fun _ => .bad
def mTup (f : M (List D)) : M D := mUn (fun xs => if xs.length ≤ lim then some (.tuple xs) else none) f
def mLst (f : M (List D)) : M D := mUn (fun xs => if xs.length ≤ lim then some (.list xs) else none) f
def oLst (f : M (List D)) : M SV := mUn (fun xs => if xs.length ≤ lim then some (.ol false xs) else none) f
theorem lift_inv {α β : Type} {F G : Hp} {σ : St} {Qk : Hp → Hp → β → S → Hp → Prop} {g : α → Option β} {a : α} {s : S} (p : Po X T B W F G σ Qk (lift g a s)) : ∃ b, g a = some b ∧ Po X T B W F G σ Qk (.ok b s) := by
  unfold lift at p
  cases e : g a with
  | none => rw [e] at p; exact p.elim
  | some b => rw [e] at p; exact ⟨b, rfl, p⟩
theorem ite_inv {β : Type} {c : Prop} [Decidable c] {x y : β} (h : (if c then some x else none) = some y) : c ∧ x = y := by
  split at h
  · cases h
    exact ⟨by assumption, rfl⟩
  · cases h
theorem de_tup {es : List Expr} {k : Nat} {f : M (List D)} {pos : Pos} (h : DA X T B W es f) : DE X T B W (.Tuple es k pos) (mTup f) := pe_weak (pe_tup h) fun σ H Q ⟨F, G, s, I, p⟩ =>
  runA I p fun F1 G1 H1 s1 vs ds g1 e1 I1 r1 p1 => by
    obtain ⟨d, eg, p2⟩ := lift_inv p1
    obtain ⟨hl, rfl⟩ := ite_inv eg
    exact ⟨lim_le (by rw [r1.len]; exact hl), fun q hq => p2 F1 _ _ Gr.refl (ex_new I1 hq) (I1.new hq) _ (.tup upd_same (r1.mono (ex_new I1 hq)))⟩
theorem de_lst {es : List Expr} {f : M (List D)} {pos : Pos} (h : DA X T B W es f) : DE X T B W (.List es pos) (mLst f) := pe_weak (pe_lst h) fun σ H Q ⟨F, G, s, I, p⟩ =>
  runA I p fun F1 G1 H1 s1 vs ds g1 e1 I1 r1 p1 => by
    obtain ⟨d, eg, p2⟩ := lift_inv p1
    obtain ⟨hl, rfl⟩ := ite_inv eg
    exact ⟨lim_le (by rw [r1.len]; exact hl), fun q hq => p2 F1 _ _ Gr.refl (ex_new I1 hq) (I1.new hq) _ (.lst (.inl (.inl upd_same)) (r1.mono (ex_new I1 hq)))⟩
theorem do_lst {es : List Expr} {f : M (List D)} {pos : Pos} (h : DA X T B W es f) : DO X T B W (.List es pos) (oLst f) := pe_weak (pe_lst h) fun σ H Q ⟨F, G, s, I, p⟩ =>
  runA I p fun F1 G1 H1 s1 vs ds g1 e1 I1 r1 p1 => by
    obtain ⟨d, eg, p2⟩ := lift_inv p1
    obtain ⟨hl, rfl⟩ := ite_inv eg
    exact ⟨lim_le (by rw [r1.len]; exact hl), fun q hq => p2 F1 G1 _ Gr.refl (Ex.refl _) (I1.loose hq) _ (I1.newO hq ⟨q, vs, rfl, (fun z => nomatch z), upd_same, r1, I1.freshG hq, I1.freshF hq⟩)⟩
/-- data is a thing that may be stored -/
def oD (f : M D) : M SV := mUn (fun d => some (.d d)) f
theorem do_de {e : Expr} {f : M D} (h : DE X T B W e f) : DO X T B W e (oD f) := pe_weak h fun σ H Q ⟨F, G, s, I, p⟩ =>
  runE I p fun F1 G1 H1 s1 v d g1 e1 I1 r1 p1 => by
    obtain ⟨x, eg, p2⟩ := lift_inv p1
    cases eg
    exact p2.here I1 v (I1.pushD r1)
/-- what is made is shared at once -/
def SV.dat : SV → Option D
  | .d x => some x
  | .ol _ xs => some (.list xs)
  | .od _ ks xs => some (.dict ((ks.map kD).zip xs))
  | .fd _ ks xs => some (.dict ((ks.map kT).zip xs))
  | _ => none
def mF (f : M SV) : M D := mUn SV.dat f
theorem IS.shareH {K : PySem.W.Frag} {F G H : Hp} {σ : St} {s : S} {v : V} {x : SV} {d : D} (I : IS K T B F G H (some v :: σ) (x :: s)) (h : x.dat = some d) : (∃ G', Ex G G' ∧ IS K T B F G' H σ s ∧ Rp K G' v d) ∨
    ∃ p u0 u, v = .ref p ∧ H p = some u0 ∧ Mut (some u0) ∧ Cv u0 u ∧ ∀ ob, Ex G (upd G p (.frz ob u)) ∧ IS K T B F (upd G p (.frz ob u)) (upd H p (.frz ob u)) σ s ∧ Rp K (upd G p (.frz ob u)) v d := by
  have sh : x.frz = .d d → ∃ G', Ex G G' ∧ IS K T B F G' H σ s ∧ Rp K G' v d := fun ex => by
    obtain ⟨G', e, J⟩ := I.share (i := 0) rfl
    have J2 : IS K T B F G' H (some v :: σ) (x.frz :: s) := J
    rw [ex] at J2
    obtain ⟨w, e1, e2⟩ := J2.head
    cases e1
    exact ⟨G', e, J2.tail, e2⟩
  have lk : x.lck = some d → ∃ p u0 u, v = .ref p ∧ H p = some u0 ∧ Mut (some u0) ∧ Cv u0 u ∧ ∀ ob, Ex G (upd G p (.frz ob u)) ∧ IS K T B F (upd G p (.frz ob u)) (upd H p (.frz ob u)) σ s ∧ Rp K (upd G p (.frz ob u)) v d := fun ex => by
    obtain ⟨p, u0, u, h1, h2, h3, cv, h4, h5⟩ := I.lock (i := 0) rfl ex
    have h1 : some v = some (V.ref p) := h1
    cases h1
    exact ⟨p, u0, u, rfl, h2, h3, cv, fun ob => ⟨(h5 ob).1, IS.tail (h5 ob).2.1, (h5 ob).2.2⟩⟩
  cases x with
  | un => cases h
  | d y => cases h; exact .inl (sh rfl)
  | ol r xs => cases h; exact .inl (sh rfl)
  | od r ks xs => exact .inr (lk h)
  | fd r ks xs => exact .inr (lk h)
  | fv _ => cases h
  | sp _ _ => cases h
theorem de_do {e : Expr} {f : M SV} (h : DO X T B W e f) : DE X T B W e (mF f) := pe_weak (pe_lk h) fun σ H Q ⟨F, G, s, I, p⟩ =>
  runO I p fun F1 G1 H1 s1 v x g1 e1 I1 p1 => by
    obtain ⟨d, eg, p2⟩ := lift_inv p1
    rcases I1.shareH eg with ⟨G', e', J, r⟩ | ⟨q, u0, u, ev, h2, h3, cv, h4⟩
    · exact .inl (p2 F1 G' H1 Gr.refl e' J v r)
    · exact .inr ⟨q, u0, u, ev, h2, h3, cv, fun ob => p2 F1 _ _ Gr.refl (h4 ob).1 (h4 ob).2.1 v (h4 ob).2.2⟩

/-! ### built-in calls -/
def CallS (K : PySem.W.Frag) (r : List V → Hp → VK → Prop) (g : List D → Option D) : Prop := ∀ (T : List (Addr × Str)) (B : Addr) (F G H : Hp) (σ : St) (s : S) (xs : List V) (ds : List D) (dz : D) (Q : VK), IS K T B F G H σ s → RpA K G xs ds → g ds = some dz →
  (∀ F' G' H' v, Gr T F F' → Ex G G' → IS K T B F' G' H' σ s → Rp K G' v dz → Q v H') → r xs H Q
theorem te_call {r : List V → Hp → VK → Prop} {g : List D → Option D} {fa : M (List D)} (hs : CallS X.K r g) {σ : St} {H : Hp} {Q : VK} (h : TEd X T B W (mUn g fa) σ H Q) : tCB r (TAd X T B W fa) σ H Q := by
  obtain ⟨F, G, s, I, p⟩ := h
  refine runA I p fun F1 G1 H1 s1 vs ds g1 e1 I1 r1 p1 => ?_
  obtain ⟨d, eg, p2⟩ := lift_inv p1
  exact hs T B F1 G1 H1 σ s1 vs ds d Q I1 r1 eg fun F' G' H' v a b c e => p2 F' G' H' a b c v e
theorem calls_val {K : PySem.W.Frag} {r : List V → Hp → VK → Prop} {g : List D → Option D} (h : ∀ (G H : Hp) (xs : List V) (ds : List D) (dz : D) (Q : VK), Ex G H → RpA K G xs ds → g ds = some dz → (∀ v, Rp K G v dz → Q v H) → r xs H Q) : CallS K r g :=
  fun T B F G H σ s xs ds dz Q I rx eg q => h G H xs ds dz Q I.gh rx eg fun v rv => q F G H v Gr.refl (Ex.refl G) I rv
theorem de_callB {x : Str} {p pos : Pos} {id : String} {e : Expr} {es : List Expr} {r : List V → Hp → VK → Prop} {g : List D → Option D} {fa : M (List D)} (hc : CallR X (.builtin id) r) (hs : CallS X.K r g) (hg : Gl X x) (hm : X.mg x = none) (hv : bootBuiltins x = some (.builtin id)) (ha : DA X T B W (e :: es) fa)
    (hn : x ≠ "__name__" := by decide) (hdb : (x == ("__debug__" : Str)) = false := by decide) (he : starEach (e :: es) X.env = (false, eval e X.env) :: starEach es X.env := by rfl) (hpl : (backTo pos (starEach es X.env)).any (·.1) = false := by rfl) :
    DE X T B W (.Call (.Name x p) (e :: es) [] pos) (mUn g fa) := pe_weak (pe_callB hc hg hm hv ha hn hdb he hpl) fun _ _ _ h => te_call hs h
/-- len -/
def dLen : List D → Option D
  | [.str x] => if x.length ≤ lim then some (.int x.length) else none
  | [.list xs] => some (.int xs.length)
  | [.tuple xs] => some (.int xs.length)
  | _ => none
theorem RpA.inv1 {K : PySem.W.Frag} {G : Hp} {xs : List V} {d : D} (h : RpA K G xs [d]) : ∃ v, xs = [v] ∧ Rp K G v d := by
  cases h with
  | cons h r => cases r; exact ⟨_, rfl, h⟩
theorem calls_len {K : PySem.W.Frag} : CallS K (fun xs H Q => ∃ x n, xs = [x] ∧ LenV K x H n ∧ Q (.int n) H) dLen := calls_val fun G H xs ds dz Q e rx eg q => by
  unfold dLen at eg
  split at eg
  · obtain ⟨hl, rfl⟩ := ite_inv eg
    obtain ⟨v, rfl, h⟩ := rx.inv1
    exact ⟨v, _, rfl, by rw [h.str_inv]; exact ⟨lim_le hl, rfl⟩, q _ (.int _)⟩
  · cases eg
    obtain ⟨v, rfl, h⟩ := rx.inv1
    obtain ⟨a, xs, rfl, hs, r⟩ := h.lst_inv
    exact ⟨_, _, rfl, .inl ⟨xs, ex_l e hs, r.len.symm⟩, q _ (.int _)⟩
  · cases eg
    obtain ⟨v, rfl, h⟩ := rx.inv1
    obtain ⟨a, xs, rfl, hs, r⟩ := h.tup_inv
    exact ⟨_, _, rfl, .inr ⟨xs, ex_t e hs, r.len.symm⟩, q _ (.int _)⟩
  · cases eg
theorem de_len {e : Expr} {p pos : Pos} {fa : M (List D)} (hm : X.mg "len" = none) (ha : DA X T B W [e] fa) (hg : Gl X "len" := by rfl) (he : starEach [e] X.env = (false, eval e X.env) :: starEach [] X.env := by rfl) (hpl : (backTo pos (starEach [] X.env)).any (·.1) = false := by rfl) :
    DE X T B W (.Call (.Name "len" p) [e] [] pos) (mUn dLen fa) := de_callB call_len calls_len hg hm PySem.boot_len ha (by decide) (by decide) he hpl
/-- abs -/
def dAbs : List D → Option D
  | [.int i] => some (.int (if i < 0 then -i else i))
  | _ => none
/-- int of an int, of a bool -/
def dInt : List D → Option D
  | [.int i] => some (.int i)
  | [.bool k] => some (.int (if k then 1 else 0))
  | _ => none
/-- all, any, of a list of bools -/
def bools : List D → Option (List Bool)
  | [] => some []
  | .bool b :: r => (bools r).map (b :: ·)
  | _ :: _ => none
theorem bools_rp {K : PySem.W.Frag} {G : Hp} : ∀ {vs : List V} {ds : List D} {bs : List Bool}, RpA K G vs ds → bools ds = some bs → vs = bs.map V.bl
  | _, _, _, .nil, h => by
    cases h
    rfl
  | _, _, bs, .cons (d := d) (ds := ds) h r, hb => by
    cases d with
    | bool b =>
      have hb2 : (bools ds).map (b :: ·) = some bs := hb
      cases e : bools ds with
      | none => rw [e] at hb2; cases hb2
      | some cs =>
        rw [e] at hb2
        cases hb2
        rw [h.bl_inv, bools_rp r e]
        rfl
    | _ => cases hb
def dAll : List D → Option D
  | [.list xs] => (bools xs).map fun bs => .bool (bs.all id)
  | _ => none
def dAny : List D → Option D
  | [.list xs] => (bools xs).map fun bs => .bool (bs.any id)
  | _ => none
theorem calls_all {K : PySem.W.Frag} : CallS K (rAll K) dAll := calls_val fun G H xs ds dz Q e rx eg q => by
  unfold dAll at eg
  split at eg
  · rename_i ys
    cases hb : bools ys with
    | none => rw [hb] at eg; cases eg
    | some bs =>
      rw [hb] at eg
      cases eg
      obtain ⟨v, rfl, h⟩ := rx.inv1
      obtain ⟨a, zs, rfl, hs, r⟩ := h.lst_inv
      exact ⟨a, bs, rfl, by rw [← bools_rp r hb]; exact ex_l e hs, q _ (.bl _)⟩
  · cases eg
theorem de_all {e : Expr} {p pos : Pos} {fa : M (List D)} (hc : X.calm = true) (hm : X.mg "all" = none) (ha : DA X T B W [e] fa) (hg : Gl X "all" := by rfl) (he : starEach [e] X.env = (false, eval e X.env) :: starEach [] X.env := by rfl) (hpl : (backTo pos (starEach [] X.env)).any (·.1) = false := by rfl) :
    DE X T B W (.Call (.Name "all" p) [e] [] pos) (mUn dAll fa) := de_callB (cr_all hc) calls_all hg hm (by decide +kernel) ha (by decide) (by decide) he hpl
/-- intsD of a list -/
def intsD : List D → Option (List Int)
  | [] => some []
  | .int b :: r => (intsD r).map (b :: ·)
  | _ :: _ => none
def dSum : List D → Option D
  | [.list xs] => (intsD xs).map fun bs => .int bs.sum
  | _ => none
/-- max, min: of a list of intsD, of two intsD -/
def maxI : List Int → Option Int
  | [] => none
  | x :: r => some (r.foldl max x)
def minI : List Int → Option Int
  | [] => none
  | x :: r => some (r.foldl min x)
def dMax : List D → Option D
  | [.list xs] => ((intsD xs).bind maxI).map .int
  | [.int a, .int b] => some (.int (if b > a then b else a))
  | _ => none
def dMin : List D → Option D
  | [.list xs] => ((intsD xs).bind minI).map .int
  | [.int a, .int b] => some (.int (if b < a then b else a))
  | _ => none
/-- list(xs): a new one -/
def items : D → Option (List D)
  | .list xs => some xs
  | .tuple xs => some xs
  | _ => none
def oList (f : M D) : M SV := mUn (fun x => (items x).map (.ol false ·)) f
theorem items_rp {K : PySem.W.Frag} {G : Hp} {v : V} {d : D} {ds : List D} (h : Rp K G v d) (e : items d = some ds) : ∃ a xs, v = .ref a ∧ (SqL K G a xs ∨ SqT K G a xs) ∧ RpA K G xs ds := by
  cases h with
  | lst hs r => cases e; exact ⟨_, _, rfl, .inl hs, r⟩
  | tup hs r => cases e; exact ⟨_, _, rfl, .inr (.inl (.inl hs)), r⟩
  | tpK hs => cases e; exact ⟨_, _, rfl, .inr (.inr hs), rpa_ints _⟩
  | _ => cases e
theorem do_list {e : Expr} {p pos : Pos} {fa : M D} (hm : X.mg "list" = none) (ha : DE X T B W e fa) (hg : Gl X "list" := by rfl) (he : starEach [e] X.env = (false, eval e X.env) :: starEach [] X.env := by rfl) (hpl : (backTo pos (starEach [] X.env)).any (·.1) = false := by rfl) :
    DO X T B W (.Call (.Name "list" p) [e] [] pos) (oList fa) := pe_weak (pe_callTy call_list_of hg hm (by decide +kernel) (pa_cons ha pa_nil he) (by decide) (by decide) he hpl) fun σ H Q ⟨F, G, s, I, p⟩ =>
  runE I p fun F1 G1 H1 s1 v d g1 e1 I1 r1 p1 => by
    obtain ⟨x, eg, p2⟩ := lift_inv p1
    cases ei : items d with
    | none => rw [ei] at eg; cases eg
    | some ds =>
      rw [ei] at eg
      cases eg
      obtain ⟨a, xs, rfl, hs, r⟩ := items_rp r1 ei
      refine ⟨a, xs, rfl, hs.imp (ex_l I1.gh) (ex_t I1.gh), fun q hq => ?_⟩
      exact p2 F1 G1 _ Gr.refl (Ex.refl _) (I1.loose hq) _ (I1.newO hq ⟨q, xs, rfl, (fun z => nomatch z), upd_same, r, I1.freshG hq, I1.freshF hq⟩)
/-- isinstance(x, T), T a built-in type -/
def tyD : D → Option String
  | .none => some "NoneType"
  | .bool _ => some "bool"
  | .int _ => some "int"
  | .str _ => some "str"
  | .list _ => some "list"
  | .tuple _ => some "tuple"
  | .dict _ => none
theorem ty_rp {K : PySem.W.Frag} {G H : Hp} {v : V} {d : D} {t : String} (e : Ex G H) (h : Rp K G v d) (ht : tyD d = some t) : TyX K H v (.type t) := by
  cases h with
  | non => cases ht; exact .base .non
  | bl b => cases ht; exact .base (.bl b)
  | int i => cases ht; exact .base (.int i)
  | str x => cases ht; exact .base (.str x)
  | lst hs r =>
    cases ht
    rcases hs with (h | ⟨o, h⟩) | ⟨o, its, n, h1, h2, h3, h4, h5⟩
    · exact .base (.lst (e _ _ h))
    · exact .base (.frz (e _ _ h))
    · exact .kList h1 h2
  | tup hs r =>
    cases ht
    exact .base (.tup (e _ _ hs))
  | tpK hs =>
    cases ht
    obtain ⟨o, its, n, h1, h2, h3, h4⟩ := hs
    exact .kTuple h1 h2
  | dct hs _ _ => cases ht
  | dcT hs _ _ _ => cases ht
def dIsi (t : String) (d : D) : Option D := ((tyD d).bind fun a => kitB a t).map .bool
theorem de_isi {e : Expr} {t : String} {nm : Str} {p p2 pos : Pos} {fa : M D} (hm : X.mg "isinstance" = none) (hmt : X.mg nm = none) (hv : bootBuiltins nm = some (.type t)) (ha : DE X T B W e fa) (hgt : Gl X nm) (hg : Gl X "isinstance" := by rfl) (hn : nm ≠ "__name__" := by decide) (hdb : (nm == ("__debug__" : Str)) = false := by decide)
    (he : starEach [e, .Name nm p2] X.env = (false, eval e X.env) :: starEach [.Name nm p2] X.env := by rfl) (he2 : starEach [.Name nm p2] X.env = (false, eval (.Name nm p2) X.env) :: starEach [] X.env := by rfl) (hpl : (backTo pos (starEach [.Name nm p2] X.env)).any (·.1) = false := by rfl) :
    DE X T B W (.Call (.Name "isinstance" p) [e, .Name nm p2] [] pos) (mUn (dIsi t) fa) := pe_weak (pe_callB call_isi hg hm (by decide +kernel) (pa_cons ha (pa_cons (pe_bltn (v := .ty t) hgt hmt hv rfl hn hdb) pa_nil he2) he) (by decide) (by decide) he hpl) fun σ H Q ⟨F, G, s, I, p⟩ =>
  runE I p fun F1 G1 H1 s1 v d g1 e1 I1 r1 p1 => by
    obtain ⟨x, eg, p2⟩ := lift_inv p1
    unfold dIsi at eg
    cases et : tyD d with
    | none => rw [et] at eg; cases eg
    | some a =>
      rw [et] at eg
      cases ek : kitB a t with
      | none => simp [ek] at eg
      | some b =>
        simp [ek] at eg
        subst eg
        exact ⟨v, .ty t, .type a, .type t, b, rfl, .ty t, ty_rp I1.gh r1 et, kit_ty ek, p2.here I1 _ (.bl _)⟩
end
end DL
set_option Elab.async false
set_option linter.all false
set_option maxRecDepth 100000
set_option maxHeartbeats 4000000
/-! DL5: statements -/
namespace DL
open PySem PySem.Spec L2
open PyProof.Rows hiding St
open Evl (Ex ex_l ex_t ex_rd)

section
variable {X : Cx} {T : List (Addr × Str)} {B : Addr} {W : WX} {F F1 G G1 H : Hp} {σ : St} {s : S} {E : Ends}
theorem PoS.mono {o : Out} (h : PoS X T B W F G E o) (g : Gr T F F1) (e : Ex G G1) : PoS X T B W F1 G1 E o := by
  cases o with
  | nx s' => exact fun F' G' H' σ' g' e' => h F' G' H' σ' (g.trans g') (e.trans e')
  | rt v s' => exact fun F' G' H' σ' v g' e' => h F' G' H' σ' v (g.trans g') (e.trans e')
  | bk s' => exact fun F' G' H' σ' g' e' => h F' G' H' σ' (g.trans g') (e.trans e')
  | ct s' => exact fun F' G' H' σ' g' e' => h F' G' H' σ' (g.trans g') (e.trans e')
  | ex c s' => exact fun σ' => (h σ').mono g e
  | bad => exact h
theorem PoS.out {α : Type} {r : Res α} {k : α → S → Out} (h : PoS X T B W F G E (r.out k)) : Po X T B W F G σ (fun F' G' a s' H' => IS X.K T B F' G' H' σ s' ∧ PoS X T B W F' G' E (k a s')) r := by
  cases r with
  | ok a s' => exact fun F' G' H' g' e' I => ⟨I, PoS.mono h g' e'⟩
  | ex c s' => exact h σ
  | bad => exact h
/-- an evaluation within a statement -/
theorem outE {fa : M D} {k : D → S → Out} {Q : VK} (I : IS X.K T B F G H σ s) (p : PoS X T B W F G E ((fa s).out k))
    (q : ∀ F' G' H' s' v d, Gr T F F' → Ex G G' → IS X.K T B F' G' H' σ s' → Rp X.K G' v d → PoS X T B W F' G' E (k d s') → Q v H') : TEd X T B W fa σ H Q :=
  ⟨F, G, s, I, (p.out (σ := σ)).imp fun F' G' d s' H' g e I' r v rv => q F' G' H' s' v d g e I' rv r.2⟩
theorem outO {fa : M SV} {k : SV → S → Out} {Q : VK} (I : IS X.K T B F G H σ s) (p : PoS X T B W F G E ((fa s).out k))
    (q : ∀ F' G' H' s' v x, Gr T F F' → Ex G G' → IS X.K T B F' G' H' (some v :: σ) (x :: s') → PoS X T B W F' G' E (k x s') → Q v H') : TEo X T B W fa σ H Q :=
  ⟨F, G, s, I, (p.out (σ := σ)).imp fun F' G' x s' H' g e I' r v rv => q F' G' H' s' v x g e rv r.2⟩
theorem outT {fa : M Bool} {k : Bool → S → Out} {Q : Bool → Hp → Prop} (I : IS X.K T B F G H σ s) (p : PoS X T B W F G E ((fa s).out k))
    (q : ∀ F' G' H' s' b, Gr T F F' → Ex G G' → IS X.K T B F' G' H' σ s' → PoS X T B W F' G' E (k b s') → Q b H') : TTd X T B W fa σ H Q :=
  ⟨F, G, s, I, (p.out (σ := σ)).imp fun F' G' b s' H' g e I' r => q F' G' H' s' b g e I' r.2⟩
theorem PoS.nxt {s' : S} {σ' : St} (h : PoS X T B W F G E (.nx s')) (I : IS X.K T B F G H σ' s') : E.nx σ' H := h F G H σ' Gr.refl (Ex.refl G) I
end

/-! ### blocks -/
def gSeq (g1 g2 : S → Out) : S → Out := fun s => (g1 s).andThen g2
def gNil : S → Out := fun s => .nx s
section
variable {X : Cx} {T : List (Addr × Str)} {B : Addr} {W : WX}
theorem PoS.thn {F G : Hp} {E : Ends} {o : Out} {g2 : S → Out} (h : PoS X T B W F G E (o.andThen g2)) : PoS X T B W F G { E with nx := TSd X T B W g2 E } o := by
  cases o with
  | nx s' => exact fun F' G' H' σ' g' e' I' => ⟨F', G', s', I', PoS.mono h g' e'⟩
  | rt v s' => exact h
  | bk s' => exact h
  | ct s' => exact h
  | ex c s' => exact h
  | bad => exact h
theorem dss_nil : DSs X T B W [] gNil := pss_weak pss_nil fun D σ H ⟨F, G, s, I, p⟩ => p.nxt I
theorem dss_cons {st : Stmt} {rest : List Stmt} {g1 g2 : S → Out} (h1 : DS X T B W st g1) (h2 : DSs X T B W rest g2) : DSs X T B W (st :: rest) (gSeq g1 g2) := pss_weak (pss_cons h1 h2) fun D σ H ⟨F, G, s, I, p⟩ => ⟨F, G, s, I, p.thn⟩
theorem dss_one {st : Stmt} {g : S → Out} (h1 : DS X T B W st g) : DSs X T B W [st] g := pss_one h1

/-! ### plain statements -/
def gSet (i : Nat) (f : M D) : S → Out := fun s => (f s).out fun d s1 => .nx (s1.set i (.d d))
def gSetO (i : Nat) (f : M SV) : S → Out := fun s => (f s).out fun x s1 => .nx (s1.set i x)
theorem ds_set (i : Nat) {x : Str} {e : Expr} {f : M D} {pos pos' : Pos} (hN : X.N.Nodup) (h : DE X T B W e f) (hi : X.N[i]? = some x := by rfl) (hx : Loc X.env.scope x := by first | exact Or.inl rfl | exact Or.inr rfl) (hs : swapsWith e (some (.Name x pos')) pos.line X.env = pure false := by rfl)
    (hf : X.fn x = true ∨ X.env.scope.names.lookup x = some .local := by first | exact .inl rfl | exact .inr rfl | assumption) : DS X T B W (.Assign [.Name x pos'] e pos) (gSet i f) := ps_weak (ps_set hN hi hx h hs hf) fun D σ H ⟨F, G, s, I, p⟩ =>
  outE I p fun F1 G1 H1 s1 v d g1 e1 I1 r1 p1 => p1.nxt (I1.storeD r1 i)
theorem ds_setO (i : Nat) {x : Str} {e : Expr} {f : M SV} {pos pos' : Pos} (hN : X.N.Nodup) (h : DO X T B W e f) (hi : X.N[i]? = some x := by rfl) (hx : Loc X.env.scope x := by first | exact Or.inl rfl | exact Or.inr rfl) (hs : swapsWith e (some (.Name x pos')) pos.line X.env = pure false := by rfl)
    (hf : X.fn x = true ∨ X.env.scope.names.lookup x = some .local := by first | exact .inl rfl | exact .inr rfl | assumption) : DS X T B W (.Assign [.Name x pos'] e pos) (gSetO i f) := ps_weak (ps_set hN hi hx h hs hf) fun D σ H ⟨F, G, s, I, p⟩ =>
  outO I p fun F1 G1 H1 s1 v x g1 e1 I1 p1 => p1.nxt (I1.store i)
def gRet (f : M SV) : S → Out := fun s => (f s).out fun x s1 => .rt x s1
theorem ds_ret {e : Expr} {f : M SV} {pos : Pos} (h : DO X T B W e f) : DS X T B W (.Return (some e) pos) (gRet f) := ps_weak (ps_ret h) fun D σ H ⟨F, G, s, I, p⟩ =>
  outO I p fun F1 G1 H1 s1 v x g1 e1 I1 p1 => p1 F1 G1 H1 σ v Gr.refl (Ex.refl _) I1
/-- a name that holds an own thing is handed out -/
def oMove (i : Nat) : M SV := fun s => match s[i]? with
  | some (.d x) => .ok (.d x) s
  | some (.ol false xs) => .ok (.ol false xs) (s.set i .un)
  | some (.od false ks xs) => .ok (.od false ks xs) (s.set i .un)
  | some (.fd false ks xs) => .ok (.fd false ks xs) (s.set i .un)
  | some (.sp false z) => .ok (.sp false z) (s.set i .un)
  | some (.fv x) => .ok (.fv x) s
  | _ => .bad
theorem do_move (i : Nat) {x : Str} {pos : Pos} (hN : X.N[i]? = some x := by rfl) (hv : Vis X.env.scope x := by first | exact Or.inl rfl | exact Or.inr (Or.inl rfl) | exact Or.inr (Or.inr rfl)) (hd : (x == ("__debug__" : Str)) = false := by decide)
    (hcd : (x == ("__classdict__" : Str)) = false := by decide) : DO X T B W (.Name x pos) (oMove i) := pe_weak (pe_var (i := i) hN hv hd hcd) fun σ H Q ⟨F, G, s, I, p⟩ => by
  unfold oMove at p
  have go : ∀ {y : SV}, s[i]? = some y → y.own = true → ∀ v, slA σ i = some v → IS X.K T B F G H (some v :: σ) (y :: s.set i .un) := fun {y} e ow v hv => by
    have J := I.blur i
    refine J.push (by rw [← hv]; exact I.sl i y e) fun w q j z e1 e2 e3 e4 => ?_
    have e5 : i ≠ j ∧ s[j]? = some z := by
      rw [List.getElem?_set] at e2
      split at e2
      · split at e2
        · cases e2
          cases e3
        · cases e2
      · exact ⟨by assumption, e2⟩
    exact I.ap i j y z q e5.1 e e5.2 ow e3 (by rw [hv, e1]) e4
  cases e : s[i]? with
  | none => rw [e] at p; exact p.elim
  | some y =>
    rw [e] at p
    cases y with
    | un => exact p.elim
    | d z =>
      obtain ⟨v, h1, h2⟩ := I.dat e
      exact ⟨v, h1, p.here I v (I.pushD h2)⟩
    | ol r xs =>
      cases r with
      | true => exact p.elim
      | false =>
        obtain ⟨q, u, e1, _⟩ := (I.sl i _ e).place rfl
        exact ⟨_, slA_some e1, p F G H Gr.refl (Ex.refl _) (I.blur i) _ (go e rfl _ e1)⟩
    | od r ks xs =>
      cases r with
      | true => exact p.elim
      | false =>
        obtain ⟨q, u, e1, _⟩ := (I.sl i _ e).place rfl
        exact ⟨_, slA_some e1, p F G H Gr.refl (Ex.refl _) (I.blur i) _ (go e rfl _ e1)⟩
    | fd r ks xs =>
      cases r with
      | true => exact p.elim
      | false =>
        obtain ⟨q, u, e1, _⟩ := (I.sl i _ e).place rfl
        exact ⟨_, slA_some e1, p F G H Gr.refl (Ex.refl _) (I.blur i) _ (go e rfl _ e1)⟩
    | sp r z =>
      cases r with
      | true => exact p.elim
      | false =>
        obtain ⟨q, u, e1, _⟩ := (I.sl i _ e).place rfl
        exact ⟨_, slA_some e1, p F G H Gr.refl (Ex.refl _) (I.blur i) _ (go e rfl _ e1)⟩
    | fv y =>
      have h1 : slA σ i = some (.ref (He.ga X.K y)) := I.sl i _ e
      exact ⟨_, slA_some h1, p.here I _ (I.push (x := .fv y) rfl fun w => by cases w)⟩
def gIf (t : M Bool) (g1 g2 : S → Out) : S → Out := fun s => (t s).out fun b s1 => if b = true then g1 s1 else g2 s1
theorem ds_if {c : Expr} {a b : List Stmt} {t : M Bool} {g1 g2 : S → Out} {pos : Pos} (hc : DT X T B W c t) (ha : DSs X T B W a g1) (hb : DSs X T B W b g2) : DS X T B W (.If c a b pos) (gIf t g1 g2) := ps_weak (ps_if hc ha hb) fun D σ H ⟨F, G, s, I, p⟩ =>
  outT I p fun F1 G1 H1 s1 b g1 e1 I1 p1 => by
    cases b with
    | true => exact ⟨F1, G1, s1, I1, p1⟩
    | false => exact ⟨F1, G1, s1, I1, p1⟩
def gDrop (f : M D) : S → Out := fun s => (f s).out fun _ s1 => .nx s1
theorem ds_expr {e : Expr} {f : M D} {pos : Pos} (h : DE X T B W e f) (hs : swapsWith e none pos.line X.env = pure false := by rfl) : DS X T B W (.Expr e pos) (gDrop f) := ps_weak (ps_expr h hs) fun D σ H ⟨F, G, s, I, p⟩ =>
  outE I p fun F1 G1 H1 s1 v d g1 e1 I1 r1 p1 => p1.nxt I1
/-! ### targets -/
def TGd (X : Cx) (T : List (Addr × Str)) (B : Addr) (js : List Nat) (tgt : D → S → Option S) : TG := fun v σ H Q => ∃ F G s d s', IS X.K T B F G H σ s ∧ Rp X.K G v d ∧ tgt d s = some s' ∧ ∀ σ', IS X.K T B F G H σ' s' → σ'.length = σ.length → (∀ k, k ∉ js → σ'[k]? = σ[k]?) → Q σ' H
def TGsd (X : Cx) (T : List (Addr × Str)) (B : Addr) (js : List Nat) (tgt : List D → S → Option S) : TGs := fun vs σ H Q => ∃ F G s ds s', IS X.K T B F G H σ s ∧ RpA X.K G vs ds ∧ tgt ds s = some s' ∧ ∀ σ', IS X.K T B F G H σ' s' → σ'.length = σ.length → (∀ k, k ∉ js → σ'[k]? = σ[k]?) → Q σ' H
def DG (X : Cx) (T : List (Addr × Str)) (B : Addr) (js : List Nat) (e : Expr) (tgt : D → S → Option S) : Prop := PG X e (TGd X T B js tgt)
def DGs (X : Cx) (T : List (Addr × Str)) (B : Addr) (js : List Nat) (es : List Expr) (tgt : List D → S → Option S) : Prop := PGs X es (TGsd X T B js tgt)
theorem pg_weak {X : Cx} {e : Expr} {t t' : TG} (h : PG X e t) (q : ∀ v σ H Q, t' v σ H Q → t v σ H Q) : PG X e t' := ⟨fun pins s σ H v u Q I r z => h.run pins s σ H v u Q I r (q v σ H Q z)⟩
def tName (i : Nat) : D → S → Option S := fun d s => some (s.set i (.d d))
theorem dg_name (i : Nat) {x : Str} {pos : Pos} (hN : X.N.Nodup) (hi : X.N[i]? = some x := by rfl) (hx : Loc X.env.scope x := by first | exact Or.inl rfl | exact Or.inr rfl) (hf : X.fn x = true ∨ X.env.scope.names.lookup x = some .local := by first | exact .inl rfl | exact .inr rfl | assumption) :
    DG X T B [i] (.Name x pos) (tName i) := pg_weak (pg_name hN hi hx hf) fun v σ H Q ⟨F, G, s, d, s', I, r, e, q⟩ => by
  cases e
  exact q _ (I.storeD r i) (List.length_set) fun k hk => List.getElem?_set_ne fun z => hk (by rw [z]; exact List.mem_singleton.mpr rfl)
def tNils : List D → S → Option S
  | [], s => some s
  | _, _ => none
def tConss (t : D → S → Option S) (r : List D → S → Option S) : List D → S → Option S
  | d :: ds, s => (t d s).bind (r ds)
  | [], _ => none
def tTupT (r : List D → S → Option S) (n : Nat) : D → S → Option S
  | .tuple ds, s => if ds.length = n then r ds s else none
  | .list ds, s => if ds.length = n then r ds s else none
  | _, _ => none
/-- target = e -/
def gAsg (f : M D) (tgt : D → S → Option S) : S → Out := fun s => (f s).out fun d s1 => match tgt d s1 with
  | some s2 => .nx s2
  | none => .bad
/-- a, b = e1, e2 -/
def gPar (i j : Nat) (f : M (List D)) : S → Out := fun s => (f s).out fun ds s1 => match ds with
  | [a, b] => .nx ((s1.set i (.d a)).set j (.d b))
  | _ => .bad
/-- x += e -/
def gAug (i : Nat) (op : D → D → Option D) (f : M D) : S → Out := fun s => match s[i]? with
  | some (.d x) => (f s).out fun y s1 => match op x y with
    | some z => .nx (s1.set i (.d z))
    | none => .bad
  | _ => .bad
def dAddI : D → D → Option D := dII (fun _ _ => true) fun a b => .int (a + b)
def dSubI : D → D → Option D := dII (fun _ _ => true) fun a b => .int (a - b)
/-! ### loops -/
def forL (tgt : D → S → Option S) (g : S → Out) : List D → S → Out
  | [], s => .nx s
  | x :: r, s => match tgt x s with
    | none => .bad
    | some s1 => match g s1 with
      | .nx s2 => forL tgt g r s2
      | .ct s2 => forL tgt g r s2
      | .bk s2 => .nx s2
      | .rt v s2 => .rt v s2
      | .ex c s2 => .ex c s2
      | .bad => .bad
/-- what holds ahead of a turn -/
def PvL (X : Cx) (T : List (Addr × Str)) (B : Addr) (W : WX) (F G : Hp) (E : Ends) (tgt : D → S → Option S) (g : S → Out) (items : List D) (i : Nat) (σ' : St) (H' : Hp) : Prop :=
  ∃ F' G' s', Gr T F F' ∧ Ex G G' ∧ IS X.K T B F' G' H' σ' s' ∧ PoS X T B W F' G' E (forL tgt g (items.drop i) s')
theorem turnL {F G : Hp} {E : Ends} {tgt : D → S → Option S} {js : List Nat} {g : S → Out} {items : List D} {i : Nat} {σ' : St} {H' : Hp} {v : V} {d : D} (hv : items[i]? = some d) (p : PvL X T B W F G E tgt g items i σ' H') (rv : ∀ G', Ex G G' → Rp X.K G' v d) :
    TGd X T B js tgt v σ' H' fun σ2 H2 => TSd X T B W g { E with nx := PvL X T B W F G E tgt g items (i + 1), ct := PvL X T B W F G E tgt g items (i + 1), bk := E.nx } σ2 H2 := by
  obtain ⟨F1, G1, s1, g1, e1, I1, p1⟩ := p
  have ed : items.drop i = d :: items.drop (i + 1) := by
    obtain ⟨h, e⟩ := List.getElem?_eq_some_iff.mp hv
    rw [List.drop_eq_getElem_cons h, e]
  rw [ed] at p1
  have p2 : PoS X T B W F1 G1 E (match tgt d s1 with
    | none => .bad
    | some s1 => match g s1 with
      | .nx s2 => forL tgt g (items.drop (i + 1)) s2
      | .ct s2 => forL tgt g (items.drop (i + 1)) s2
      | .bk s2 => .nx s2
      | .rt v s2 => .rt v s2
      | .ex c s2 => .ex c s2
      | .bad => .bad) := p1
  cases et : tgt d s1 with
  | none => rw [et] at p2; exact p2.elim
  | some s2 =>
    rw [et] at p2
    refine ⟨F1, G1, s1, d, s2, I1, rv G1 e1, et, fun σ2 I2 _ _ => ⟨F1, G1, s2, I2, ?_⟩⟩
    simp only at p2
    cases eg : g s2 with
    | nx s3 => rw [eg] at p2; exact fun F' G' H' σ' a b c => ⟨F', G', s3, g1.trans a, e1.trans b, c, p2.mono a b⟩
    | ct s3 => rw [eg] at p2; exact fun F' G' H' σ' a b c => ⟨F', G', s3, g1.trans a, e1.trans b, c, p2.mono a b⟩
    | bk s3 => rw [eg] at p2; exact fun F' G' H' σ' a b c => p2 F' G' H' σ' a b c
    | rt v s3 => rw [eg] at p2; exact p2
    | ex c s3 => rw [eg] at p2; exact p2
    | bad => rw [eg] at p2; exact p2
theorem doneL {F G : Hp} {E : Ends} {tgt : D → S → Option S} {g : S → Out} {items : List D} {n : Nat} (hn : items.length ≤ n) {σ' : St} {H' : Hp} (p : PvL X T B W F G E tgt g items n σ' H') : E.nx σ' H' := by
  obtain ⟨F1, G1, s1, g1, e1, I1, p1⟩ := p
  rw [List.drop_eq_nil_of_le hn] at p1
  exact p1.nxt I1
/-- for target in range(..) -/
def rangeD (lo : Int) (n : Nat) : List D := (List.range n).map fun (i : Nat) => .int (lo + (i : Int))
def rngOk (j : Int) : Bool := decide (-1000000000 ≤ j ∧ j ≤ 1000000000)
def gForR1 (fa : M D) (tgt : D → S → Option S) (g : S → Out) : S → Out := fun s => (fa s).out fun d s1 => match d with
  | .int j => if rngOk j = true then forL tgt g (rangeD 0 j.toNat) s1 else .bad
  | _ => .bad
def gForR2 (fa fb : M D) (tgt : D → S → Option S) (g : S → Out) : S → Out := fun s => (fa s).out fun d s1 => (fb s1).out fun d2 s2 => match d, d2 with
  | .int i, .int j => if rngOk i = true ∧ rngOk j = true then forL tgt g (rangeD i (j - i).toNat) s2 else .bad
  | _, _ => .bad
theorem rangeD_get {lo : Int} {n i : Nat} (h : i < n) : (rangeD lo n)[i]? = some (.int (lo + (i : Int))) := by
  unfold rangeD
  rw [List.getElem?_map, List.getElem?_range h]
  rfl
theorem rangeD_len {lo : Int} {n : Nat} : (rangeD lo n).length = n := by simp [rangeD]
/-- for target in xs, xs a list or a tuple -/
def gForL (fa : M D) (tgt : D → S → Option S) (g : S → Out) : S → Out := fun s => (fa s).out fun d s1 => match d with
  | .list xs => forL tgt g xs s1
  | _ => .bad
def gForT (fa : M D) (tgt : D → S → Option S) (g : S → Out) : S → Out := fun s => (fa s).out fun d s1 => match d with
  | .tuple xs => forL tgt g xs s1
  | _ => .bad
def gForS (fa : M D) (tgt : D → S → Option S) (g : S → Out) : S → Out := fun s => (fa s).out fun d s1 => match d with
  | .str x => forL tgt g (x.cps.toList.map fun c => .str ⟨#[c]⟩) s1
  | _ => .bad
theorem pvL_ex {F G : Hp} {E : Ends} {tgt : D → S → Option S} {g : S → Out} {items : List D} {i : Nat} {σ' : St} {H' : Hp} (p : PvL X T B W F G E tgt g items i σ' H') : Ex G H' := by
  obtain ⟨F1, G1, s1, g1, e1, I1, p1⟩ := p
  exact e1.trans I1.gh
/-! ### while -/
/-- n turns at most -/
def whileN (t : M Bool) (g : S → Out) : Nat → S → Out
  | 0, _ => .bad
  | n + 1, s => (t s).out fun b s1 => if b = true then (match g s1 with
      | .nx s2 => whileN t g n s2
      | .ct s2 => whileN t g n s2
      | .bk s2 => .nx s2
      | .rt v s2 => .rt v s2
      | .ex c s2 => .ex c s2
      | .bad => .bad) else .nx s1
/-- as many turns as it takes -/
noncomputable def gWhile (t : M Bool) (g : S → Out) (s : S) : Out := open Classical in if h : ∃ n, whileN t g n s ≠ .bad then whileN t g (Classical.choose h) s else .bad
/-- more turns change nothing -/
theorem whileN_more {t : M Bool} {g : S → Out} : ∀ {n m : Nat} {s : S}, whileN t g n s ≠ .bad → n ≤ m → whileN t g m s = whileN t g n s
  | 0, _, _, h, _ => absurd rfl h
  | n + 1, 0, _, _, h => by omega
  | n + 1, m + 1, s, h, hl => by
    unfold whileN at h ⊢
    cases et : t s with
    | bad => rw [et] at h; exact absurd rfl h
    | ex c s1 => rfl
    | ok b s1 =>
      rw [et] at h
      cases b with
      | false => rfl
      | true =>
        simp only [Res.out, if_true] at h ⊢
        cases eg : g s1 with
        | nx s2 => rw [eg] at h; exact whileN_more h (by omega)
        | ct s2 => rw [eg] at h; exact whileN_more h (by omega)
        | _ => rfl
theorem gWhile_of {t : M Bool} {g : S → Out} {n : Nat} {s : S} {o : Out} (h : whileN t g n s = o) (hb : o ≠ .bad) : gWhile t g s = o := by
  have hx : ∃ n, whileN t g n s ≠ .bad := ⟨n, by rw [h]; exact hb⟩
  unfold gWhile
  rw [dif_pos hx]
  have h1 := Classical.choose_spec hx
  rcases Nat.le_total n (Classical.choose hx) with l | l
  · rw [whileN_more (by rw [h]; exact hb) l, h]
  · rw [← h, whileN_more h1 l]
end
end DL
set_option Elab.async false
set_option linter.all false
set_option maxRecDepth 100000
set_option maxHeartbeats 4000000
/-! DL6: defs and their calls -/
namespace DL
open PySem PySem.Spec L2
open PyProof.Rows hiding St
open Evl (Ex ex_l ex_t ex_rd)

/-- it is the thing that was handed in to be changed -/
def SV.rf : SV → Bool
  | .ol r _ => r
  | .od r _ _ => r
  | .fd r _ _ => r
  | .sp r _ => r
  | _ => false
def keepS : S → S → S
  | [], _ => []
  | _ :: as, [] => .un :: keepS as []
  | a :: as, x :: s' => (if (a.rf && x.rf) = true then x else .un) :: keepS as s'
theorem keepS_len : ∀ as s' : S, (keepS as s').length = as.length
  | [], _ => rfl
  | _ :: as, [] => congrArg Nat.succ (keepS_len as [])
  | _ :: as, _ :: s' => congrArg Nat.succ (keepS_len as s')
/-- a def: g its body, M its names' count -/
def fnR (M : Nat) (g : S → Out) (as : S) : Res SV := match g (as ++ List.replicate (M - as.length) .un) with
  | .nx s' => .ok (.d .none) (keepS as s')
  | .rt v s' => .ok v (keepS as s')
  | .ex c s' => .ex c (keepS as s')
  | _ => .bad
/-- a def's promise -/
def PoF (K : PySem.W.Frag) (mg : Str → Option Value) (B : Addr) (F G : Hp) (vs : List V) (Q : VK) (E : XK) : Res SV → Prop
  | .ok rv as' => ∀ G' H' v, Ex G G' → IS K [] B F G' H' (some v :: vs.map some) (rv :: as') → Q v H'
  | .ex c as' => ∀ G' H' C dd fs, Ex G G' → IS K [] B F G' H' (vs.map some) as' → mg c.cls = some (.ref C) → H' dd = some (.xd fs) → G' dd = none → RpF K G' fs c.fs → E (.ref C) (some dd) H'
  | .bad => False
def spF (K : PySem.W.Frag) (mg : Str → Option Value) (n : Nat) (f : S → Res SV) : Sp := fun vs H Q E => vs.length = n ∧ ∃ B F G as, IS K [] B F G H (vs.map some) as ∧ PoF K mg B F G vs Q E (f as)

section
variable {K : PySem.W.Frag} {T : List (Addr × Str)} {B : Addr} {F F0 G G0 H H0 : Hp} {σ : St} {s : S} {x : SV} {o : Option V}
theorem SlR.rfB (h : SlR K B F G H x o) (w : x.rf = true) : o = some (.ref B) := by
  cases x with
  | un => cases w
  | d _ => cases w
  | ol r xs =>
    obtain ⟨p, vs, h1, h2, _⟩ := h
    rw [h1, h2 w]
  | od r ks xs =>
    obtain ⟨p, vs, h1, h2, _⟩ := h
    rw [h1, h2 w]
  | fd r ks xs =>
    obtain ⟨p, vs, ob, h1, h2, _⟩ := h
    rw [h1, h2 w]
  | fv _ => cases w
  | sp r z =>
    obtain ⟨p, u, C, h1, h2, _⟩ := h
    rw [h1, h2 w]
theorem keep_get : ∀ {as s' : S} {i : Nat} {y : SV}, (keepS as s')[i]? = some y → y = .un ∨ (∃ a, as[i]? = some a ∧ a.rf = true ∧ s'[i]? = some y ∧ y.rf = true)
  | [], _, _, _, h => by
    have h2 : ([] : S)[_]? = some _ := h
    simp at h2
  | _ :: as, [], 0, y, h => by
    have h2 : some SV.un = some y := h
    cases h2
    exact .inl rfl
  | _ :: as, [], i + 1, y, h => by
    rcases keep_get (as := as) (s' := []) (i := i) (y := y) h with e | ⟨a, h1, h2, h3, h4⟩
    · exact .inl e
    · simp at h3
  | a :: as, x :: s', 0, y, h => by
    have h2 : some (if (a.rf && x.rf) = true then x else SV.un) = some y := h
    split at h2
    · rename_i hc
      cases h2
      have hc2 := Bool.and_eq_true_iff.mp hc
      exact .inr ⟨a, rfl, hc2.1, rfl, hc2.2⟩
    · cases h2
      exact .inl rfl
  | _ :: as, _ :: s', i + 1, y, h => by
    rcases keep_get (as := as) (s' := s') (i := i) (y := y) h with e | ⟨a, h1, h2, h3, h4⟩
    · exact .inl e
    · exact .inr ⟨a, by simpa using h1, h2, by simpa using h3, h4⟩
theorem IS.pad (I : IS K T B F G H σ s) (m : Nat) : IS K T B F G H (σ ++ List.replicate m none) (s ++ List.replicate m .un) := by
  have get : ∀ {i : Nat} {y : SV}, (s ++ List.replicate m .un)[i]? = some y → (i < s.length ∧ s[i]? = some y) ∨ (y = .un) := fun {i y} h => by
    by_cases l : i < s.length
    · rw [List.getElem?_append_left l] at h
      exact .inl ⟨l, h⟩
    · rw [List.getElem?_append_right (by omega), List.getElem?_replicate] at h
      split at h
      · cases h
        exact .inr rfl
      · cases h
  have val : ∀ {i : Nat}, i < s.length → slA (σ ++ List.replicate m none) i = slA σ i := fun {i} l => by
    unfold slA
    rw [List.getElem?_append_left (by rw [← I.len]; exact l)]
  refine ⟨by simp [I.len], I.fr, I.gh, I.dj, I.tb, fun i y hy => ?_, fun i j y z p ne hy hz oy oz ay az => ?_, I.tc⟩
  · rcases get hy with ⟨l, h⟩ | rfl
    · rw [val l]
      exact I.sl i y h
    · trivial
  · rcases get hy with ⟨l, h⟩ | rfl
    · rcases get hz with ⟨l2, h2⟩ | rfl
      · rw [val l] at ay
        rw [val l2] at az
        exact I.ap i j y z p ne h h2 oy oz ay az
      · cases oz
    · cases oy
/-- behind the body: the slots that were handed in to be changed, and what is told -/
theorem IS.keep {as s' : S} {σ' : St} {vs : List V} (I0 : IS K T B F0 G0 H0 (vs.map some) as) (I : IS K T B F G H σ' s') : IS K T B F G H (vs.map some) (keepS as s') := by
  have len : (keepS as s').length = as.length := keepS_len as s'
  refine ⟨by rw [len, I0.len], I.fr, I.gh, I.dj, I.tb, fun i y hy => ?_, fun i j y z p ne hy hz oy oz ay az => ?_, I.tc⟩
  · rcases keep_get hy with rfl | ⟨a, h1, h2, h3, h4⟩
    · trivial
    · rw [(I0.sl i a h1).rfB h2, ← (I.sl i y h3).rfB h4]
      exact I.sl i y h3
  · rcases keep_get hy with rfl | ⟨a, h1, h2, h3, h4⟩
    · cases oy
    · rcases keep_get hz with rfl | ⟨b, k1, k2, k3, k4⟩
      · cases oz
      · exact I.ap i j y z B ne h3 k3 oy oz ((I.sl i y h3).rfB h4) ((I.sl j z k3).rfB k4)
theorem IS.keepR {as s' : S} {σ' : St} {vs : List V} {v : V} (I0 : IS K T B F0 G0 H0 (vs.map some) as) (I : IS K T B F G H (some v :: σ') (x :: s')) : IS K T B F G H (some v :: vs.map some) (x :: keepS as s') := by
  refine (IS.keep I0 I.tail).push I.head fun w q i y e1 e2 e3 e4 => ?_
  rcases keep_get e2 with rfl | ⟨a, h1, h2, h3, h4⟩
  · cases e3
  · have eB := (I0.sl i a h1).rfB h2
    rw [e4] at eB
    cases eB
    exact I.ap 0 (i + 1) x y _ (fun z => by cases z) rfl (by simpa using h3) w e3 e1 ((I.tail.sl i y h3).rfB h4)
end

section
variable {P : Program} {w : World} {K : PySem.W.Frag} {mg : Str → Option Value} {base : Heap} {x qual : Str} {params : Arguments} {body : List Stmt} {scope : Scope} {dvs : List V} {kws : List (Str × V)} {f : Addr} {fd : FuncData}
/-- THE RULE for a def -/
theorem fn_ok {N ps : List Str} {k : Nat} {g : S → Out} (Fu : FunD K x qual params body scope dvs kws f fd) (Sc : FnScope N ps scope)
    (hbody : ∀ (cdv : Value) (A : Around) (outer : List Env) (s : Shared) (H : Hp) (E : XK) (B : Addr), Room k (A.deeper (envOfC qual scope s.heap.objs.size f cdv)) →
      DSs (cxOf (L2.CX P w) P w K mg base N qual scope f cdv A outer s H E) [] B (fun cls d _ H => E cls d H) body g) :
    FnOk P w K mg base (L2.CX P w) (k + 1) f fd ps (spF K mg ps.length (fnR N.length g)) := by
  refine Fu.ok Sc (fun vs H Q E h => h.1) (fun cdv A outer s H vs Q E hr h => ?_)
  obtain ⟨hl, B, F, G, as, I, p⟩ := h
  have J : IS K [] B F G H (L2.start N vs) (as ++ List.replicate (N.length - vs.length) SV.un) := I.pad (N.length - vs.length)
  refine ⟨_, hbody cdv A outer s H E B hr, F, G, _, J, ?_⟩
  have la : as.length = vs.length := by rw [I.len, List.length_map]
  unfold fnR at p
  rw [la] at p
  cases e : g (as ++ List.replicate (N.length - vs.length) .un) with
  | nx s' =>
    rw [e] at p
    intro F' G' H' σ' gr eg I'
    cases gr.same rfl
    exact p G' H' .non eg ((IS.keep I I').pushD .non)
  | rt v s' =>
    rw [e] at p
    intro F' G' H' σ' v gr eg I'
    cases gr.same rfl
    exact p G' H' v eg (IS.keepR I I')
  | ex c s' =>
    rw [e] at p
    intro σ' F' G' H' C dd fs gr eg I' hm hd hn hf
    cases gr.same rfl
    exact p G' H' C dd fs eg (IS.keep I I') hm hd hn hf
  | bk s' => rw [e] at p; exact p.elim
  | ct s' => rw [e] at p; exact p.elim
  | bad => rw [e] at p; exact p.elim
end

/-! ### calls -/
open Classical in
/-- what a caller keeps: all but what is shared and what is handed in at p -/
noncomputable def restH (G H : Hp) (p : Option Addr) : Hp := fun a => if G a = none ∧ some a ≠ p then H a else none
section
variable {G H : Hp} {p : Option Addr}
theorem rest_some {a : Addr} {u : HO} (h : restH G H p a = some u) : G a = none ∧ some a ≠ p ∧ H a = some u := by
  unfold restH at h
  split at h
  · rename_i hc
    exact ⟨hc.1, hc.2, h⟩
  · cases h
theorem rest_of {a : Addr} {u : HO} (h1 : G a = none) (h2 : some a ≠ p) (h3 : H a = some u) : restH G H p a = some u := by
  unfold restH
  rw [if_pos ⟨h1, h2⟩, h3]
theorem rest_at {a : Addr} : restH G H (some a) a = none := by
  unfold restH
  rw [if_neg (fun h => h.2 rfl)]
end
def oCallK (f : S → Res SV) (k : List D → S) (fa : M (List D)) : M SV := fun s => (fa s).bind fun ds s1 => match f (k ds) with
  | .ok rv _ => if rv.rf = true then .bad else .ok rv s1
  | .ex c _ => .ex c s1
  | .bad => .bad
/-- f(e, ..), all data -/
def oCall (f : S → Res SV) (dds : List D) (fa : M (List D)) : M SV := oCallK f (fun ds => (ds ++ dds).map .d) fa
section
variable {X : Cx} {T : List (Addr × Str)} {B : Addr} {W : WX}
theorem data_get {ds : List D} {i : Nat} {y : SV} (h : (ds.map SV.d)[i]? = some y) : ∃ d, ds[i]? = some d ∧ y = .d d := by
  rw [List.getElem?_map] at h
  cases e : ds[i]? with
  | none => rw [e] at h; cases h
  | some d => rw [e] at h; cases h; exact ⟨d, rfl, rfl⟩
/-- the state that a callee finds: data alone -/
theorem IS.forCall {K : PySem.W.Frag} {F G H : Hp} {σ : St} {s : S} (I : IS K T B F G H σ s) {vs : List V} {ds : List D} (r : RpA K G vs ds) : IS K [] 0 (restH G H none) G H (vs.map some) (ds.map .d) := by
  refine ⟨by simp [r.len], fun a u h => (rest_some h).2.2, I.gh, fun a u h => (rest_some h).1, (fun p hp => nomatch hp), fun i y hy => ?_, fun i j y z p ne hy hz oy => ?_, I.tc⟩
  · obtain ⟨d, h1, rfl⟩ := data_get hy
    obtain ⟨v, h2, h3⟩ := r.get h1
    refine ⟨v, ?_, h3⟩
    unfold slA
    rw [List.getElem?_map, h2]
    rfl
  · obtain ⟨d, h1, rfl⟩ := data_get hy
    cases oy
/-- the caller's state behind it -/
theorem IS.back {K : PySem.W.Frag} {F G G' H H' : Hp} {σ σ' : St} {s s' : S} {B' : Addr} (I : IS K T B F G H σ s) (e : Ex G G') (J : IS K [] B' (restH G H none) G' H' σ' s') : IS K T B F G' H' σ s := by
  have kf : ∀ {a u}, F a = some u → restH G H none a = some u := fun {a u} h => rest_of (I.dj a u h) (fun z => by cases z) (I.fr a u h)
  refine ⟨I.len, fun a u h => J.fr a u (kf h), J.gh, fun a u h => J.dj a u (kf h), I.tb, fun i y hy => ?_, I.ap, J.tc⟩
  exact (I.sl i y hy).mono e fun p u h1 h2 => ⟨J.dj p u (rest_of h2 (fun z => by cases z) h1), J.fr p u (rest_of h2 (fun z => by cases z) h1), fun h3 => h3⟩
theorem IS.backR {K : PySem.W.Frag} {F G G' H H' : Hp} {σ σ' : St} {s s' : S} {B' : Addr} {v : V} {x : SV} (I : IS K T B F G H σ s) (e : Ex G G') (J : IS K [] B' (restH G H none) G' H' (some v :: σ') (x :: s')) (hx : x.rf = false) : IS K T B F G' H' (some v :: σ) (x :: s) := by
  have kf : ∀ {a u}, F a = some u → restH G H none a = some u := fun {a u} h => rest_of (I.dj a u h) (fun z => by cases z) (I.fr a u h)
  have h0 : SlR K B F G' H' x (some v) := by
    have h := J.head
    have fp : ∀ {p : Addr}, restH G H none p = none → F p = none := fun {p} h => by
      cases e : F p with
      | none => rfl
      | some u => rw [kf e] at h; cases h
    cases x with
    | un => trivial
    | d y => exact h
    | ol r xs =>
      obtain ⟨p, vs, h1, h2, h3, h4, h5, h6⟩ := h
      exact ⟨p, vs, h1, (fun z => by rw [z] at hx; cases hx), h3, h4, h5, fp h6⟩
    | od r ks xs =>
      obtain ⟨p, vs, h1, h2, h3, h4, h5, h6, h7⟩ := h
      exact ⟨p, vs, h1, (fun z => by rw [z] at hx; cases hx), h3, h4, h5, h6, fp h7⟩
    | fd r ks xs =>
      obtain ⟨p, vs, ob, h1, h2, h3, h4, h5, h6, h7⟩ := h
      exact ⟨p, vs, ob, h1, (fun z => by rw [z] at hx; cases hx), h3, h4, h5, h6, fp h7⟩
    | fv y => exact h
    | sp r z =>
      obtain ⟨p, u, C, h1, h2, h3, h4, h5, h6, h7⟩ := h
      exact ⟨p, u, C, h1, (fun z => by rw [z] at hx; cases hx), h3, h4, h5, fp h6, fun c hc => ⟨(h7 c hc).1, (h7 c hc).2.1, (h7 c hc).2.2.1, fun q => fp ((h7 c hc).2.2.2 q)⟩⟩
  refine (I.back e J.tail).push h0 fun w q i y e1 e2 e3 e4 => ?_
  obtain ⟨r, u, f1, f2, f3, f4⟩ := (I.sl i y e2).place e3
  rw [e4] at f1
  cases f1
  obtain ⟨r2, u2, k1, k2, k3, k4⟩ := J.head.place w
  rw [e1] at k1
  cases k1
  rw [rest_of f3 (fun z => by cases z) f2] at k4
  cases k4
/-- a callee's promise is met -/
theorem call_to {n : Nat} {f : S → Res SV} {F G H : Hp} {σ : St} {s : S} {vs : List V} {ds : List D} {Q : VK} (I : IS X.K T B F G H σ s) (r : RpA X.K G vs ds) (hn : ds.length = n)
    (p : Po X T B W F G σ (fun F' G' x s' H' => ∀ v, IS X.K T B F' G' H' (some v :: σ) (x :: s') → Q v H') (match f (ds.map .d) with
      | .ok rv _ => if rv.rf = true then .bad else .ok rv s
      | .ex c _ => .ex c s
      | .bad => .bad)) : spF X.K X.mg n f vs H Q (WE W σ) := by
  refine ⟨by rw [r.len]; exact hn, 0, restH G H none, G, ds.map .d, I.forCall r, ?_⟩
  cases e : f (ds.map .d) with
  | bad => rw [e] at p; exact p.elim
  | ex c as' =>
    rw [e] at p
    intro G' H' C dd fs eg J hm hd hn hf
    exact p F G' H' C dd fs Gr.refl eg (I.back eg J) hm hd hn hf
  | ok rv as' =>
    rw [e] at p
    intro G' H' v eg J
    simp only at p
    cases hr : rv.rf with
    | true => rw [hr] at p; exact p.elim
    | false =>
      rw [hr] at p
      exact p F G' H' Gr.refl eg (I.back eg J.tail) v (I.backR eg J hr)
section
variable {k n : Nat} {fa' : Addr} {fd : FuncData} {ps : List Str} {f : S → Res SV} {x : Str} {p pos : Pos} {e : Expr} {es : List Expr} {dvs : List V} {ds : List Value} {dds : List D} {fa : M (List D)}
theorem do_call (Fn : FnOk X.prog X.w X.K X.mg X.base (L2.CX X.prog X.w) k fa' fd ps (spF X.K X.mg n f)) (hr : Room k X.A) (hm : X.mg x = some (.ref fa')) (hk : PySem.W.keepIn X.K (.ref fa') = true) (hb : Binds X.K fd ps ds) (hd : Vals dvs ds) (hdd : ∀ G, RpA X.K G dvs dds) (tk : Takes X W)
    (ha : DA X T B W (e :: es) fa) (hn : ∀ s ds s', fa s = .ok ds s' → (ds ++ dds).length = n) (hg : Gl X x := by rfl) (hdb : (x == ("__debug__" : Str)) = false := by decide) (he : starEach (e :: es) X.env = (false, eval e X.env) :: starEach es X.env := by rfl) (hpl : (backTo pos (starEach es X.env)).any (·.1) = false := by rfl) :
    DO X T B W (.Call (.Name x p) (e :: es) [] pos) (oCall f dds fa) := pe_weak (pe_callSD Fn hr hg hm hk hb hd (fun σ => passAt tk σ) ha hdb he hpl) fun σ H Q ⟨F, G, s, I, q⟩ => by
  have hlen := hn s
  have q2 : Po X T B W F G σ (fun F' G' x s' H' => ∀ v, IS X.K T B F' G' H' (some v :: σ) (x :: s') → Q v H') ((fa s).bind fun ds s1 => match f ((ds ++ dds).map .d) with
    | .ok rv _ => if rv.rf = true then .bad else .ok rv s1
    | .ex c _ => .ex c s1
    | .bad => .bad) := q
  refine ⟨F, G, s, I, ?_⟩
  cases ef : fa s with
  | bad => rw [ef] at q2; exact q2
  | ex c s' => rw [ef] at q2; exact q2
  | ok ds' s1 =>
    rw [ef] at q2
    intro F1 G1 H1 g1 e1 I1 vs r1
    exact call_to I1 (r1.app (hdd G1)) (hlen ds' s1 ef) (Po.mono q2 g1 e1)
end
end
end DL
set_option Elab.async false
set_option linter.all false
set_option maxRecDepth 100000
set_option maxHeartbeats 4000000
/-! DL7: calls that change what is handed in; keywords -/
namespace DL
open PySem PySem.Spec L2
open PyProof.Rows hiding St
open Evl (Ex ex_l ex_t ex_rd)

/-- so many are handed in -/
def mLen (fa : M (List D)) (n : Nat) : Prop := ∀ s ds s', fa s = .ok ds s' → ds.length = n
theorem mLen_nil : mLen mNil 0 := fun s ds s' h => by
  cases h
  rfl
theorem mLen_cons {f : M D} {g : M (List D)} {n : Nat} (h : mLen g n) : mLen (mCons f g) (n + 1) := fun s ds s' e => by
  unfold mCons M.bind at e
  cases e1 : f s with
  | bad => rw [e1] at e; cases e
  | ex c s1 => rw [e1] at e; cases e
  | ok x s1 =>
    rw [e1] at e
    cases e2 : g s1 with
    | bad => simp only [Res.bind, e2] at e; cases e
    | ex c s2 => simp only [Res.bind, e2] at e; cases e
    | ok xs s2 =>
      simp only [Res.bind, e2, M.ret] at e
      cases e
      exact congrArg Nat.succ (h s1 xs s' e2)
theorem mLen.to {fa : M (List D)} {n m : Nat} {dds : List D} (h : mLen fa n) (e : n + dds.length = m) : ∀ s ds s', fa s = .ok ds s' → (ds ++ dds).length = m := fun s ds s' q => by
  rw [List.length_append, h s ds s' q]
  exact e

/-! ### f(x, ..): what x holds may be changed -/
def SV.toRef : SV → Option SV
  | .ol _ xs => some (.ol true xs)
  | .od _ ks xs => some (.od true ks xs)
  | .fd _ ks xs => some (.fd true ks xs)
  | .d x => some (.d x)
  | .sp _ (.ob c fs) => some (.sp true (.ob c fs))
  | _ => none
def SV.back : SV → SV → SV
  | .ol r _, .ol true xs => .ol r xs
  | .od r _ _, .od true ks xs => .od r ks xs
  | .fd r _ _, .fd true ks xs => .fd r ks xs
  | .d a, _ => .d a
  | .sp r (.ob _ _), .sp true (.ob c fs) => .sp r (.ob c fs)
  | _, _ => .un
def hasV (i : Nat) (s : S) : Bool := match s[i]? with
  | some .un => false
  | none => false
  | _ => true
theorem IS.has {K : PySem.W.Frag} {T : List (Addr × Str)} {B : Addr} {F G H : Hp} {σ : St} {s : S} (I : IS K T B F G H σ s) {i : Nat} (h : hasV i s = true) : ∃ v, σ[i]? = some (some v) := by
  unfold hasV at h
  cases e : s[i]? with
  | none => rw [e] at h; cases h
  | some x =>
    rw [e] at h
    cases x with
    | un => cases h
    | d y =>
      obtain ⟨v, h1, _⟩ := I.dat e
      exact ⟨v, h1⟩
    | ol r xs =>
      obtain ⟨q, u, f1, _⟩ := (I.sl i _ e).place rfl
      exact ⟨_, slA_some f1⟩
    | od r ks xs =>
      obtain ⟨q, u, f1, _⟩ := (I.sl i _ e).place rfl
      exact ⟨_, slA_some f1⟩
    | fd r ks xs =>
      obtain ⟨q, u, f1, _⟩ := (I.sl i _ e).place rfl
      exact ⟨_, slA_some f1⟩
    | fv y =>
      have h1 : slA σ i = some (.ref (He.ga K y)) := I.sl i _ e
      exact ⟨_, slA_some h1⟩
    | sp r z =>
      obtain ⟨q, u, f1, _⟩ := (I.sl i _ e).place rfl
      exact ⟨_, slA_some f1⟩
def oCallR (i : Nat) (f : S → Res SV) (dds : List D) (fa : M (List D)) : M SV := fun s => if hasV i s = true then (fa s).bind (fun ds s1 => match s1[i]? with
  | none => .bad
  | some x => match x.toRef with
    | none => .bad
    | some x' => match f (x' :: (ds ++ dds).map .d) with
      | .ok rv (y :: _) => if rv.rf = true then .bad else .ok rv (s1.set i (x.back y))
      | .ex c (y :: _) => .ex c (s1.set i (x.back y))
      | _ => .bad) else .bad
section
variable {K : PySem.W.Frag} {T : List (Addr × Str)} {B : Addr} {F G G' H H' : Hp} {σ : St} {s : S}
/-- the slot of the thing handed in, at the callee's entry -/
theorem SlR.toRef {x x' : SV} {p : Addr} {F1 : Hp} (h : SlR K B F G H x (some (.ref p))) (e : x.toRef = some x') (ow : x.own = true) (fp : F1 p = none) : SlR K p F1 G H x' (some (.ref p)) := by
  cases x with
  | un => cases e
  | d _ => cases ow
  | fd r ks xs =>
    cases e
    obtain ⟨q, vs, ob, h1, h2, h3, h4, h5, h6, h7⟩ := h
    cases h1
    exact ⟨p, vs, ob, rfl, fun _ => rfl, h3, h4, h5, h6, fp⟩
  | fv _ => cases ow
  | sp r z =>
    cases z with
    | ob c fs =>
      cases e
      obtain ⟨q, u, C, h1, h2, h3, h4, h5, h6, h7⟩ := h
      cases h1
      exact ⟨p, u, C, rfl, fun _ => rfl, h3, h4, h5, fp, fun c hc => ⟨(h7 c hc).1, (h7 c hc).2.1, (h7 c hc).2.2.1, fun q => nomatch q⟩⟩
    | nl k xss => cases e
  | ol r xs =>
    cases e
    obtain ⟨q, vs, h1, h2, h3, h4, h5, h6⟩ := h
    cases h1
    exact ⟨p, vs, rfl, fun _ => rfl, h3, h4, h5, fp⟩
  | od r ks xs =>
    cases e
    obtain ⟨q, vs, h1, h2, h3, h4, h5, h6, h7⟩ := h
    cases h1
    exact ⟨p, vs, rfl, fun _ => rfl, h3, h4, h5, h6, fp⟩
theorem IS.forCallR (I : IS K T B F G H σ s) {i : Nat} {x x' : SV} {p : Addr} {vs : List V} {ds : List D} (r : RpA K G vs ds) (hx : s[i]? = some x) (ow : x.own = true) (hp : slA σ i = some (.ref p)) (e : x.toRef = some x') :
    IS K [] p (restH G H (some p)) G H ((V.ref p :: vs).map some) (x' :: ds.map .d) := by
  have h0 := I.sl i x hx
  rw [hp] at h0
  have J : IS K [] p (restH G H (some p)) G H (vs.map some) (ds.map .d) := by
    refine ⟨by simp [r.len], fun a u h => (rest_some h).2.2, I.gh, fun a u h => (rest_some h).1, (fun p hp => nomatch hp), fun i y hy => ?_, fun i j y z p ne hy hz oy => ?_, I.tc⟩
    · obtain ⟨d, h1, rfl⟩ := data_get hy
      obtain ⟨v, h2, h3⟩ := r.get h1
      refine ⟨v, ?_, h3⟩
      unfold slA
      rw [List.getElem?_map, h2]
      rfl
    · obtain ⟨d, h1, rfl⟩ := data_get hy
      cases oy
  exact J.push (h0.toRef e ow rest_at) fun w q j y e1 e2 e3 e4 => by
    obtain ⟨d, h1, rfl⟩ := data_get e2
    cases e3
theorem SlR.backR {x y : SV} {p B' : Addr} {F1 : Hp} (hx : SlR K B F G H x (some (.ref p))) (ow : x.own = true) (hy : SlR K B' F1 G' H' y (some (.ref p))) : SlR K B F G' H' (x.back y) (some (.ref p)) := by
  cases x with
  | un => cases ow
  | d _ => cases ow
  | fd r ks xs =>
    obtain ⟨q, vs, ob, h1, h2, h3, h4, h5, h6, h7⟩ := hx
    cases h1
    cases y with
    | fd r2 ks2 ys =>
      cases r2 with
      | false => trivial
      | true =>
        obtain ⟨q2, vs2, ob2, k1, k2, k3, k4, k5, k6, k7⟩ := hy
        cases k1
        exact ⟨p, vs2, ob2, rfl, h2, k3, k4, k5, k6, h7⟩
    | _ => trivial
  | fv _ => cases ow
  | sp r z =>
    cases z with
    | nl k xss => cases y <;> trivial
    | ob c fs =>
      obtain ⟨q, u, C, h1, h2, h3, h4, h5, h6, h7⟩ := hx
      cases h1
      cases y with
      | sp r2 z2 =>
        cases r2 with
        | false => cases z2 <;> trivial
        | true =>
          cases z2 with
          | nl k xss => trivial
          | ob c2 fs2 =>
            obtain ⟨q2, u2, C2, k1, k2, k3, k4, k5, k6, k7⟩ := hy
            cases k1
            exact ⟨p, u2, C2, rfl, h2, k3, k4, k5, h6, fun c hc => ⟨(k7 c hc).1, (k7 c hc).2.1, (k7 c hc).2.2.1, fun q => nomatch q⟩⟩
      | _ => trivial
  | ol r xs =>
    obtain ⟨q, vs, h1, h2, h3, h4, h5, h6⟩ := hx
    cases h1
    cases y with
    | ol r2 ys =>
      cases r2 with
      | false => trivial
      | true =>
        obtain ⟨q2, vs2, k1, k2, k3, k4, k5, k6⟩ := hy
        cases k1
        exact ⟨p, vs2, rfl, h2, k3, k4, k5, h6⟩
    | _ => trivial
  | od r ks xs =>
    obtain ⟨q, vs, h1, h2, h3, h4, h5, h6, h7⟩ := hx
    cases h1
    cases y with
    | od r2 ks2 ys =>
      cases r2 with
      | false => trivial
      | true =>
        obtain ⟨q2, vs2, k1, k2, k3, k4, k5, k6, k7⟩ := hy
        cases k1
        exact ⟨p, vs2, rfl, h2, k3, k4, k5, k6, h7⟩
    | _ => trivial
theorem back_own {x y : SV} (ow : x.own = true) (h : (x.back y).own = true) : y.own = true := by
  cases x with
  | un => cases ow
  | d _ => cases ow
  | fd r ks xs => cases y with
    | fd _ _ _ => rfl
    | _ => cases h
  | fv _ => cases ow
  | sp r z =>
    cases z with
    | nl k xss => cases y <;> cases h
    | ob c fs =>
      cases y with
      | sp _ _ => rfl
      | _ => cases h
  | ol r xs => cases y with
    | ol _ _ => rfl
    | _ => cases h
  | od r ks xs => cases y with
    | od _ _ _ => rfl
    | _ => cases h
/-- the caller's state behind it -/
theorem IS.backC (I : IS K T B F G H σ s) (e : Ex G G') {i : Nat} {x y : SV} {p B' : Addr} {σ' : St} {s' : S} (hx : s[i]? = some x) (ow : x.own = true) (hp : slA σ i = some (.ref p)) (J : IS K [] B' (restH G H (some p)) G' H' (some (.ref p) :: σ') (y :: s')) : IS K T B F G' H' σ (s.set i (x.back y)) := by
  have h0 := I.sl i x hx
  rw [hp] at h0
  have Fp : F p = none := by
    obtain ⟨q, u, f1, f2, f3, f4⟩ := h0.place ow
    cases f1
    exact f4
  have ne : ∀ {a u}, F a = some u → some a ≠ some p := fun {a u} h z => by
    cases z
    rw [Fp] at h
    cases h
  have kf : ∀ {a u}, F a = some u → restH G H (some p) a = some u := fun {a u} h => rest_of (I.dj a u h) (ne h) (I.fr a u h)
  have hi : i < s.length := (List.getElem?_eq_some_iff.mp hx).1
  have back : ∀ {j z}, (s.set i (x.back y))[j]? = some z → (i = j ∧ z = x.back y) ∨ (s[j]? = some z ∧ i ≠ j) := fun {j z} h => by
    rw [List.getElem?_set] at h
    by_cases e : i = j
    · subst e
      simp [hi] at h
      exact .inl ⟨rfl, h.symm⟩
    · simp [e] at h
      exact .inr ⟨h, e⟩
  refine ⟨by simp [I.len], fun a u h => J.fr a u (kf h), J.gh, fun a u h => J.dj a u (kf h), I.tb, fun j z hz => ?_, fun j k y1 z1 r ne1 hy1 hz1 oy oz ay az => ?_, J.tc⟩
  · rcases back hz with ⟨e1, rfl⟩ | ⟨h, n⟩
    · rw [← e1, hp]
      exact h0.backR ow J.head
    · have hz0 := I.sl j z h
      refine hz0.keep e (fun oz q u f1 f2 fi f3 f4 => ?_) fun q u h1 h2 h3 => ?_
      · have nq : some q ≠ some p := fun z => by
          cases z
          exact I.ap i j x _ _ n hx h ow oz hp f1
        have z := rest_of f3 nq f2
        exact ⟨J.dj _ _ z, J.fr _ _ z, f4⟩
      · have nq : some q ≠ some p := fun z => I.innN hx ow hp h1 h2 (Option.some.inj z)
        have z := rest_of h3 nq h1
        exact ⟨J.dj _ _ z, J.fr _ _ z, fun z => z⟩
  · rcases back hy1 with ⟨e1, rfl⟩ | ⟨h, n⟩
    · rcases back hz1 with ⟨e2, rfl⟩ | ⟨h2, n2⟩
      · exact ne1 (e1.symm.trans e2)
      · rw [← e1] at ay
        exact I.ap i k x z1 r n2 hx h2 ow oz ay az
    · rcases back hz1 with ⟨e2, rfl⟩ | ⟨h2, n2⟩
      · rw [← e2] at az
        exact I.ap j i y1 x r (Ne.symm n) h hx oy ow ay az
      · exact I.ap j k y1 z1 r ne1 h h2 oy oz ay az
theorem IS.backCR (I : IS K T B F G H σ s) (e : Ex G G') {i : Nat} {x y z : SV} {p B' : Addr} {v : V} {σ' : St} {s' : S} (hx : s[i]? = some x) (ow : x.own = true) (hp : slA σ i = some (.ref p)) (J : IS K [] B' (restH G H (some p)) G' H' (some v :: some (.ref p) :: σ') (z :: y :: s')) (hz : z.rf = false) :
    IS K T B F G' H' (some v :: σ) (z :: s.set i (x.back y)) := by
  have Fp : F p = none := by
    obtain ⟨q, u, f1, f2, f3, f4⟩ := (I.sl i x hx).place ow
    rw [hp] at f1
    cases f1
    exact f4
  have ne : ∀ {a u}, F a = some u → some a ≠ some p := fun {a u} h z => by
    cases z
    rw [Fp] at h
    cases h
  have kf : ∀ {a u}, F a = some u → restH G H (some p) a = some u := fun {a u} h => rest_of (I.dj a u h) (ne h) (I.fr a u h)
  have h0 : SlR K B F G' H' z (some v) := by
    have h := J.head
    have fp : ∀ {p1 : Addr}, restH G H (some p) p1 = none → F p1 = none := fun {p1} h => by
      cases e : F p1 with
      | none => rfl
      | some u => rw [kf e] at h; cases h
    cases z with
    | un => trivial
    | d y => exact h
    | ol r xs =>
      obtain ⟨p, vs, h1, h2, h3, h4, h5, h6⟩ := h
      exact ⟨p, vs, h1, (fun z => by rw [z] at hz; cases hz), h3, h4, h5, fp h6⟩
    | od r ks xs =>
      obtain ⟨p, vs, h1, h2, h3, h4, h5, h6, h7⟩ := h
      exact ⟨p, vs, h1, (fun z => by rw [z] at hz; cases hz), h3, h4, h5, h6, fp h7⟩
    | fd r ks xs =>
      obtain ⟨p, vs, ob, h1, h2, h3, h4, h5, h6, h7⟩ := h
      exact ⟨p, vs, ob, h1, (fun z => by rw [z] at hz; cases hz), h3, h4, h5, h6, fp h7⟩
    | fv y => exact h
    | sp r z =>
      obtain ⟨p, u, C, h1, h2, h3, h4, h5, h6, h7⟩ := h
      exact ⟨p, u, C, h1, (fun z => by rw [z] at hz; cases hz), h3, h4, h5, fp h6, fun c hc => ⟨(h7 c hc).1, (h7 c hc).2.1, (h7 c hc).2.2.1, fun q => fp ((h7 c hc).2.2.2 q)⟩⟩
  refine (I.backC e hx ow hp J.tail).push h0 fun w q j y1 e1 e2 e3 e4 => ?_
  rw [List.getElem?_set] at e2
  have hi : i < s.length := (List.getElem?_eq_some_iff.mp hx).1
  by_cases hij : i = j
  · subst hij
    simp [hi] at e2
    subst e2
    rw [hp] at e4
    cases e4
    exact J.ap 0 1 z y _ (fun q => by cases q) rfl rfl w (back_own ow e3) e1 rfl
  · simp [hij] at e2
    obtain ⟨r, u, f1, f2, f3, f4⟩ := (I.sl j y1 e2).place e3
    rw [e4] at f1
    cases f1
    obtain ⟨r2, u2, k1, k2, k3, k4⟩ := J.head.place w
    rw [e1] at k1
    cases k1
    have nq : some q ≠ some p := fun z => by
      cases z
      exact I.ap i j x y1 _ hij hx e2 ow e3 hp e4
    rw [rest_of f3 nq f2] at k4
    cases k4
end
section
variable {X : Cx} {T : List (Addr × Str)} {B : Addr} {W : WX}
theorem call_toR {n i : Nat} {f : S → Res SV} {F G H : Hp} {σ : St} {s : S} {v0 : V} {vs : List V} {ds : List D} {Q : VK} (I : IS X.K T B F G H σ s) (hv : σ[i]? = some (some v0)) (r : RpA X.K G vs ds) (hn : ds.length + 1 = n)
    (p : Po X T B W F G σ (fun F' G' x s' H' => ∀ v, IS X.K T B F' G' H' (some v :: σ) (x :: s') → Q v H') (match s[i]? with
      | none => .bad
      | some x => match x.toRef with
        | none => .bad
        | some x' => match f (x' :: ds.map .d) with
          | .ok rv (y :: _) => if rv.rf = true then .bad else .ok rv (s.set i (x.back y))
          | .ex c (y :: _) => .ex c (s.set i (x.back y))
          | _ => .bad)) : spF X.K X.mg n f (v0 :: vs) H Q (WE W σ) := by
  cases hx : s[i]? with
  | none => rw [hx] at p; exact p.elim
  | some x =>
    rw [hx] at p
    simp only at p
    cases hx' : x.toRef with
    | none => rw [hx'] at p; exact p.elim
    | some x' =>
      rw [hx'] at p
      simp only at p
      have lenV : (v0 :: vs).length = n := by rw [List.length_cons, r.len]; exact hn
      by_cases ow : x.own = true
      · obtain ⟨q, u, f1, f2, f3, f4⟩ := (I.sl i x hx).place ow
        have hv2 := slA_some f1
        rw [hv] at hv2
        cases hv2
        refine ⟨lenV, q, restH G H (some q), G, x' :: ds.map .d, I.forCallR r hx ow f1 hx', ?_⟩
        cases e : f (x' :: ds.map .d) with
        | bad => rw [e] at p; exact p.elim
        | ex c as' =>
          rw [e] at p
          cases as' with
          | nil => exact p.elim
          | cons y ys =>
            intro G' H' C dd fs eg J hm hd hn hf
            exact p F G' H' C dd fs Gr.refl eg (I.backC eg hx ow f1 J) hm hd hn hf
        | ok rv as' =>
          rw [e] at p
          cases as' with
          | nil => exact p.elim
          | cons y ys =>
            simp only at p
            intro G' H' v eg J
            cases hr : rv.rf with
            | true => rw [hr] at p; exact p.elim
            | false =>
              rw [hr] at p
              exact p F G' H' Gr.refl eg (I.backC eg hx ow f1 J.tail) v (I.backCR eg hx ow f1 J hr)
      · cases x with
        | un => cases hx'
        | d a =>
          cases hx'
          obtain ⟨w, h1, h2⟩ := I.dat hx
          rw [hv] at h1
          cases h1
          have hset : ∀ y : SV, s.set i ((SV.d a).back y) = s := fun y => by
            apply List.ext_getElem?
            intro j
            rw [List.getElem?_set]
            split
            · rename_i h
              subst h
              split
              · exact hx.symm
              · rename_i h
                rw [List.getElem?_eq_none (by omega)]
            · rfl
          refine ⟨lenV, 0, restH G H none, G, (a :: ds).map .d, I.forCall (.cons h2 r), ?_⟩
          show PoF _ _ _ _ _ _ _ _ (f (.d a :: ds.map .d))
          cases e : f (.d a :: ds.map .d) with
          | bad => rw [e] at p; exact p.elim
          | ex c as' =>
            rw [e] at p
            cases as' with
            | nil => exact p.elim
            | cons y ys =>
              simp only [hset] at p
              intro G' H' C dd fs eg J hm hd hn hf
              exact p F G' H' C dd fs Gr.refl eg (I.back eg J) hm hd hn hf
          | ok rv as' =>
            rw [e] at p
            cases as' with
            | nil => exact p.elim
            | cons y ys =>
              simp only [hset] at p
              intro G' H' v eg J
              cases hr : rv.rf with
              | true => rw [hr] at p; exact p.elim
              | false =>
                rw [hr] at p
                exact p F G' H' Gr.refl eg (I.back eg J.tail) v (I.backR eg J hr)
        | fv _ => cases hx'
        | _ => exact absurd rfl ow
section
variable {k n : Nat} {fa' : Addr} {fd : FuncData} {ps : List Str} {f : S → Res SV} {x y : Str} {p p2 pos : Pos} {es : List Expr} {dvs : List V} {ds : List Value} {dds : List D} {fa : M (List D)}
theorem do_callR (i : Nat) (Fn : FnOk X.prog X.w X.K X.mg X.base (L2.CX X.prog X.w) k fa' fd ps (spF X.K X.mg n f)) (hr : Room k X.A) (hm : X.mg x = some (.ref fa')) (hk : PySem.W.keepIn X.K (.ref fa') = true) (hb : Binds X.K fd ps ds) (hd : Vals dvs ds) (hdd : ∀ G, RpA X.K G dvs dds) (tk : Takes X W)
    (ha : DA X T B W es fa) (hn : ∀ s ds s', fa s = .ok ds s' → (ds ++ dds).length + 1 = n) (hg : Gl X x := by rfl) (hN : X.N[i]? = some y := by rfl) (hv : Vis X.env.scope y := by first | exact Or.inl rfl | exact Or.inr (Or.inl rfl) | exact Or.inr (Or.inr rfl)) (hdy : (y == ("__debug__" : Str)) = false := by decide)
    (hcd : (y == ("__classdict__" : Str)) = false := by decide) (hdb : (x == ("__debug__" : Str)) = false := by decide) (he : starEach (.Name y p2 :: es) X.env = (false, eval (.Name y p2) X.env) :: starEach es X.env := by rfl) (hpl : (backTo pos (starEach es X.env)).any (·.1) = false := by rfl) :
    DO X T B W (.Call (.Name x p) (.Name y p2 :: es) [] pos) (oCallR i f dds fa) := pe_weak (pe_callSD Fn hr hg hm hk hb hd (fun σ => passAt tk σ) (pa_cons (pe_var (i := i) hN hv hdy hcd) ha he) hdb he hpl) fun σ H Q ⟨F, G, s, I, q⟩ => by
  have hlen := hn s
  cases hh : hasV i s with
  | false =>
    unfold oCallR at q
    rw [hh] at q
    exact q.elim
  | true =>
    unfold oCallR at q
    rw [hh] at q
    simp only [if_true] at q
    obtain ⟨v0, hv0⟩ := I.has hh
    refine ⟨v0, hv0, F, G, s, I, ?_⟩
    cases ef : fa s with
    | bad => rw [ef] at q; exact q
    | ex c s' => rw [ef] at q; exact q
    | ok ds' s1 =>
      rw [ef] at q
      intro F1 G1 H1 g1 e1 I1 vs r1
      exact call_toR I1 hv0 (r1.app (hdd G1)) (hlen ds' s1 ef) (Po.mono q g1 e1)
end
end
end DL
set_option Elab.async false
set_option linter.all false
set_option maxRecDepth 100000
set_option maxHeartbeats 4000000
/-! DL8: what is walked; for; comprehensions -/
namespace DL
open PySem PySem.Spec L2
open PyProof.Rows hiding St
open Evl (Ex ex_l ex_t ex_rd)

/-! ### what is walked, as a list of data -/
/-- the i-th of items, as it is or as a new tuple -/
def YD (K : PySem.W.Frag) (G : Hp) (items : List D) (i : Nat) (H1 : Hp) (x : V) (H2 : Hp) : Prop := ∃ d, items[i]? = some d ∧ ((H2 = H1 ∧ Rp K G x d) ∨ ∃ q vs ds, x = .ref q ∧ H1 q = none ∧ H2 = upd H1 q (.tup vs) ∧ RpA K G vs ds ∧ d = .tuple ds)
def WalkD (K : PySem.W.Frag) (G : Hp) (J : It) (items : List D) : Prop := ∃ n Gd Y, Walk J n Gd Y ∧ n = items.length ∧ (∀ H, Ex G H → Gd H) ∧ ∀ i H1 x H2, i < n → Gd H1 → Y i H1 x H2 → YD K G items i H1 x H2
def TId (X : Cx) (T : List (Addr × Str)) (B : Addr) (W : WX) (f : M (List D)) : TI := fun σ H R => ∃ F G s, IS X.K T B F G H σ s ∧ Po X T B W F G σ (fun _ G' items _ H' => ∀ J, WalkD X.K G' J items → R J H') (f s)
def DI (X : Cx) (T : List (Addr × Str)) (B : Addr) (W : WX) (tg iter : Expr) (f : M (List D)) : Prop := PI X tg iter (TId X T B W f)
theorem pi_weak {X : Cx} {tg it : Expr} {t t' : TI} (h : PI X tg it t) (q : ∀ σ H R, t' σ H R → t σ H R) : PI X tg it t' := ⟨fun pins s σ H R I z => h.run pins s σ H R I (q σ H R z)⟩
theorem pi_or {X : Cx} {tg it : Expr} {t t' : TI} (h : PI X tg it t) (h' : PI X tg it t') : PI X tg it (fun σ H R => t σ H R ∨ t' σ H R) := ⟨fun pins s σ H R I z => z.elim (h.run pins s σ H R I) (h'.run pins s σ H R I)⟩
section
variable {X : Cx} {T : List (Addr × Str)} {B : Addr} {W : WX} {tg : Expr}
theorem runOk {fa : M D} {F G H : Hp} {σ : St} {s s1 : S} {d : D} {Q : VK} (I : IS X.K T B F G H σ s) (e : fa s = .ok d s1) (q : ∀ F' G' H' v, Gr T F F' → Ex G G' → IS X.K T B F' G' H' σ s1 → Rp X.K G' v d → Q v H') : TEd X T B W fa σ H Q :=
  ⟨F, G, s, I, by rw [e]; exact fun F' G' H' g ex I' v r => q F' G' H' v g ex I' r⟩
theorem runEx {fa : M D} {F G H : Hp} {σ : St} {s s1 : S} {c : Exc} {Q : VK} (I : IS X.K T B F G H σ s) (e : fa s = .ex c s1) (q : PoX X T B W F G σ c s1) : TEd X T B W fa σ H Q := ⟨F, G, s, I, by rw [e]; exact q⟩
def dSeq : D → Option (List D)
  | .list xs => some xs
  | .tuple xs => some xs
  | .str x => some (x.cps.toList.map fun c => .str ⟨#[c]⟩)
  | _ => none
theorem walkd_list {K : PySem.W.Frag} {G : Hp} {a : Addr} {xs : List V} {ds : List D} (hs : SqL K G a xs) (r : RpA K G xs ds) : WalkD K G (Itl K a) ds :=
  ⟨_, _, _, walk_list (xs := xs), r.len, fun H e => ex_l e hs, fun i H1 x H2 hi _ y => by
    obtain ⟨d, h1, h2⟩ := r.getV y.2
    exact ⟨d, h1, .inl ⟨y.1, h2⟩⟩⟩
theorem walkd_tup {K : PySem.W.Frag} {G : Hp} {a : Addr} {xs : List V} {ds : List D} (hs : SqT K G a xs) (r : RpA K G xs ds) : WalkD K G (Itt K a) ds :=
  ⟨_, _, _, walk_tup (xs := xs), r.len, fun H e => ex_t e hs, fun i H1 x H2 hi _ y => by
    obtain ⟨d, h1, h2⟩ := r.getV y.2
    exact ⟨d, h1, .inl ⟨y.1, h2⟩⟩⟩
theorem walkd_str {K : PySem.W.Frag} {G : Hp} {x : Str} : WalkD K G (Its x) (x.cps.toList.map fun c => .str ⟨#[c]⟩) :=
  ⟨_, _, _, walk_str (z := x), by simp, fun H e => trivial, fun i H1 v H2 hi _ y => by
    obtain ⟨e, c, h1, rfl⟩ := y
    refine ⟨.str ⟨#[c]⟩, ?_, .inl ⟨e, .str _⟩⟩
    rw [List.getElem?_map, Array.getElem?_toList, h1]
    rfl⟩
theorem walkd_range {K : PySem.W.Frag} {G : Hp} {lo : Int} {n : Nat} : WalkD K G (Itr lo n) (rangeD lo n) :=
  ⟨_, _, _, walk_range, rangeD_len.symm, fun H e => trivial, fun i H1 v H2 hi _ y => by
    obtain ⟨e, rfl⟩ := y
    exact ⟨_, rangeD_get hi, .inl ⟨e, .int _⟩⟩⟩
def zipD (xs ys : List D) : List D := (xs.zip ys).map fun p => .tuple [p.1, p.2]
def enumD (xs : List D) : List D := zipD (rangeD 0 xs.length) xs
/-- a list, a tuple, a text -/
theorem di_seq {e : Expr} {f : M D} (h : DE X T B W e f) : DI X T B W tg e (mUn dSeq f) := pi_weak (pi_or (pi_list (tg := tg) h) (pi_or (pi_tup (tg := tg) h) (pi_str (tg := tg) h))) fun σ H R ⟨F, G, s, I, p⟩ => by
  have p0 : Po X T B W F G σ (fun _ G' items _ H' => ∀ J, WalkD X.K G' J items → R J H') ((f s).bind (lift dSeq)) := p
  cases e : f s with
  | bad =>
    rw [e] at p0
    exact p0.elim
  | ex c s1 =>
    rw [e] at p0
    exact .inl (runEx I e p0)
  | ok d s1 =>
    rw [e] at p0
    obtain ⟨items, ei, p1⟩ := lift_inv (g := dSeq) (a := d) (s := s1) p0
    cases d with
    | list xs =>
      cases ei
      refine .inl (runOk I e fun F1 G1 H1 v g1 e1 I1 r1 => ?_)
      obtain ⟨a, vs, rfl, hs, r⟩ := r1.lst_inv
      exact ⟨a, rfl, ⟨vs, ex_l I1.gh hs⟩, p1 F1 G1 H1 g1 e1 I1 _ (walkd_list hs r)⟩
    | tuple xs =>
      cases ei
      refine .inr (.inl (runOk I e fun F1 G1 H1 v g1 e1 I1 r1 => ?_))
      obtain ⟨a, vs, rfl, hs, r⟩ := r1.tup_inv
      exact ⟨a, rfl, ⟨vs, ex_t I1.gh hs⟩, p1 F1 G1 H1 g1 e1 I1 _ (walkd_tup hs r)⟩
    | str x =>
      cases ei
      refine .inr (.inr (runOk I e fun F1 G1 H1 v g1 e1 I1 r1 => ?_))
      exact ⟨x, r1.str_inv, p1 F1 G1 H1 g1 e1 I1 _ walkd_str⟩
    | _ => cases ei
def dRng1 : D → Option (List D)
  | .int j => if rngOk j = true then some (rangeD 0 j.toNat) else none
  | _ => none
def dRng2 : D → D → Option (List D)
  | .int i, .int j => if rngOk i = true ∧ rngOk j = true then some (rangeD i (j - i).toNat) else none
  | _, _ => none
theorem di_range1 {a : Expr} {f : M D} {p pos : Pos} (hm : X.mg "range" = none) (h : DE X T B W a f) (hgl : Gl X "range" := by rfl) (hs : starEach [a] X.env = [(false, eval a X.env)] := by rfl) : DI X T B W tg (.Call (.Name "range" p) [a] [] pos) (mUn dRng1 f) :=
  pi_weak (pi_range1 hgl hm (pa_cons h pa_nil hs) hs) fun σ H R ⟨F, G, s, I, q⟩ => runE I q fun F1 G1 H1 s1 v d g1 e1 I1 r1 p1 => by
    obtain ⟨items, ei, p2⟩ := lift_inv p1
    cases d with
    | int j =>
      obtain ⟨hb, rfl⟩ := ite_inv ei
      have hb2 : -1000000000 ≤ j ∧ j ≤ 1000000000 := of_decide_eq_true hb
      exact ⟨j, by rw [r1.int_inv], by omega, by omega, p2.here I1 _ walkd_range⟩
    | _ => cases ei
theorem di_range2 {a b : Expr} {f g : M D} {p pos : Pos} (hm : X.mg "range" = none) (h : DE X T B W a f) (h2 : DE X T B W b g) (hgl : Gl X "range" := by rfl) (hs : starEach [a, b] X.env = [(false, eval a X.env), (false, eval b X.env)] := by rfl) (hs3 : starEach [b] X.env = [(false, eval b X.env)] := by rfl) :
    DI X T B W tg (.Call (.Name "range" p) [a, b] [] pos) (mOp dRng2 f g) :=
  pi_weak (pi_range2 hgl hm (pa_cons h (pa_cons h2 pa_nil hs3) (by rw [hs, hs3])) hs hs3) fun σ H R ⟨F, G, s, I, q⟩ => runE I q fun F1 G1 H1 s1 v d g1 e1 I1 r1 p1 => runE I1 p1 fun F2 G2 H2 s2 v2 d2 g2 e2 I2 r2 p2 => by
    obtain ⟨items, ei, p3⟩ := lift_inv p2
    cases d with
    | int i =>
      cases d2 with
      | int j =>
        obtain ⟨hb, rfl⟩ := ite_inv ei
        have hb1 : -1000000000 ≤ i ∧ i ≤ 1000000000 := of_decide_eq_true hb.1
        have hb2 : -1000000000 ≤ j ∧ j ≤ 1000000000 := of_decide_eq_true hb.2
        exact ⟨i, j, by rw [r1.int_inv, r2.int_inv], ⟨by omega, by omega, by omega, by omega⟩, p3.here I2 _ walkd_range⟩
      | _ => cases ei
    | _ => cases ei
def dZip : D → D → Option (List D)
  | .list xs, .list ys => some (zipD xs ys)
  | _, _ => none
def dEnum : D → Option (List D)
  | .list xs => some (enumD xs)
  | _ => none
/-! ### for -/
/-- an item comes: as it is, or as a new tuple -/
theorem IS.item {K : PySem.W.Frag} {F G H1 H2 : Hp} {σ : St} {s : S} {items : List D} {i : Nat} {x : V} {G0 : Hp} (I : IS K T B F G H1 σ s) (e0 : Ex G0 G) (y : YD K G0 items i H1 x H2) : ∃ G' d, items[i]? = some d ∧ Ex G G' ∧ IS K T B F G' H2 σ s ∧ Rp K G' x d := by
  obtain ⟨d, hd, ⟨e, r⟩ | ⟨q, vs, ds, rfl, hq, e, r, rfl⟩⟩ := y
  · subst e
    exact ⟨G, d, hd, Ex.refl _, I, r.mono e0⟩
  · subst e
    exact ⟨_, _, hd, ex_new I hq, I.new hq, .tup upd_same ((r.mono e0).mono (ex_new I hq))⟩
def gFor (fi : M (List D)) (tgt : D → S → Option S) (g : S → Out) : S → Out := fun s => (fi s).out fun items s1 => forL tgt g items s1
theorem ds_for {iter : Expr} {body : List Stmt} {fi : M (List D)} {js : List Nat} {tgt : D → S → Option S} {g : S → Out} {pos : Pos} (hp : PassesOwn (model X.prog X.w) X.A X.env X.xe) (hc : X.calm = true) (hi : DI X T B W tg iter fi) (hg : DG X T B js tg tgt) (hb : DSs X T B W body g)
    (hs2 : ∀ x, foldedSetIterable iter X.env x = pure x := by intro _; rfl) : DS X T B W (.For tg iter body [] pos) (gFor fi tgt g) :=
  ps_weak (ps_for hp hc hi hg hb hs2) fun D σ H ⟨F, G, s, I, p⟩ => by
    refine ⟨F, G, s, I, (PoS.out (σ := σ) p).imp fun F1 G1 items s1 H1 g1 e1 I1 q J wd => ?_⟩
    obtain ⟨n, Gd, Y, wk, rfl, hG, hY⟩ := wd
    refine for_it wk (PvL X T B W F1 G1 D tgt g items) ⟨F1, G1, s1, Gr.refl, Ex.refl _, q.1, q.2⟩ (fun i σ' H' _ q => hG _ (pvL_ex q)) (fun i x σ' H2 H3 hi pv y => ?_) fun σ' H' q => doneL (Nat.le_refl _) q
    obtain ⟨F2, G2, s2, g2, e2, I2, p2⟩ := pv
    obtain ⟨G3, d, hd, e3, I3, r3⟩ := I2.item e2 (hY i H2 x H3 hi (hG _ (e2.trans I2.gh)) y)
    have pv3 : PvL X T B W F2 G3 D tgt g items i σ' H3 := ⟨F2, G3, s2, Gr.refl, Ex.refl _, I3, p2.mono Gr.refl e3⟩
    obtain ⟨F4, G4, s4, d4, s5, I4, r4, et, k⟩ := turnL (js := js) hd pv3 fun G' e' => r3.mono e'
    refine ⟨F4, G4, s4, d4, s5, I4, r4, et, fun σ'' I'' l a => ?_⟩
    obtain ⟨F6, G6, s6, I6, p6⟩ := k σ'' I'' l a
    refine ⟨F6, G6, s6, I6, ?_⟩
    have up : ∀ {σ7 : St} {H7 : Hp}, PvL X T B W F2 G3 D tgt g items (i + 1) σ7 H7 → PvL X T B W F1 G1 D tgt g items (i + 1) σ7 H7 := fun ⟨F8, G8, s8, g8, e8, I8, p8⟩ => ⟨F8, G8, s8, g2.trans g8, (e2.trans e3).trans e8, I8, p8⟩
    cases eo : g s6 with
    | nx s7 => rw [eo] at p6; exact fun F' G' H' σ' a b c => up (p6 F' G' H' σ' a b c)
    | ct s7 => rw [eo] at p6; exact fun F' G' H' σ' a b c => up (p6 F' G' H' σ' a b c)
    | bk s7 => rw [eo] at p6; exact p6
    | rt v s7 => rw [eo] at p6; exact p6
    | ex c s7 => rw [eo] at p6; exact p6
    | bad => rw [eo] at p6; exact p6
end
end DL
set_option Elab.async false
set_option linter.all false
set_option maxRecDepth 100000
set_option maxHeartbeats 4000000
/-! DL9: comprehensions -/
namespace DL
open PySem PySem.Spec L2
open PyProof.Rows hiding St
open Evl (Ex ex_l ex_t ex_rd)

def wipeS (s : S) : List Nat → S
  | [] => s
  | v :: vs => (wipeS s vs).set v .un
/-- the names of a block are as ahead of it again -/
def restS (s s' : S) : List Nat → S
  | [] => s'
  | v :: vs => (restS s s' vs).set v (match s[v]? with
    | some (.d x) => .d x
    | _ => .un)
section
variable {K : PySem.W.Frag} {T : List (Addr × Str)} {B : Addr} {F F' G G' H H' : Hp} {σ : St} {s s' : S}
theorem IS.wipe (I : IS K T B F G H σ s) : ∀ vs : List Nat, IS K T B F G H (L2.wipe σ vs) (wipeS s vs)
  | [] => I
  | v :: vs => (IS.wipe I vs).forget v none
theorem restS_len (s s' : S) : ∀ vs : List Nat, (restS s s' vs).length = s'.length
  | [] => rfl
  | v :: vs => by
    unfold restS
    rw [List.length_set, restS_len s s' vs]
theorem restS_get {s s' : S} {i : Nat} {y : SV} : ∀ {vs : List Nat}, (restS s s' vs)[i]? = some y → (i ∈ vs ∧ (y = .un ∨ ∃ x, y = .d x ∧ s[i]? = some (.d x))) ∨ (i ∉ vs ∧ s'[i]? = some y)
  | [], h => .inr ⟨by simp, h⟩
  | v :: vs, h => by
    unfold restS at h
    rw [List.getElem?_set] at h
    by_cases e : v = i
    · subst e
      rw [if_pos rfl] at h
      split at h
      · refine .inl ⟨List.mem_cons_self, ?_⟩
        have h2 := Option.some.inj h
        split at h2
        · rename_i x ex
          exact .inr ⟨x, h2.symm, ex⟩
        · exact .inl h2.symm
      · cases h
    · rw [if_neg e] at h
      rcases restS_get h with ⟨h1, h2⟩ | ⟨h1, h2⟩
      · exact .inl ⟨List.mem_cons_of_mem _ h1, h2⟩
      · refine .inr ⟨fun z => ?_, h2⟩
        rcases List.mem_cons.mp z with z | z
        · exact e z.symm
        · exact h1 z
theorem slA_wipe {i : Nat} {vs : List Nat} (h : i ∉ vs) : slA (L2.wipe σ vs) i = slA σ i := by
  unfold slA
  rw [wipe_out h]
theorem IS.unwipe {vs : List Nat} (I : IS K T B F G H σ s) (e : Ex G G') (J : IS K T B F' G' H' (L2.wipe σ vs) s') : IS K T B F' G' H' σ (restS s s' vs) := by
  refine ⟨by rw [restS_len, J.len, wipe_length], J.fr, J.gh, J.dj, J.tb, fun i y hy => ?_, fun i j y z p ne hy hz oy oz ay az => ?_, J.tc⟩
  · rcases restS_get hy with ⟨h1, rfl | ⟨x, rfl, h2⟩⟩ | ⟨h1, h2⟩
    · trivial
    · obtain ⟨v, k1, k2⟩ := I.sl i _ h2
      exact ⟨v, k1, k2.mono e⟩
    · rw [← slA_wipe h1]
      exact J.sl i y h2
  · rcases restS_get hy with ⟨h1, rfl | ⟨x, rfl, h2⟩⟩ | ⟨h1, h2⟩
    · cases oy
    · cases oy
    · rcases restS_get hz with ⟨k1, rfl | ⟨x, rfl, k2⟩⟩ | ⟨k1, k2⟩
      · cases oz
      · cases oz
      · rw [← slA_wipe h1] at ay
        rw [← slA_wipe k1] at az
        exact J.ap i j y z p ne h2 k2 oy oz ay az
/-- a new thing that must stay -/
theorem IS.addF (I : IS K T B F G H σ s) {p : Addr} {u : HO} (hp : H p = none) (nt : ∀ xs, u ≠ .tup xs := by intro xs z; cases z) : IS K T B (upd F p u) G (upd H p u) σ s := by
  have J := I.loose (u := u) hp nt
  have fp := I.freshF hp
  have gp := I.freshG hp
  refine ⟨I.len, fun a w e => ?_, J.gh, fun a w e => ?_, I.tb.ext (Ex.new fp), fun i y hy => ?_, I.ap, J.tc⟩
  · by_cases h : a = p
    · rw [h, upd_same] at e
      rw [h, upd_same]
      exact e
    · rw [upd_ne h] at e ⊢
      exact I.fr a w e
  · by_cases h : a = p
    · rw [h]
      exact gp
    · rw [upd_ne h] at e
      exact I.dj a w e
  · have h0 := I.sl i y hy
    exact h0.mono (Ex.refl G) fun q w h1 h2 => by
      have nq := ne_of_none h1 hp
      exact ⟨h2, by rw [upd_ne nq]; exact h1, fun h3 => by rw [upd_ne nq]; exact h3⟩
theorem codeO_lst {c : Addr} {q : Str} {xs : List V} : LamX.CodeO c q ≠ .lst xs := fun z => by
  unfold LamX.CodeO at z
  cases z
theorem tabs_upd {p : Addr} {xs : List V} {u : HO} (h : LamX.Tabs T F) (hp : F p = some (.lst xs)) : LamX.Tabs T (upd F p u) := fun q hq => by
  obtain ⟨ps, h1, h2, h3⟩ := h q hq
  refine ⟨ps, by rw [upd_ne (ne_of h1 hp (fun z => by cases z))]; exact h1, h2, fun pos cv hc => ?_⟩
  obtain ⟨c, e1, e2⟩ := h3 pos cv hc
  exact ⟨c, e1, by rw [upd_ne (ne_of e2 hp codeO_lst)]; exact e2⟩
/-- it is changed -/
theorem IS.bump (I : IS K T B F G H σ s) {p : Addr} {xs ys : List V} (hp : F p = some (.lst xs)) : IS K T B (upd F p (.lst ys)) G (upd H p (.lst ys)) σ s := by
  have gp := I.dj p _ hp
  refine ⟨I.len, fun a w e => ?_, fun a w e => ?_, fun a w e => ?_, tabs_upd I.tb hp, fun i y hy => ?_, I.ap, I.tc.updH (fun xs z => nomatch z)⟩
  · by_cases h : a = p
    · rw [h, upd_same] at e
      rw [h, upd_same]
      exact e
    · rw [upd_ne h] at e ⊢
      exact I.fr a w e
  · rw [upd_ne (ne_of_none e gp)]
    exact I.gh a w e
  · by_cases h : a = p
    · rw [h]
      exact gp
    · rw [upd_ne h] at e
      exact I.dj a w e
  · exact (I.sl i y hy).mono3 (Ex.refl G) (fun q w h1 h2 h3 => by
      have nq : q ≠ p := fun z => by
        rw [z, hp] at h3
        cases h3
      exact ⟨h2, by rw [upd_ne nq]; exact h1, by rw [upd_ne nq]; exact h3⟩) fun q w h1 h2 h3 => by
      have nq : q ≠ p := inn_ne (I.fr p _ hp) rfl h1 h2
      exact ⟨h3, by rw [upd_ne nq]; exact h1, fun h4 => by rw [upd_ne nq]; exact h4⟩
/-- it is one's own from now on -/
theorem IS.dropF (I : IS K T B (upd F p (.lst vs)) G H σ s) {ds : List D} (hp : F p = none) (r : RpA K G vs ds) : IS K T B F G H (some (.ref p) :: σ) (.ol false ds :: s) := by
  have ne : ∀ {a w}, F a = some w → a ≠ p := fun e => ne_of_none e hp
  have up : ∀ {a w}, F a = some w → upd F p (.lst vs) a = some w := fun {a w} e => by rw [upd_ne (ne e)]; exact e
  have tb : LamX.Tabs T F := fun q hq => by
    obtain ⟨ps, h1, h2, h3⟩ := I.tb q hq
    have n1 : q.1 ≠ p := fun z => by
      rw [z, upd_same] at h1
      cases h1
    rw [upd_ne n1] at h1
    refine ⟨ps, h1, h2, fun pos cv hc => ?_⟩
    obtain ⟨c, e1, e2⟩ := h3 pos cv hc
    have n2 : c ≠ p := fun z => by
      rw [z, upd_same] at e2
      exact codeO_lst (Option.some.inj e2).symm
    rw [upd_ne n2] at e2
    exact ⟨c, e1, e2⟩
  have J : IS K T B F G H σ s := ⟨I.len, fun a w e => I.fr a w (up e), I.gh, fun a w e => I.dj a w (up e), tb, fun i y hy => (I.sl i y hy).mono (Ex.refl G) fun q w h1 h2 => ⟨h2, h1, fun h3 => by
    have nq : q ≠ p := fun z => by
      rw [z, upd_same] at h3
      cases h3
    rw [upd_ne nq] at h3
    exact h3⟩, I.ap, I.tc⟩
  refine J.push ⟨p, vs, rfl, (fun z => nomatch z), I.fr p _ upd_same, r, I.dj p _ upd_same, hp⟩ fun w q i y e1 e2 e3 e4 => ?_
  cases e1
  obtain ⟨r2, u, f1, f2, f3, f4⟩ := (I.sl i y e2).place e3
  rw [e4] at f1
  cases f1
  rw [upd_same] at f4
  cases f4
end
/-! ### the loop -/
def compL (tgt : D → S → Option S) (tt : M Bool) (f : M D) (vs : List Nat) : List D → List D → S → Res (List D)
  | [], acc, s => .ok acc s
  | x :: r, acc, s => match tgt x s with
    | none => .bad
    | some s1 => match tt s1 with
      | .ok true s2 => (match f s2 with
        | .ok y s3 => compL tgt tt f vs r (acc ++ [y]) (wipeS s3 vs)
        | _ => .bad)
      | .ok false s2 => compL tgt tt f vs r acc (wipeS s2 vs)
      | _ => .bad
/-- [elt for target in iter if ..] -/
def oLc (fi : M (List D)) (tgt : D → S → Option S) (tt : M Bool) (f : M D) (vs : List Nat) : M SV := fun s => (fi s).bind fun items s1 => if items.length ≤ lim then (match compL tgt tt f vs items [] (wipeS s1 vs) with
  | .ok ds s2 => .ok (.ol false ds) (restS s1 s2 vs)
  | _ => .bad) else .bad
theorem wipe_eq {σ σ' : St} {vs js : List Nat} (hl : σ'.length = σ.length) (ha : ∀ k, k ∉ js → σ'[k]? = σ[k]?) (hj : ∀ j ∈ js, j ∈ vs) : L2.wipe σ' vs = L2.wipe σ vs := by
  apply List.ext_getElem?
  intro i
  by_cases h : i ∈ vs
  · have key : ∀ (τ : St), i < τ.length → (L2.wipe τ vs)[i]? = some none := fun τ ht => by
      cases e : (L2.wipe τ vs)[i]? with
      | none =>
        rw [List.getElem?_eq_none_iff, wipe_length] at e
        omega
      | some o =>
        cases o with
        | none => rfl
        | some v => exact absurd h (wipe_some e).2
    by_cases hi : i < σ.length
    · rw [key σ' (by omega), key σ hi]
    · rw [List.getElem?_eq_none (by rw [wipe_length]; omega), List.getElem?_eq_none (by rw [wipe_length]; omega)]
  · rw [wipe_out h, wipe_out h]
    exact ha i fun z => h (hj i z)
theorem wipe_wipe (σ : St) (vs : List Nat) : L2.wipe (L2.wipe σ vs) vs = L2.wipe σ vs := wipe_eq (js := vs) (wipe_length σ vs) (fun k hk => wipe_out hk) fun _ h => h
abbrev W0 : WX := fun _ _ _ _ => False
/-- what holds ahead of a turn: p the new list's place -/
def PvC (X : Cx) (T : List (Addr × Str)) (B : Addr) (F G : Hp) (σ : St) (s : S) (Q : VK) (tgt : D → S → Option S) (tt : M Bool) (f : M D) (vs : List Nat) (p : Addr) (items : List D) (i : Nat) (H' : Hp) : Prop :=
  ∃ F' G' s' acc vacc, Gr T F F' ∧ Ex G G' ∧ F' p = none ∧ IS X.K T B (upd F' p (.lst vacc)) G' H' (L2.wipe σ vs) s' ∧ RpA X.K G' vacc acc ∧ acc.length ≤ i ∧
    match compL tgt tt f vs (items.drop i) acc s' with
    | .ok ds s2 => ∀ F2 G2 H2, Gr T F F2 → Ex G G2 → IS X.K T B F2 G2 H2 (some (.ref p) :: σ) (.ol false ds :: restS s s2 vs) → Q (.ref p) H2
    | _ => False
section
variable {X : Cx} {T : List (Addr × Str)} {B : Addr} {W : WX} {tg : Expr}
theorem turnC {F G H1 H2 : Hp} {σ : St} {s : S} {Q : VK} {tgt : D → S → Option S} {tt : M Bool} {f : M D} {vs js : List Nat} {p : Addr} {items : List D} {i : Nat} {x : V} (hj : ∀ j ∈ js, j ∈ vs) (hlim : items.length ≤ lim) (pv : PvC X T B F G σ s Q tgt tt f vs p items i H1) (y : YD X.K G items i H1 x H2) :
    TGd X T B js tgt x (L2.wipe σ vs) H2 fun σ2 H2 => L2.wipe σ2 vs = L2.wipe σ vs ∧ TTd X T B W0 tt σ2 H2 fun b H3 =>
      if b = true then TEd X T B W0 f σ2 H3 fun y H4 => ∃ acc, H4 p = some (.lst acc) ∧ acc.length < sizeLine ∧ PvC X T B F G σ s Q tgt tt f vs p items (i + 1) (upd H4 p (.lst (acc ++ [y]))) else PvC X T B F G σ s Q tgt tt f vs p items (i + 1) H3 := by
  obtain ⟨F1, G1, s1, acc, vacc, g1, e1, fp, I1, ra, la, q⟩ := pv
  obtain ⟨G2, d, hd, e2, I2, rd⟩ := I1.item e1 y
  have hi : i < items.length := (List.getElem?_eq_some_iff.mp hd).1
  have ed : items.drop i = d :: items.drop (i + 1) := by
    obtain ⟨h, e⟩ := List.getElem?_eq_some_iff.mp hd
    rw [List.drop_eq_getElem_cons h, e]
  rw [ed] at q
  unfold compL at q
  cases et : tgt d s1 with
  | none => rw [et] at q; exact q.elim
  | some s2 =>
    rw [et] at q
    refine ⟨_, G2, s1, d, s2, I2, rd, et, fun σ2 I3 hl ha => ?_⟩
    have hw : L2.wipe σ2 vs = L2.wipe σ vs := (wipe_eq hl ha hj).trans (wipe_wipe σ vs)
    refine ⟨hw, _, G2, s2, I3, ?_⟩
    -- how F may turn
    have back : ∀ {F4 : Hp}, Gr T (upd F1 p (.lst vacc)) F4 → ∃ F5, F5 p = none ∧ Gr T F F5 ∧ F4 p = some (.lst vacc) ∧ ∀ u, upd F5 p u = upd F4 p u := fun {F4} g4 => by
      refine ⟨fun a => if a = p then none else F4 a, if_pos rfl, ⟨fun a o h nt => ?_, fun ht => ?_⟩, g4.ex p _ upd_same (fun ps z => by cases z), fun u => ?_⟩
      · have h1 := g1.ex a o h nt
        have na : a ≠ p := ne_of_none h1 fp
        show (if a = p then none else F4 a) = some o
        rw [if_neg na]
        exact g4.ex a o (by rw [upd_ne na]; exact h1) nt
      · rw [g4.same ht, g1.same ht]
        funext a
        show (if a = p then none else upd F p (.lst vacc) a) = F a
        by_cases na : a = p
        · rw [if_pos na, na, ← g1.same ht, fp]
        · rw [if_neg na, upd_ne na]
      · funext a
        unfold upd
        by_cases na : a = p
        · rw [if_pos na, if_pos na]
        · rw [if_neg na, if_neg na]
          show (if a = p then none else F4 a) = F4 a
          rw [if_neg na]
    cases ett : tt s2 with
    | bad => simp only [ett] at q
    | ex c s3 => simp only [ett] at q
    | ok b s3 =>
      simp only [ett] at q
      intro F4 G4 H4 g4 e4 I4
      cases b with
      | false =>
        obtain ⟨F5, h1, h2, h3, h4⟩ := back g4
        have eF : upd F5 p (.lst vacc) = F4 := by
          rw [h4]
          funext a
          unfold upd
          by_cases na : a = p
          · rw [if_pos na, na, h3]
          · rw [if_neg na]
        refine ⟨F5, G4, wipeS s3 vs, acc, vacc, h2, (e1.trans e2).trans e4, h1, ?_, (ra.mono e2).mono e4, Nat.le_succ_of_le la, q⟩
        rw [eF, ← hw]
        exact I4.wipe vs
      | true =>
        simp only at q
        refine ⟨F4, G4, s3, I4, ?_⟩
        cases ef : f s3 with
        | bad => simp only [ef] at q
        | ex c s4 => simp only [ef] at q
        | ok z s4 =>
          simp only [ef] at q
          intro F6 G6 H6 g6 e6 I6 v rv
          obtain ⟨F5, h1, h2, h3, h4⟩ := back (g4.trans g6)
          refine ⟨vacc, I6.fr p _ h3, lim_lt (by rw [ra.len]; omega), F5, G6, wipeS s4 vs, acc ++ [z], vacc ++ [v], h2, ((e1.trans e2).trans e4).trans e6, h1, ?_, (((ra.mono e2).mono e4).mono e6).app (.one rv), by rw [List.length_append]; exact Nat.succ_le_succ la, q⟩
          rw [h4, ← hw]
          exact (I6.bump h3).wipe vs
theorem doneC {F G H' : Hp} {σ : St} {s : S} {Q : VK} {tgt : D → S → Option S} {tt : M Bool} {f : M D} {vs : List Nat} {p : Addr} {items : List D} (I : IS X.K T B F G H σ s) (pv : PvC X T B F G σ s Q tgt tt f vs p items items.length H') : Q (.ref p) H' := by
  obtain ⟨F1, G1, s1, acc, vacc, g1, e1, fp, I1, ra, la, q⟩ := pv
  rw [List.drop_eq_nil_of_le (Nat.le_refl _)] at q
  have q2 : ∀ F2 G2 H2, Gr T F F2 → Ex G G2 → IS X.K T B F2 G2 H2 (some (.ref p) :: σ) (.ol false acc :: restS s s1 vs) → Q (.ref p) H2 := q
  have J := I1.dropF fp ra
  have J2 := I.unwipe e1 J.tail
  refine q2 F1 G1 H' g1 e1 (J2.push J.head fun w r i y h1 h2 h3 h4 => ?_)
  rcases restS_get h2 with ⟨_, rfl | ⟨_, rfl, _⟩⟩ | ⟨k1, k2⟩
  · cases h3
  · cases h3
  · rw [← slA_wipe k1] at h4
    exact J.ap 0 (i + 1) _ y r (fun z => by cases z) rfl (by simpa using k2) w h3 h1 h4
theorem te_lc {wi : TI} {fi : M (List D)} {tgt : D → S → Option S} {tt : M Bool} {f : M D} {vs js : List Nat} (hj : ∀ j ∈ js, j ∈ vs) {σ : St} {H : Hp} {Q : VK} (h : TEo X T B W (oLc fi tgt tt f vs) σ H Q) :
    tLc (TId X T B W fi) (TGd X T B js tgt) (TTd X T B W0 tt) (TEd X T B W0 f) vs σ H Q := by
  obtain ⟨F, G, s, I, p⟩ := h
  refine ⟨F, G, s, I, Po.imp (Po.bind p) fun F1 G1 items s1 H1 g1 e1 I1 q J wd D hD => ?_⟩
  obtain ⟨n, Gd, Y, wk, rfl, hG, hY⟩ := wd
  obtain ⟨q1, q2⟩ := q
  by_cases hlim : items.length ≤ lim
  · rw [if_pos hlim] at q2
    have start : PvC X T B F1 G1 σ s1 Q tgt tt f vs D items 0 (upd H1 D (.lst [])) := by
      refine ⟨F1, G1, wipeS s1 vs, [], [], Gr.refl, Ex.refl _, I1.freshF hD, (I1.addF hD).wipe vs, .nil, Nat.le_refl _, ?_⟩
      rw [List.drop_zero]
      cases ec : compL tgt tt f vs items [] (wipeS s1 vs) with
      | bad => rw [ec] at q2; exact q2
      | ex c s2 => rw [ec] at q2; exact q2
      | ok ds s2 =>
        rw [ec] at q2
        exact fun F2 G2 H2 g2 e2 J2 => q2 F2 G2 H2 g2 e2 J2.tail _ J2
    refine lc_it wk (PvC X T B F1 G1 σ s1 Q tgt tt f vs D items) start (fun i H' _ pv => ?_) (fun i x H2 H3 hi pv y => ?_) fun H' pv => doneC q1 pv
    · obtain ⟨F2, G2, s2, acc, vacc, g2, e2, fp, I2, _⟩ := pv
      exact hG _ (e2.trans I2.gh)
    · refine turnC hj hlim pv (hY i H2 x H3 hi ?_ y)
      obtain ⟨F2, G2, s2, acc, vacc, g2, e2, fp, I2, _⟩ := pv
      exact hG _ (e2.trans I2.gh)
  · rw [if_neg hlim] at q2
    exact q2.elim
theorem do_lc {elt iter : Expr} {ifs : List Expr} {scope : Scope} (own : List (Str × Nat)) {pos : Pos} {fi : M (List D)} {tgt : D → S → Option S} {tt : M Bool} {f : M D} {js : List Nat} (hc : X.calm = true) (hN : X.N.Nodup) (hi : DI X T B W tg iter fi) (ok : BlkOk X.N X.env.scope scope own) (hj : ∀ j ∈ js, j ∈ own.map (·.2))
    (hg : ∀ (s : Shared) (H : Hp) (C : Addr) (cl : List (Str × Addr)) (fp : List Addr), DG (X.blk s H scope (compEnvC scope cl C X.env) fp) T B js tg tgt) (ht : ∀ (s : Shared) (H : Hp) (C : Addr) (cl : List (Str × Addr)) (fp : List Addr), PTs (X.blk s H scope (compEnvC scope cl C X.env) fp) ifs (TTd (X.blk s H scope (compEnvC scope cl C X.env) fp) T B W0 tt))
    (he : ∀ (s : Shared) (H : Hp) (C : Addr) (cl : List (Str × Addr)) (fp : List Addr), DE (X.blk s H scope (compEnvC scope cl C X.env) fp) T B W0 elt f) (hs : ∀ x, foldedSetIterable iter X.env x = pure x := by intro _; rfl) :
    DO X T B W (.ListComp elt [⟨tg, iter, ifs, 0⟩] scope pos) (oLc fi tgt tt f (own.map (·.2))) := pe_weak (pe_lc hc hN hi ok (g := TGd X T B js tgt) (tt := TTd X T B W0 tt) (te := TEd X T B W0 f) hg ht he hs) fun σ H Q h => te_lc (wi := TId X T B W fi) hj h
/-- y = [..] on one line -/
theorem ds_setLc (i : Nat) {y : Str} {py spos : Pos} {elt iter : Expr} {ifs : List Expr} {scope : Scope} (own : List (Str × Nat)) {pos : Pos} {fi : M (List D)} {tgt : D → S → Option S} {tt : M Bool} {f : M D} {js : List Nat} (hc : X.calm = true) (hN : X.N.Nodup) (hi : DI X T B W tg iter fi) (ok : BlkOk X.N X.env.scope scope own) (hj : ∀ j ∈ js, j ∈ own.map (·.2))
    (hg : ∀ (s : Shared) (H : Hp) (C : Addr) (cl : List (Str × Addr)) (fp : List Addr), DG (X.blk s H scope (compEnvC scope cl C X.env) fp) T B js tg tgt) (ht : ∀ (s : Shared) (H : Hp) (C : Addr) (cl : List (Str × Addr)) (fp : List Addr), PTs (X.blk s H scope (compEnvC scope cl C X.env) fp) ifs (TTd (X.blk s H scope (compEnvC scope cl C X.env) fp) T B W0 tt))
    (he : ∀ (s : Shared) (H : Hp) (C : Addr) (cl : List (Str × Addr)) (fp : List Addr), DE (X.blk s H scope (compEnvC scope cl C X.env) fp) T B W0 elt f) (hsw : swapsWith (.ListComp elt [⟨tg, iter, ifs, 0⟩] scope pos) (some (.Name y py)) spos.line X.env = pure true) (hy : X.N[i]? = some y := by rfl) (hyl : X.env.scope.names.lookup y = some .local := by rfl) (hs : ∀ x, foldedSetIterable iter X.env x = pure x := by intro _; rfl) :
    DS X T B W (.Assign [.Name y py] (.ListComp elt [⟨tg, iter, ifs, 0⟩] scope pos) spos) (gSetO i (oLc fi tgt tt f (own.map (·.2)))) := ps_weak (ps_setLc hc hN hy hyl hsw hi ok (g := TGd X T B js tgt) (tt := TTd X T B W0 tt) (te := TEd X T B W0 f) hg ht he hs) fun D σ H ⟨F, G, s, I, p⟩ => by
  have h : TEo X T B W (oLc fi tgt tt f (own.map (·.2))) σ H (fun v H1 => gName i v σ H1 D.nx) := outO I p fun F1 G1 H1 s1 v x g1 e1 I1 p1 => p1.nxt (I1.store i)
  exact te_lc (wi := TId X T B W fi) hj h
theorem dts_nil : PTs X [] (TTd X T B W (M.ret true)) := ⟨fun pins s σ H Q I h => by
  obtain ⟨F, G, s', J, p⟩ := h
  exact pts_nil.run pins s σ H Q I (p.here J)⟩
theorem dts_one {c : Expr} {t : M Bool} (h : DT X T B W c t) : PTs X [c] (TTd X T B W t) := pts_one h
end
end DL
set_option Elab.async false
set_option linter.all false
set_option maxRecDepth 100000
set_option maxHeartbeats 4000000
/-! DL10: own lists and dicts: looked into, changed -/
namespace DL
open PySem PySem.Spec L2
open PyProof.Rows hiding St
open Evl (Ex ex_l ex_t ex_rd)

/-! ### dicts by keys -/
def keyD : D → Option Key
  | .int i => some (.inl i)
  | .str x => some (.inr x)
  | _ => none
theorem keyD_rp {K : PySem.W.Frag} {G : Hp} {v : V} {d : D} {k : Key} (h : Rp K G v d) (e : keyD d = some k) : v = kV k := by
  cases h with
  | int i => cases e; rfl
  | str x => cases e; rfl
  | _ => cases e
def isS : D → Bool
  | .str _ => true
  | _ => false
def keysD : List D → Option (List Key)
  | [] => some []
  | d :: r => match keyD d, keysD r with
    | some k, some l => some (k :: l)
    | _, _ => none
/-- a tuple of ints and texts, a text among them -/
def keyL : D → Option (List Key)
  | .tuple ds => if ds.any isS = true then keysD ds else none
  | _ => none
theorem keysD_rp {K : PySem.W.Frag} {G : Hp} : ∀ {vs : List V} {ds : List D} {ks : List Key}, RpA K G vs ds → keysD ds = some ks → vs = ks.map kV
  | _, _, _, .nil, e => by
    cases e
    rfl
  | _, _, ks, .cons (d := d) (ds := ds) h r, e => by
    unfold keysD at e
    cases h1 : keyD d with
    | none => rw [h1] at e; cases e
    | some k =>
      cases h2 : keysD ds with
      | none => rw [h1, h2] at e; cases e
      | some l =>
        rw [h1, h2] at e
        cases e
        rw [keyD_rp h h1, keysD_rp r h2]
        rfl
theorem ints_noS : ∀ is : List Int, (is.map PyData.int).any isS = false
  | [] => rfl
  | i :: is => ints_noS is
theorem keyL_inv {d : D} {k : List Key} (e : keyL d = some k) : ∃ ds, d = .tuple ds ∧ ds.any isS = true ∧ keysD ds = some k := by
  unfold keyL at e
  split at e
  · split at e
    · exact ⟨_, rfl, by assumption, e⟩
    · cases e
  · cases e
theorem keyL_rp {K : PySem.W.Frag} {G : Hp} {v : V} {d : D} {k : List Key} (h : Rp K G v d) (e : keyL d = some k) : ∃ b, v = .ref b ∧ G b = some (.tup (k.map kV)) := by
  obtain ⟨ds, rfl, h1, h2⟩ := keyL_inv e
  generalize hd : PyData.tuple ds = dd at h
  cases h with
  | tup hg r =>
    cases hd
    rw [keysD_rp r h2] at hg
    exact ⟨_, rfl, hg⟩
  | @tpK a is hk =>
    cases hd
    rw [ints_noS] at h1
    cases h1
  | _ => cases hd
/-- what is found, or nothing -/
def OkL (K : PySem.W.Frag) (G : Hp) (r : Option V) : Option D → Prop
  | some d => ∃ u, r = some u ∧ Rp K G u d
  | none => r = none
/-- the value at a key -/
def lookK {κ : Type} [DecidableEq κ] : List κ → List D → κ → Option D
  | a :: ks, d :: ds, k => if a = k then some d else lookK ks ds k
  | _, _, _ => none
/-- a value put at a key: in its place, or at the end -/
def putD {κ : Type} [DecidableEq κ] : List κ → List D → κ → D → List D
  | a :: ks, d :: ds, k, v => if a = k then v :: ds else d :: putD ks ds k v
  | _, _, _, v => [v]
def hasK {κ : Type} [DecidableEq κ] (ks : List κ) (k : κ) : Bool := ks.any fun a => decide (a = k)
def putKs {κ : Type} [DecidableEq κ] (ks : List κ) (k : κ) : List κ := if hasK ks k = true then ks else ks ++ [k]
section
variable {K : PySem.W.Frag} {G : Hp} {κ : Type} [DecidableEq κ]
theorem look_rp {κ : Type} [DecidableEq κ] : ∀ {kvs : List (κ × V)} {ds : List D} {k : κ}, RpA K G (kvs.map (·.2)) ds → match lookK (kvs.map (·.1)) ds k with
    | some d => ∃ v, valV kvs k = some v ∧ Rp K G v d
    | none => valV kvs k = none
  | [], _, k, .nil => rfl
  | (a, v) :: r, d :: ds, k, .cons h t => by
    unfold lookK valV
    show match (if a = k then some d else lookK (r.map (·.1)) ds k) with
      | some d => ∃ w, (((a, v) :: r).find? fun kv => decide (kv.1 = k)).map (·.2) = some w ∧ Rp K G w d
      | none => (((a, v) :: r).find? fun kv => decide (kv.1 = k)).map (·.2) = none
    rw [List.find?_cons]
    by_cases e : a = k
    · rw [if_pos e, decide_eq_true e]
      exact ⟨v, rfl, h⟩
    · rw [if_neg e, decide_eq_false e]
      exact look_rp t
theorem look_ok {kvs : List (κ × V)} {ds : List D} {k : κ} (r : RpA K G (kvs.map (·.2)) ds) : OkL K G (valV kvs k) (lookK (kvs.map (·.1)) ds k) := by
  have q := look_rp (k := k) r
  cases e : lookK (kvs.map (·.1)) ds k with
  | none =>
    rw [e] at q
    exact q
  | some d =>
    rw [e] at q
    exact q
theorem nodup_map_set {r : List (κ × V)} {k : κ} {v : V} (h : k ∉ r.map (·.1)) : r.map (fun kv => if kv.1 = k then (kv.1, v) else kv) = r := by
  induction r with
  | nil => rfl
  | cons p r ih =>
    have h1 : p.1 ≠ k := fun e => h (by rw [List.map_cons, e]; exact List.mem_cons_self)
    have h2 : k ∉ r.map (·.1) := fun e => h (by rw [List.map_cons]; exact List.mem_cons_of_mem _ e)
    rw [List.map_cons, if_neg h1, ih h2]
theorem put_keys {kvs : List (κ × V)} {k : κ} {v : V} : (putK kvs k v).map (·.1) = putKs (kvs.map (·.1)) k := by
  unfold putK putKs hasK
  rw [List.any_map]
  by_cases h : (kvs.any fun kv => decide (kv.1 = k)) = true
  · rw [if_pos h, if_pos (show (kvs.any ((fun a => decide (a = k)) ∘ fun x => x.1)) = true from h), List.map_map]
    apply List.map_congr_left
    intro a _
    show (if a.1 = k then (a.1, v) else a).1 = a.1
    split <;> rfl
  · rw [if_neg h, if_neg (show ¬ (kvs.any ((fun a => decide (a = k)) ∘ fun x => x.1)) = true from h), List.map_append]
    rfl
theorem put_rp_end {κ : Type} [DecidableEq κ] : ∀ {kvs : List (κ × V)} {ds : List D} {k : κ} {v : V} {d : D}, RpA K G (kvs.map (·.2)) ds → Rp K G v d → k ∉ kvs.map (·.1) → RpA K G ((kvs ++ [(k, v)]).map (·.2)) (putD (kvs.map (·.1)) ds k d)
  | [], _, k, v, d, .nil, h, _ => .one h
  | (a, w) :: r, e :: ds, k, v, d, .cons h0 t, h, hn => by
    have n1 : a ≠ k := fun z => hn (by rw [← z]; exact List.mem_cons_self)
    show RpA K G (w :: (r ++ [(k, v)]).map (·.2)) (if a = k then d :: ds else e :: putD (r.map (·.1)) ds k d)
    rw [if_neg n1]
    exact .cons h0 (put_rp_end t h fun z => hn (List.mem_cons_of_mem _ z))
theorem put_rp_in {κ : Type} [DecidableEq κ] : ∀ {kvs : List (κ × V)} {ds : List D} {k : κ} {v : V} {d : D}, RpA K G (kvs.map (·.2)) ds → Rp K G v d → k ∈ kvs.map (·.1) → (kvs.map (·.1)).Nodup → RpA K G ((kvs.map fun kv => if kv.1 = k then (kv.1, v) else kv).map (·.2)) (putD (kvs.map (·.1)) ds k d)
  | [], _, k, v, d, .nil, h, hi, _ => by cases hi
  | (a, w) :: r, e :: ds, k, v, d, .cons h0 t, h, hi, hn => by
    have hn2 := List.nodup_cons.mp hn
    by_cases ea : a = k
    · subst ea
      show RpA K G (((if a = a then (a, v) else (a, w)) :: r.map fun kv => if kv.1 = a then (kv.1, v) else kv).map (·.2)) (if a = a then d :: ds else e :: putD (r.map (·.1)) ds a d)
      rw [if_pos rfl, if_pos rfl, nodup_map_set hn2.1]
      exact .cons h t
    · show RpA K G (((if a = k then (a, v) else (a, w)) :: r.map fun kv => if kv.1 = k then (kv.1, v) else kv).map (·.2)) (if a = k then d :: ds else e :: putD (r.map (·.1)) ds k d)
      rw [if_neg ea, if_neg ea]
      refine .cons h0 (put_rp_in t h ?_ hn2.2)
      rcases List.mem_cons.mp hi with z | z
      · exact absurd z.symm ea
      · exact z
theorem put_rp {kvs : List (κ × V)} {ds : List D} {k : κ} {v : V} {d : D} (r : RpA K G (kvs.map (·.2)) ds) (h : Rp K G v d) (hn : (kvs.map (·.1)).Nodup) : RpA K G ((putK kvs k v).map (·.2)) (putD (kvs.map (·.1)) ds k d) := by
  unfold putK
  split
  · rename_i h1
    refine put_rp_in r h ?_ hn
    rw [List.any_eq_true] at h1
    obtain ⟨x, h2, h3⟩ := h1
    exact List.mem_map.mpr ⟨x, h2, of_decide_eq_true h3⟩
  · rename_i h1
    refine put_rp_end r h fun z => h1 ?_
    obtain ⟨x, h2, h3⟩ := List.mem_map.mp z
    exact List.any_eq_true.mpr ⟨x, h2, decide_eq_true h3⟩
end
theorem pe_or {X : Cx} {e : Expr} {t t' : TE} (h : PE X e t) (h' : PE X e t') : PE X e (fun σ H Q => t σ H Q ∨ t' σ H Q) := ⟨fun pins s σ H Q I z => z.elim (h.run pins s σ H Q I) (h'.run pins s σ H Q I)⟩
theorem ps_or {X : Cx} {e : Stmt} {t t' : TS} (h : PS X e t) (h' : PS X e t') : PS X e (fun D σ H => t D σ H ∨ t' D σ H) := ⟨fun pins s σ H Q I z => z.elim (h.run pins s σ H Q I) (h'.run pins s σ H Q I)⟩

/-! ### what a name holds, looked into -/
/-- an own dict's keys and values, or a shared one's -/
def keyOk (t : Bool) (k : D) : Bool := if t then (keyL k).isSome else (keyD k).isSome
def kindD : List (D × D) → Bool
  | (.tuple _, _) :: _ => true
  | _ => false
open Classical in
/-- the value at a key, of data -/
noncomputable def lookD : List (D × D) → D → Option D
  | [], _ => none
  | (a, d) :: r, k => if a = k then some d else lookD r k
theorem kD_inj {a b : Key} (h : kD a = kD b) : a = b := by
  cases a with
  | inl i =>
    cases b with
    | inl j =>
      injection h with h
      rw [h]
    | inr y => cases h
  | inr x =>
    cases b with
    | inl j => cases h
    | inr y =>
      injection h with h
      rw [h]
theorem kDs_inj : ∀ {a b : List Key}, a.map kD = b.map kD → a = b
  | [], [], _ => rfl
  | [], _ :: _, h => by cases h
  | _ :: _, [], h => by cases h
  | x :: a, y :: b, h => by
    obtain ⟨h1, h2⟩ := List.cons.inj h
    rw [kD_inj h1, kDs_inj h2]
theorem kT_inj {a b : List Key} (h : kT a = kT b) : a = b := by
  unfold kT at h
  injection h with h
  exact kDs_inj h
open Classical in
theorem lookD_zip {κ : Type} [DecidableEq κ] {f : κ → D} (inj : ∀ a b, f a = f b → a = b) : ∀ {ks : List κ} {ds : List D} {k : κ}, lookD ((ks.map f).zip ds) (f k) = lookK ks ds k
  | [], ds, k => by cases ds <;> rfl
  | a :: ks, [], k => rfl
  | a :: ks, d :: ds, k => by
    show (if f a = f k then some d else lookD ((ks.map f).zip ds) (f k)) = if a = k then some d else lookK ks ds k
    by_cases h : a = k
    · rw [if_pos h, if_pos (by rw [h])]
    · rw [if_neg h, if_neg (fun z => h (inj _ _ z)), lookD_zip inj]
theorem keyD_kD {d : D} {k : Key} (h : keyD d = some k) : d = kD k := by
  cases d with
  | int i => cases h; rfl
  | str x => cases h; rfl
  | _ => cases h
theorem keysD_kD : ∀ {ds : List D} {ks : List Key}, keysD ds = some ks → ds = ks.map kD
  | [], ks, h => by
    cases h
    rfl
  | d :: ds, ks, h => by
    unfold keysD at h
    cases h1 : keyD d with
    | none => rw [h1] at h; cases h
    | some k =>
      cases h2 : keysD ds with
      | none => rw [h1, h2] at h; cases h
      | some l =>
        rw [h1, h2] at h
        cases h
        rw [keyD_kD h1, keysD_kD h2]
        rfl
theorem keyL_kT {d : D} {k : List Key} (h : keyL d = some k) : d = kT k := by
  unfold keyL at h
  split at h
  · split at h
    · rw [keysD_kD h]
      rfl
    · cases h
  · cases h
noncomputable def lookV : SV → D → Option (Option D)
  | .od _ ks xs, k => (keyD k).map (lookK ks xs)
  | .fd _ ks xs, k => (keyL k).map (lookK ks xs)
  | .d (.dict kvs), k => if keyOk (kindD kvs) k = true then some (lookD kvs k) else none
  | _, _ => none
def SV.isD : SV → Bool
  | .od _ _ _ => true
  | .fd _ _ _ => true
  | .d (.dict _) => true
  | _ => false
section
variable {K : PySem.W.Frag} {T : List (Addr × Str)} {B : Addr} {F G H : Hp} {σ : St} {s : S}
/-- what a data dict holds -/
theorem look_data {v w : V} {kvs : List (D × D)} {k : D} {o : Option D} (hv : Rp K G v (.dict kvs)) (hw : Rp K G w k) (gh : Ex G H) (hl : (if keyOk (kindD kvs) k = true then some (lookD kvs k) else none) = some o) : ∃ p r, v = .ref p ∧ DGet H p w r ∧ OkL K G r o := by
  split at hl
  · rename_i hk
    cases hl
    generalize hd : PyData.dict kvs = dd at hv
    cases hv with
    | @dct a ob kv ks ds hg hks hr =>
      cases hd
      have kd : kindD ((ks.map kD).zip ds) = false := by
        cases ks with
        | nil => rfl
        | cons x ks =>
          cases ds with
          | nil => rfl
          | cons d ds => cases x <;> rfl
      rw [kd] at hk
      obtain ⟨kk, hkk⟩ := Option.isSome_iff_exists.mp (show (keyD k).isSome = true from hk)
      refine ⟨a, valV kv kk, rfl, .inl ⟨kv, kk, .inr ⟨ob, gh _ _ hg⟩, keyD_rp hw hkk, rfl⟩, ?_⟩
      rw [keyD_kD hkk, lookD_zip (fun _ _ => kD_inj), ← hks]
      exact look_ok hr
    | @dcT a ob kv ks ds hg hne hks hr =>
      cases hd
      have kd : kindD ((ks.map kT).zip ds) = true := by
        cases kv with
        | nil => exact absurd rfl hne
        | cons x kv =>
          cases hr with
          | cons _ _ =>
            subst hks
            rfl
      rw [kd] at hk
      obtain ⟨kk, hkk⟩ := Option.isSome_iff_exists.mp (show (keyL k).isSome = true from hk)
      obtain ⟨b, e1, e2⟩ := keyL_rp hw hkk
      refine ⟨a, valV kv kk, rfl, .inr ⟨kv, kk, b, .inr ⟨ob, gh _ _ hg⟩, e1, gh _ _ e2, rfl⟩, ?_⟩
      rw [keyL_kT hkk, lookD_zip (fun _ _ => kT_inj), ← hks]
      exact look_ok hr
    | _ => cases hd
  · cases hl
/-- what a dict that a name holds holds -/
theorem IS.look (I : IS K T B F G H σ s) {i : Nat} {x : SV} {v : V} {k : D} {o : Option D} (hx : s[i]? = some x) (hr : Rp K G v k) (hl : lookV x k = some o) : ∃ p r, σ[i]? = some (some (.ref p)) ∧ DGet H p v r ∧ OkL K G r o := by
  cases x with
  | od r ks' xs' =>
    obtain ⟨p, kvs, h1, h2, h3, h4, h5, h6, h7⟩ := I.sl i _ hx
    have hl2 : (keyD k).map (lookK ks' xs') = some o := hl
    cases hk : keyD k with
    | none => rw [hk] at hl2; cases hl2
    | some kk =>
      rw [hk] at hl2
      cases hl2
      subst h4
      exact ⟨p, valV kvs kk, slA_some h1, .inl ⟨kvs, kk, .inl h3, keyD_rp hr hk, rfl⟩, look_ok h5⟩
  | fd r ks' xs' =>
    obtain ⟨p, kvs, _, h1, h2, h3, h4, h5, h6, h7⟩ := I.sl i _ hx
    have hl2 : (keyL k).map (lookK ks' xs') = some o := hl
    cases hk : keyL k with
    | none => rw [hk] at hl2; cases hl2
    | some kk =>
      rw [hk] at hl2
      cases hl2
      subst h4
      obtain ⟨b, e1, e2⟩ := keyL_rp hr hk
      exact ⟨p, valV kvs kk, slA_some h1, .inr ⟨kvs, kk, b, .inl h3, e1, I.gh _ _ e2, rfl⟩, look_ok h5⟩
  | d c =>
    cases c with
    | dict kvs =>
      obtain ⟨w, h1, h2⟩ := I.dat hx
      obtain ⟨p, r, rfl, k1, k2⟩ := look_data h2 hr I.gh hl
      exact ⟨p, r, h1, k1, k2⟩
    | _ => cases hl
  | _ => cases hl
theorem IS.isD (I : IS K T B F G H σ s) {i : Nat} {x : SV} (hx : s[i]? = some x) (h : x.isD = true) : ∃ p, σ[i]? = some (some (.ref p)) ∧ IsD H p := by
  cases x with
  | od r ks' xs' =>
    obtain ⟨p, kvs, h1, h2, h3, h4, h5, h6, h7⟩ := I.sl i _ hx
    exact ⟨p, slA_some h1, .inl ⟨kvs, .inl h3⟩⟩
  | fd r ks' xs' =>
    obtain ⟨p, kvs, _, h1, h2, h3, h4, h5, h6, h7⟩ := I.sl i _ hx
    exact ⟨p, slA_some h1, .inr ⟨kvs, .inl h3⟩⟩
  | d c =>
    cases c with
    | dict kvs =>
      obtain ⟨w, h1, h2⟩ := I.dat hx
      generalize hd : PyData.dict kvs = dd at h2
      cases h2 with
      | @dct a ob kv ks ds hg _ _ => exact ⟨_, h1, .inl ⟨kv, .inr ⟨ob, I.gh _ _ hg⟩⟩⟩
      | @dcT a ob kv ks ds hg _ _ _ => exact ⟨_, h1, .inr ⟨kv, .inr ⟨ob, I.gh _ _ hg⟩⟩⟩
      | _ => cases hd
    | _ => cases h
  | _ => cases h
theorem IS.lst (I : IS K T B F G H σ s) {i : Nat} {r : Bool} {xs : List D} (hx : s[i]? = some (.ol r xs)) : ∃ p vs, σ[i]? = some (some (.ref p)) ∧ H p = some (.lst vs) ∧ RpA K G vs xs := by
  obtain ⟨p, vs, h1, h2, h3, h4, h5, h6⟩ := I.sl i _ hx
  exact ⟨p, vs, slA_some h1, h3, h4⟩
end
/-- x[e], x a name -/
noncomputable def ixV : SV → D → Option D
  | .d (.dict kvs), k => (lookV (.d (.dict kvs)) k).join
  | .d c, k => dIx c k
  | .ol _ xs, k => dIx (.list xs) k
  | .od r ks xs, k => (lookV (.od r ks xs) k).join
  | .fd r ks xs, k => (lookV (.fd r ks xs) k).join
  | .un, _ => none
  | .fv _, _ => none
  | .sp _ _, _ => none
noncomputable def mPix (i : Nat) (fe : M D) : M D := fun s => if hasV i s = true then (fe s).bind (fun k s1 => match s1[i]? with
  | some x => lift (ixV x) k s1
  | none => .bad) else .bad
section
variable {X : Cx} {T : List (Addr × Str)} {B : Addr} {W : WX}
theorem de_pix (i : Nat) {y : Str} {b : Expr} {fe : M D} {p pos : Pos} (hu : X.A.units + 64 < cLine) (hb : DE X T B W b fe) (hs : PlainIx b := by intro _ _; rfl) (hN : X.N[i]? = some y := by rfl) (hv : Vis X.env.scope y := by first | exact Or.inl rfl | exact Or.inr (Or.inl rfl) | exact Or.inr (Or.inr rfl)) (hdy : (y == ("__debug__" : Str)) = false := by decide)
    (hcd : (y == ("__classdict__" : Str)) = false := by decide) : DE X T B W (.Subscript (.Name y p) b pos) (mPix i fe) :=
  pe_weak (pe_or (pe_ix ix_seq (pe_var (i := i) (pos := p) hN hv hdy hcd) hb hs) (pe_dget (by omega) (pe_var (i := i) (pos := p) hN hv hdy hcd) hb hs)) fun σ H Q ⟨F, G, s, I, q⟩ => by
    unfold mPix at q
    by_cases hh : hasV i s = true
    · rw [if_pos hh] at q
      obtain ⟨v0, hv0⟩ := I.has hh
      cases e : fe s with
      | bad => rw [e] at q; exact q.elim
      | ex c s1 => rw [e] at q; exact .inl ⟨v0, hv0, runEx I e q⟩
      | ok k s1 =>
        rw [e] at q
        have q1 : Po X T B W F G σ (fun _ G' d _ H' => ∀ v, Rp X.K G' v d → Q v H') (match s1[i]? with
          | some x => lift (ixV x) k s1
          | none => .bad) := q
        cases hx : s1[i]? with
        | none => rw [hx] at q1; exact q1.elim
        | some x =>
          rw [hx] at q1
          obtain ⟨d, ed, q2⟩ := lift_inv q1
          have dictC : (lookV x k).join = some d → tDGet (tVar i) (TEd X T B W fe) σ H Q := fun hl => ⟨v0, hv0, runOk I e fun F1 G1 H1 v g1 e1 I1 r1 => by
            have hl2 : lookV x k = some (some d) := by
              cases z : lookV x k with
              | none => rw [z] at hl; cases hl
              | some o =>
                rw [z] at hl
                rw [show o = some d from hl]
            obtain ⟨p, r, h1, h2, w, rfl, k2⟩ := I1.look hx r1 hl2
            rw [hv0] at h1
            cases h1
            exact ⟨p, w, rfl, h2, q2 F1 G1 H1 g1 e1 I1 w k2⟩⟩
          cases x with
          | un => cases ed
          | d c =>
            have sq : dIx c k = some d → tOp (rIx X.K) (tVar i) (TEd X T B W fe) σ H Q := fun ed => ⟨v0, hv0, runOk I e fun F1 G1 H1 v g1 e1 I1 r1 => by
              obtain ⟨w, h1, h2⟩ := I1.dat hx
              rw [hv0] at h1
              cases h1
              exact ops_ix T B F1 G1 H1 σ s1 _ v c k d Q I1 h2 r1 ed fun F' G' H' v a b c d => q2 F' G' H' (g1.trans a) (e1.trans b) c v d⟩
            cases c with
            | dict kvs => exact .inr (dictC ed)
            | _ => exact .inl (sq ed)
          | ol r xs =>
            refine .inl ⟨v0, hv0, runOk I e fun F1 G1 H1 v g1 e1 I1 r1 => ?_⟩
            obtain ⟨p, vs, h1, h2, h3⟩ := I1.lst hx
            rw [hv0] at h1
            cases h1
            cases k with
            | int j =>
              obtain ⟨w, k1, k2⟩ := h3.atI (i := j) ed
              exact .inl ⟨p, vs, j, w, rfl, r1.int_inv, SqL.of h2, k1, q2 F1 G1 H1 g1 e1 I1 w k2⟩
            | _ => cases ed
          | od r ks xs => exact .inr (dictC ed)
          | fd r ks xs => exact .inr (dictC ed)
          | fv _ => cases ed
          | sp _ _ => cases ed
    · rw [if_neg hh] at q
      exact q.elim
/-- x[e] = v, x a name that holds an own list or dict -/
def setV : SV → D → D → Option SV
  | .ol r xs, .int j, v => (ixN xs.length j).map fun n => .ol r (xs.set n v)
  | .od r ks xs, k, v => (keyD k).bind fun kk => if ks.length < lim ∧ ks.Nodup then some (.od r (putKs ks kk) (putD ks xs kk v)) else none
  | .fd r ks xs, k, v => (keyL k).bind fun kk => if ks.length < lim ∧ ks.Nodup then some (.fd r (putKs ks kk) (putD ks xs kk v)) else none
  | _, _, _ => none
def gSetIx (i : Nat) (fe fv : M D) : S → Out := fun s => (fv s).out fun v s1 => if hasV i s1 = true then (fe s1).out (fun k s2 => match s2[i]? with
  | some x => (match setV x k v with
    | some y => .nx (s2.set i y)
    | none => .bad)
  | none => .bad) else .bad
theorem ds_setIx (i : Nat) {y : Str} {b value : Expr} {fe fv : M D} {p pos pos' : Pos} (hu : X.A.units + 64 < cLine) (hb : DE X T B W b fe) (hv' : DE X T B W value fv) (hN : X.N[i]? = some y := by rfl) (hv : Vis X.env.scope y := by first | exact Or.inl rfl | exact Or.inr (Or.inl rfl) | exact Or.inr (Or.inr rfl)) (hdy : (y == ("__debug__" : Str)) = false := by decide)
    (hcd : (y == ("__classdict__" : Str)) = false := by decide) (hs : swapsWith value (some (.Subscript (.Name y p) b pos')) pos.line X.env = pure false := by rfl) (hs1 : swapsWithSole [.Subscript (.Name y p) b pos'] value pos.line X.env = pure false := by rfl) (hw : swappedStores [.Subscript (.Name y p) b pos'] value X.env = pure none := by rfl)
    (h1 : (assignEach [.Subscript (.Name y p) b pos'] X.env).map (·.2) = [assign (.Subscript (.Name y p) b pos') X.env] := by rfl) (hsub : ∀ v, assign (.Subscript (.Name y p) b pos') X.env v = (do
      let ov ← holding [v] (eval (.Name y p) X.env)
      let iv ← holding [v, ov] (eval b X.env)
      standAt pos'
      holding [v, ov, iv] (setItem ov iv v)
      release [v, ov, iv] []) := by intro _; rfl) :
    DS X T B W (.Assign [.Subscript (.Name y p) b pos'] value pos) (gSetIx i fe fv) :=
  ps_weak (ps_or (ps_asg hv' (pg_sub (pe_var (i := i) (pos := p) hN hv hdy hcd) hb set_list hsub) hs1 hw h1) (ps_dput (by omega) (pe_var (i := i) (pos := p) hN hv hdy hcd) hb hv' hs)) fun D σ H ⟨F, G, s, I, q⟩ => by
    unfold gSetIx at q
    cases e0 : fv s with
    | bad => rw [e0] at q; exact q.elim
    | ex c s1 => rw [e0] at q; exact .inl (runEx I e0 (q σ))
    | ok v s1 =>
      rw [e0] at q
      have q0 : PoS X T B W F G D (if hasV i s1 = true then (fe s1).out (fun k s2 => match s2[i]? with
        | some x => (match setV x k v with
          | some y => .nx (s2.set i y)
          | none => .bad)
        | none => .bad) else .bad) := q
      by_cases hh : hasV i s1 = true
      · rw [if_pos hh] at q0
        cases e : fe s1 with
        | bad => rw [e] at q0; exact q0.elim
        | ex c s2 =>
          rw [e] at q0
          refine .inl (runOk I e0 fun F1 G1 H1 w g1 e1 I1 r1 => ?_)
          obtain ⟨v0, hv0⟩ := I1.has hh
          exact ⟨v0, hv0, runEx I1 e ((q0 σ).mono g1 e1)⟩
        | ok k s2 =>
          rw [e] at q0
          have q1 : PoS X T B W F G D (match s2[i]? with
            | some x => (match setV x k v with
              | some y => .nx (s2.set i y)
              | none => .bad)
            | none => .bad) := q0
          cases hx : s2[i]? with
          | none => rw [hx] at q1; exact q1.elim
          | some x =>
            rw [hx] at q1
            simp only at q1
            cases hy : setV x k v with
            | none => rw [hy] at q1; exact q1.elim
            | some y =>
              rw [hy] at q1
              cases x with
              | ol r xs =>
                refine .inl (runOk I e0 fun F1 G1 H1 w g1 e1 I1 r1 => ?_)
                obtain ⟨v0, hv0⟩ := I1.has hh
                refine ⟨v0, hv0, runOk I1 e fun F2 G2 H2 kv g2 e2 I2 r2 => ?_⟩
                obtain ⟨p, vs, l1, l2, l3, l4, l5, l6⟩ := I2.sl i _ hx
                have l1' := slA_some l1
                rw [hv0] at l1'
                cases l1'
                cases k with
                | int j =>
                  have hy2 : (ixN xs.length j).map (fun n => SV.ol r (xs.set n v)) = some y := hy
                  cases hn : ixN xs.length j with
                  | none => rw [hn] at hy2; cases hy2
                  | some n =>
                    rw [hn] at hy2
                    cases hy2
                    refine ⟨p, vs, j, n, rfl, r2.int_inv, l3, by rw [l4.len]; exact hn, ?_⟩
                    refine (q1.mono (g1.trans g2) (e1.trans e2)).nxt (I2.change hx rfl l1 (y := .ol r (xs.set n v)) ⟨p, vs.set n w, rfl, l2, upd_same, l4.set n (r1.mono e2), l5, l6⟩ (.inl rfl))
                | _ => cases hy
              | od r ks xs =>
                refine .inr (runOk I e0 fun F1 G1 H1 w g1 e1 I1 r1 => ?_)
                obtain ⟨v0, hv0⟩ := I1.has hh
                refine ⟨v0, hv0, runOk I1 e fun F2 G2 H2 kv g2 e2 I2 r2 => ?_⟩
                obtain ⟨p, kvs, l1, l2, l3, l4, l5, l6, l7⟩ := I2.sl i _ hx
                have l1' := slA_some l1
                rw [hv0] at l1'
                cases l1'
                have hy2 : (keyD k).bind (fun kk => if ks.length < lim ∧ ks.Nodup then some (SV.od r (putKs ks kk) (putD ks xs kk v)) else none) = some y := hy
                cases hk : keyD k with
                | none => rw [hk] at hy2; cases hy2
                | some kk =>
                  rw [hk] at hy2
                  obtain ⟨⟨hl, hnd⟩, rfl⟩ := ite_inv hy2
                  have hkv : kvs.length < sizeLine := lim_lt (by rw [← List.length_map (f := (·.1)), l4]; exact hl)
                  refine ⟨p, _, rfl, .inl ⟨kvs, kk, l3, keyD_rp r2 hk, hkv, rfl⟩, ?_⟩
                  subst l4
                  exact (q1.mono (g1.trans g2) (e1.trans e2)).nxt (I2.change hx rfl l1 (y := .od r (putKs (kvs.map (·.1)) kk) (putD (kvs.map (·.1)) xs kk v)) ⟨p, putK kvs kk w, rfl, l2, upd_same, put_keys, put_rp l5 (r1.mono e2) hnd, l6, l7⟩ (.inl rfl))
              | fd r ks xs =>
                refine .inr (runOk I e0 fun F1 G1 H1 w g1 e1 I1 r1 => ?_)
                obtain ⟨v0, hv0⟩ := I1.has hh
                refine ⟨v0, hv0, runOk I1 e fun F2 G2 H2 kv g2 e2 I2 r2 => ?_⟩
                obtain ⟨p, kvs, u0, l1, l2, l3, l4, l5, l6, l7⟩ := I2.sl i _ hx
                have l1' := slA_some l1
                rw [hv0] at l1'
                cases l1'
                have hy2 : (keyL k).bind (fun kk => if ks.length < lim ∧ ks.Nodup then some (SV.fd r (putKs ks kk) (putD ks xs kk v)) else none) = some y := hy
                cases hk : keyL k with
                | none => rw [hk] at hy2; cases hy2
                | some kk =>
                  rw [hk] at hy2
                  obtain ⟨⟨hl, hnd⟩, rfl⟩ := ite_inv hy2
                  have hkv : kvs.length < sizeLine := lim_lt (by rw [← List.length_map (f := (·.1)), l4]; exact hl)
                  obtain ⟨b0, b1, b2⟩ := keyL_rp r2 hk
                  refine ⟨p, _, rfl, .inr ⟨kvs, kk, b0, l3, b1, I2.gh _ _ b2, hkv, rfl⟩, ?_⟩
                  subst l4
                  exact (q1.mono (g1.trans g2) (e1.trans e2)).nxt (I2.change hx rfl l1 (y := .fd r (putKs (kvs.map (·.1)) kk) (putD (kvs.map (·.1)) xs kk v)) ⟨p, putK kvs kk w, u0, rfl, l2, upd_same, put_keys, put_rp l5 (r1.mono e2) hnd, l6, l7⟩ (.inl rfl))
              | _ => cases hy
      · rw [if_neg hh] at q0
        exact q0.elim
/-- x.append(e) -/
def gApp (i : Nat) (f : M D) : S → Out := fun s => match s[i]? with
  | some (.ol _ _) => (f s).out (fun v s1 => match s1[i]? with
    | some (.ol r xs) => if xs.length < lim then .nx (s1.set i (.ol r (xs ++ [v]))) else .bad
    | _ => .bad)
  | _ => .bad
/-- len(x), x a name -/
def lenV : SV → Option D
  | .d (.str x) => if x.length ≤ lim then some (.int x.length) else none
  | .d (.list xs) => some (.int xs.length)
  | .d (.tuple xs) => some (.int xs.length)
  | .ol _ xs => some (.int xs.length)
  | _ => none
def mPlen (i : Nat) : M D := fun s => match s[i]? with
  | some x => (match lenV x with
    | some d => .ok d s
    | none => .bad)
  | none => .bad
/-- dict(pairs) -/
def pairsD : List D → Option (List (Key × D))
  | [] => some []
  | .tuple [k, v] :: r => (keyD k).bind fun kk => (pairsD r).map ((kk, v) :: ·)
  | _ :: _ => none
def mergeD : List Key → List D → List (Key × D) → List Key × List D
  | ks, xs, [] => (ks, xs)
  | ks, xs, (k, v) :: r => mergeD (putKs ks k) (putD ks xs k v) r
def oDict (f : M D) : M SV := mUn (fun d => match d with
  | .list ps => (pairsD ps).map fun kds => .od false (mergeD [] [] kds).1 (mergeD [] [] kds).2
  | _ => none) f
/-- k in x, k not in x, x a name that holds a dict -/
noncomputable def mDin (neg : Bool) (i : Nat) (f : M D) : M D := f.bind fun k s => match s[i]? with
  | some x => (match lookV x k with
    | some o => .ok (.bool (if neg then !o.isSome else o.isSome)) s
    | none => .bad)
  | none => .bad
/-- x.get(k, z), x a name that holds a dict -/
noncomputable def mDget2 (i : Nat) (f g : M D) : M D := fun s => match s[i]? with
  | some x0 => if x0.isD = true then (f s).bind (fun k s1 => (g s1).bind fun z s2 => match s2[i]? with
      | some x => (match lookV x k with
        | some o => .ok (o.getD z) s2
        | none => .bad)
      | none => .bad) else .bad
  | none => .bad
/-! ### slices -/
def dCut (lo hi : Option Int) : D → Option SV
  | .list xs => some (.ol false ((xs.drop (HT.sIx xs.length 0 lo)).take (HT.sIx xs.length xs.length hi - HT.sIx xs.length 0 lo)))
  | .str x => if x.length ≤ lim then some (.d (.str (cutS x lo hi))) else none
  | _ => none
/-- a slice's part -/
def mNoP : M (Option Int) := fun s => .ok none s
def mP (f : M D) : M (Option Int) := mUn (fun d => match d with
  | .int i => some (some i)
  | _ => none) f
def oSl (f : M D) (fl fh : M (Option Int)) : M SV := f.bind fun d => fl.bind fun lo => fh.bind fun hi => lift (dCut lo hi) d
def DP (X : Cx) (T : List (Addr × Str)) (B : Addr) (W : WX) (e : Option Expr) (f : M (Option Int)) : Prop := PO X e (fun σ H Q => ∃ F G s, IS X.K T B F G H σ s ∧ Po X T B W F G σ (fun _ _ o _ H' => Q o H') (f s))
theorem po_weak {e : Option Expr} {t t' : TO} (h : PO X e t) (q : ∀ σ H Q, t' σ H Q → t σ H Q) : PO X e t' := ⟨fun pins s σ H Q I z => h.run pins s σ H Q I (q σ H Q z)⟩
theorem dp_none : DP X T B W none mNoP := po_weak po_none fun σ H Q ⟨F, G, s, I, p⟩ => p.here I
theorem dp_some {e : Expr} {f : M D} (h : DE X T B W e f) : DP X T B W (some e) (mP f) := po_weak (po_some h) fun σ H Q ⟨F, G, s, I, p⟩ => runE I p fun F1 G1 H1 s1 v d g1 e1 I1 r1 p1 => by
  obtain ⟨x, eg, p2⟩ := lift_inv p1
  cases d with
  | int i =>
    cases eg
    exact ⟨i, r1.int_inv, p2.here I1⟩
  | _ => cases eg
theorem runP {F G H : Hp} {σ : St} {s : S} {α : Type} {Qk : Hp → Hp → α → S → Hp → Prop} {fa : M (Option Int)} {k : Option Int → M α} {Q : Option Int → Hp → Prop} (I : IS X.K T B F G H σ s) (p : Po X T B W F G σ Qk ((fa s).bind k))
    (q : ∀ F' G' H' s' o, Gr T F F' → Ex G G' → IS X.K T B F' G' H' σ s' → Po X T B W F' G' σ Qk (k o s') → Q o H') : ∃ F G s, IS X.K T B F G H σ s ∧ Po X T B W F G σ (fun _ _ o _ H' => Q o H') (fa s) :=
  ⟨F, G, s, I, p.bind.imp fun F' G' b s' H' g e I' r => q F' G' H' s' b g e I' r.2⟩
theorem RpA.cut {K : PySem.W.Frag} {G : Hp} {vs : List V} {ds : List D} {lo hi : Option Int} (r : RpA K G vs ds) : RpA K G (cutV vs lo hi) ((ds.drop (HT.sIx ds.length 0 lo)).take (HT.sIx ds.length ds.length hi - HT.sIx ds.length 0 lo)) := by
  unfold cutV
  rw [r.len]
  exact (r.drop _).take _
theorem do_slice {e : Expr} {lo hi : Option Expr} {f : M D} {fl fh : M (Option Int)} {p2 pos : Pos} (h : DE X T B W e f) (hl : DP X T B W lo fl) (hh : DP X T B W hi fh) : DO X T B W (.Subscript e (.Slice lo hi none p2) pos) (oSl f fl fh) :=
  pe_weak (pe_slice (L2.SlR.or sl_list sl_str) h hl hh) fun σ H Q ⟨F, G, s, I, p⟩ => runE I p fun F1 G1 H1 s1 v d g1 e1 I1 r1 p1 => runP I1 p1 fun F2 G2 H2 s2 l g2 e2 I2 p2 => runP I2 p2 fun F3 G3 H3 s3 u g3 e3 I3 p3 => by
    obtain ⟨x, eg, p4⟩ := lift_inv p3
    have r3 := (r1.mono e2).mono e3
    cases d with
    | list xs =>
      cases eg
      obtain ⟨a, vs, rfl, hs, r⟩ := r3.lst_inv
      refine .inl ⟨a, vs, rfl, ex_l I3.gh hs, fun q hq => ?_⟩
      exact p4 F3 G3 _ Gr.refl (Ex.refl _) (I3.loose hq) _ (I3.newO hq ⟨q, _, rfl, (fun z => nomatch z), upd_same, r.cut, I3.freshG hq, I3.freshF hq⟩)
    | str x =>
      obtain ⟨hx, rfl⟩ := ite_inv eg
      exact .inr ⟨x, r3.str_inv, lim_le hx, p4.here I3 _ (I3.pushD (.str _))⟩
    | _ => cases eg
/-- sep.join(xs) -/
def strsD : List D → Option (List Str)
  | [] => some []
  | .str b :: r => (strsD r).map (b :: ·)
  | _ :: _ => none
def dJoin : D → D → Option D
  | .str a, .list xs => (strsD xs).bind fun ys => if (ys.map (·.length)).sum + ys.length * a.length ≤ lim then some (.str (Txt.join a ys)) else none
  | .str a, .tuple xs => (strsD xs).bind fun ys => if (ys.map (·.length)).sum + ys.length * a.length ≤ lim then some (.str (Txt.join a ys)) else none
  | _, _ => none
end
end DL
set_option Elab.async false
set_option linter.all false
set_option maxRecDepth 100000
set_option maxHeartbeats 4000000
/-! DL11: refusals: made, raised, caught; lambdas handed to a def -/
namespace DL
open PySem PySem.Spec L2
open PyProof.Rows hiding St
open Evl (Ex ex_l ex_t ex_rd)

/-! ### several clauses, each with a name -/
def wAll (K : PySem.W.Frag) (i : Nat) (Wout : WX) (D : Ends) : List (Value × (Addr → Value → Option Addr → TS)) → WX
  | [] => Wout
  | (c, ts) :: r => fun cls d σ H => ∃ b, PySem.W.exmOne K cls c = some b ∧
      (b = true → ∀ a, H a = none → ts a cls d { nx := fun σ' H' => D.nx (σ'.set i none) H', rt := D.rt, bk := fun σ' H' => D.bk (σ'.set i none) H', ct := fun σ' H' => D.ct (σ'.set i none) H' } (σ.set i (some (.ref a))) H) ∧
      (b = false → wAll K i Wout D r cls d σ H)
inductive HdAs (X : Cx) (n : Str) : List ExceptHandler → List (Value × (Addr → Value → Option Addr → TS)) → Prop
  | nil : HdAs X n [] []
  | cons {x : Str} {c : Value} {ts : Addr → Value → Option Addr → TS} {b0 : Stmt} {suite : List Stmt} {np pos' : Pos} {hds : List ExceptHandler} {l : List (Value × (Addr → Value → Option Addr → TS))}
      (hc : Names X x c) (hsu : ∀ (a : Addr) (oe : Obj) (cls : Value) (d : Option Addr) (pn : List (Addr × Obj)), Zc cls d oe → (∃ vs, oe.data = .fields vs) → PSs (X.suite a ((a, oe) :: pn)) (b0 :: suite) (ts a cls d))
      (r : HdAs X n hds l) : HdAs X n (.ExceptHandler (some (.Name x np)) (some n) (b0 :: suite) pos' :: hds) ((c, ts) :: l)
section
variable {X : Cx} {n : Str} {i : Nat} {body : List Stmt} {h0 : ExceptHandler} {hds : List ExceptHandler} {l : List (Value × (Addr → Value → Option Addr → TS))} {pos : Pos} {tb : WX → TS} {Wout : WX}
theorem ps_try_all (hs : X.stack = X.env :: X.outer) (hf : X.env.frame = some X.env.locals) (hN : X.N.Nodup) (hi : X.N[i]? = some n) (hln : X.env.kindOf n = some .local) (tk : Takes X Wout)
    (hb : ∀ (W : WX) (pn : List (Addr × Obj)) (xe : Value → Shared → Prop), Takes (X.tr pn xe) W → PassesOwn (model X.prog X.w) X.A X.env xe → PSs (X.tr pn xe) body (tb W)) (hh : HdAs X n (h0 :: hds) l) :
    PS X (.Try body (h0 :: hds) [] [] pos) (fun D σ H => tb (wAll X.K i Wout D l) D σ H) := by
  refine ⟨fun pins s σ H D I h => ?_⟩
  have ok := I.ok
  have fra : X.A.frames = some (X.env :: X.outer) := by
    rw [ok.frames, hs]
  have lcn : Loc X.env.scope n := .inl hln
  let xe : Value → Shared → Prop := fun e s1 => wpAny (model X.prog X.w) X.A (noteFrame e X.env) (fun _ s2 => wpAny (model X.prog X.w) X.A (setFlight e none) (fun _ s3 => wpAny (model X.prog X.w) X.A (handleBy e X.env (h0 :: hds)) (SP X pins D) X.xe s3) X.xe s2) X.xe s1
  have caught : Takes (X.tr (X.pn ++ pins) xe) (wAll X.K i Wout D l) := by
    intro u s' xx
    obtain ⟨a, Gd, sI, pins', σ', H', cls, d, rfl, J', nb, up, sky, na, os, ag, wish⟩ := xx
    have J : Inv X pins σ' H' sI := J'.ofTry ok
    have sky1 : Sky Gd (X.env :: X.outer) a (Zc cls d) X.env.locals s'.heap := by
      rw [← hs]
      exact sky
    show wpAny (model X.prog X.w) X.A (noteFrame (.ref a) X.env) _ _ _
    refine Sky.land Zc.steady fra hf sky1 fun h3 fl3 up3 => ?_
    have J3 : Inv X pins σ' H' { s' with heap := h3 } := J.landed nb fl3.1 (up.trans up3) os ag
    obtain ⟨oe3, vs3, he3, hz3, hd3⟩ := fl3.there
    have offFrames : a ∉ frs (X.env :: X.outer) := fun hm => by
      obtain ⟨_, o', e', hnf⟩ := fl3.2.2.1.mem hm
      rw [he3] at e'
      cases e'
      exact hnf _ hd3
    have nL : a ≠ X.env.locals := fun z => offFrames (List.mem_filterMap.mpr ⟨X.env, List.mem_cons_self, by rw [hf, z]⟩)
    have nF : a ∉ X.fs := fun hm => by
      obtain ⟨e, he, q⟩ := List.mem_filterMap.mp hm
      exact offFrames (List.mem_filterMap.mpr ⟨e, List.mem_cons_of_mem _ he, q⟩)
    have S3 := J3.suite he3 hd3 na nL nF
    have go : ∀ {hs' : List ExceptHandler} {l' : List (Value × (Addr → Value → Option Addr → TS))}, HdAs X n hs' l' → wAll X.K i Wout D l' cls d σ' H' →
        wpAny (model X.prog X.w) X.A (handleBy (.ref a) X.env hs') (SP X pins D) X.xe { s' with heap := h3 } := by
      intro hs' l' hk
      induction hk with
      | nil =>
        intro w
        refine wpAny_handleBy_nil ?_
        obtain ⟨k1, k2, k3, oe, vs, T, oT, ts', he, hz, hd, h1, hr⟩ := id fl3
        unfold PySem.passOn
        refine wpAny_bind (wpAny_field he hd h1 ?_)
        rw [if_neg (show ¬ ((Value.ref T == Value.none) = true) from by simp)]
        have on : wpAny (model X.prog X.w) X.A (setFlight (.ref a) X.env.frame) (fun _ s4 => wpAny (model X.prog X.w) X.A (throw (.ref a) : Sem Flow) (SP X pins D) X.xe s4) X.xe { s' with heap := h3 } := by
          rw [hf]
          refine HandSPX.setFlight_upZ fl3 fun h4 hh4 up4 => wpAny_throw (tk _ _ ?_)
          refine ⟨a, Gd, sI, pins, σ', H', cls, d, rfl, J, nb, (up.trans up3).trans up4, .inr (.inr ?_), na, os, ag, w⟩
          rw [hs]
          exact hh4
        first
          | exact wpAny_bind (wpAny_pure (wpAny_bind on))
          | exact wpAny_bind on
      | @cons x c ts b0 suite np pos' hds2 l2 hc hsu r ih =>
        intro w
        obtain ⟨b, hb1, hyes, hno⟩ := w
        refine wpAny_handleBy_cons (codeAny_handlers_test ?_) (by intro q; cases q)
        have LT : PySem.W.Looks (model X.prog X.w) h3 (typeOf (.ref a)) cls := fun A Q E s k q => by
          refine wpAny_typeOf_ref (k _ _ he3) ?_
          rw [hz3.1]
          exact q
        have LM := PySem.W.exm_one (M := model X.prog X.w) (J3.kIn) LT hb1
        have nm : ∀ {Q : Value → Shared → Prop} {E : Value → Shared → Prop}, Q c { s' with heap := h3 } → wpAny (model X.prog X.w) (X.A.mark (some (.ref a))) (eval (.Name x np) X.env) Q E { s' with heap := h3 } := fun {Q E} q => by
          obtain ⟨hg, hdbg, hm | ⟨hm, hv, hnn⟩⟩ := hc
          · exact ld_glob (X := X.suite a ((a, oe3) :: (X.pn ++ pins))) S3 hg hm q hdbg
          · exact ld_blt (X := X.suite a ((a, oe3) :: (X.pn ++ pins))) S3 hg hm hv q hnn hdbg
        refine nm (LM.here ?_)
        cases b with
        | false =>
          show wpAny _ X.A (handleBy (.ref a) X.env hds2) _ _ _
          exact ih (hno rfl)
        | true =>
          refine codeAny_handlers_suite_as ?_
          refine HandSPX.lands_againZ fl3 fun h4 fl4 up4 => ?_
          have J4 : Inv X pins σ' H' { s' with heap := h4 } := J.landed nb fl4.1 ((up.trans up3).trans up4) os ag
          obtain ⟨oe4, vs4, he4, hz4, hd4⟩ := fl4.there
          have S4 := J4.suite he4 hd4 na nL nF
          refine store_ok (X := X.suite a ((a, oe4) :: (X.pn ++ pins))) (v := .ref a) S4 hN hi lcn rfl (fun s5 S5 => ?_) (.inr hln)
          refine wpAny_mono ((hsu a oe4 cls d (X.pn ++ pins) hz4 ⟨_, hd4⟩).run [] s5 _ H' _ S5 (hyes rfl a na)) (fun f s6 hsp => ?_) (fun _ _ z => False.elim z)
          have leave : ∀ {σ6 : St} {H6 : Hp} {Q : Shared → Prop}, Inv (X.suite a ((a, oe4) :: (X.pn ++ pins))) [] σ6 H6 s6 → (∀ s7, Inv X pins (σ6.set i none) H6 s7 → Q s7) →
              wpAny (model X.prog X.w) X.A (do bindName X.env n .none; unbindBehindTheSuite X.env n pos') (fun _ s7 => Q s7) X.xe s6 := fun {σ6 H6 Q} S6 hq => gone_ok (S6.unsuite ok) hN hi hln hq
          cases f with
          | ret u =>
            obtain ⟨v6, σ6, H6, S6, r6, q6⟩ := hsp
            exact leave S6 fun s7 J7 => ⟨_, _, _, J7, r6, q6⟩
          | next =>
            obtain ⟨σ6, H6, S6, q6⟩ := hsp
            exact leave S6 fun s7 J7 => ⟨_, _, J7, q6⟩
          | brk =>
            obtain ⟨σ6, H6, S6, q6⟩ := hsp
            exact leave S6 fun s7 J7 => ⟨_, _, J7, q6⟩
          | cont =>
            obtain ⟨σ6, H6, S6, q6⟩ := hsp
            exact leave S6 fun s7 J7 => ⟨_, _, J7, q6⟩
    exact go hh wish
  refine wpAny_Try_except ?_
  refine wpAny_mono ((hb (wAll X.K i Wout D l) (X.pn ++ pins) xe caught PassesOwn.looking).run [] s σ H D (I.toTry _) h) (fun f s1 hsp => ?_) (fun e s1 he => he)
  cases f with
  | ret u =>
    obtain ⟨v, σ', H', J', r, q⟩ := hsp
    exact ⟨v, σ', H', J'.ofTry ok, r, q⟩
  | next =>
    obtain ⟨σ', H', J', q⟩ := hsp
    exact wpAny_execs_nil ⟨σ', H', J'.ofTry ok, q⟩
  | brk =>
    obtain ⟨σ', H', J', q⟩ := hsp
    exact ⟨σ', H', J'.ofTry ok, q⟩
  | cont =>
    obtain ⟨σ', H', J', q⟩ := hsp
    exact ⟨σ', H', J'.ofTry ok, q⟩
end

/-! ### C.m(..), C an own class, m one of its defs -/
structure CFn (K : PySem.W.Frag) (C f : Addr) (m : Str) : Prop where
  rd : PySem.W.readsIn K C (.type "type") = true
  ga : PySem.W.specialIn K (.ref C) "__getattribute__" = some (some (.builtin "type.__getattribute__"))
  at_ : PySem.W.findCls K (.ref C) (.type "type") m = some (.val (.ref f))
  kp : PySem.W.keepIn K (.ref f) = true
section
variable {X : Cx} {CX : CXT} {k : Nat} {C fI : Addr} {fd : FuncData} {ps : List Str} {sp : Sp} {E : XK} {x m : Str} {p apos pos : Pos} {e : Expr} {es : List Expr} {t : TA} {pl : Sem Bool}
theorem pe_cfn (c : CFn X.K C fI m) (F : FnOk X.prog X.w X.K X.mg X.base CX k fI fd ps sp) (hr : Room k X.A) (hb : Binds X.K fd ps []) (hx : Passes CX X E) (hm : X.mg x = some (.ref C)) (ha : PA X (e :: es) t) (hg : Gl X x := by rfl) (hdb : (x == ("__debug__" : Str)) = false := by decide)
    (hst : starEach (e :: es) X.env = (false, eval e X.env) :: starEach es X.env := by rfl) (hpl : (backTo pos (starEach es X.env)).any (·.1) = false := by rfl)
    (ht : eval (.Call (.Attribute (.Name x p) m apos) (e :: es) [] pos) X.env = (do
      let ov ← eval (.Name x p) X.env
      standAt apos.atName
      let (f, first) ← holding [ov] (getMethod ov m pl)
      callWith pos f first (backTo pos (starEach (e :: es) X.env)) (backToKw pos (keywordEach [] X.env))) := by rfl) :
    PE X (.Call (.Attribute (.Name x p) m apos) (e :: es) [] pos) (tCall sp [] E t) := by
  refine ⟨fun pins s σ H Q I h => ?_⟩
  refine PySem.W.methodCall_KW (pl := pl) (ld_glob I hg hm ?_ hdb) ht
  refine PySem.W.method_cls I.kIn c.ga (PySem.W.cls_value I.kIn c.rd c.at_ rfl ?_)
  refine PySem.W.callWith_K (h₀ := X.base) I.ok.mod.kin c.kp (thn (ha.run pos pins _ σ H _ (I.tok _) h) fun us s1 ⟨vs, H1, I1, r, q⟩ => ⟨I1.kIn, ?_⟩) hst hpl
  exact run_fn F hr hb .nil hx I1 r q
/-- C(), C's own __init__ keeping sp -/
theorem pmk_oex0 (T : OexC X.K C) (iC : PySem.W.findIn X.K (.ref C) "__init__" = some (some (.ref fI))) (tI : PySem.W.typeIn X.K (.ref fI) = some (.type "function"))
    (F1 : FnOk X.prog X.w X.K X.mg X.base CX k fI fd ps sp) (hr : Room (k + 1) X.A) (hb : Binds X.K fd ps []) (hx : Passes CX X (fun _ _ _ => False)) (hm : X.mg x = some (.ref C)) (hg : Gl X x := by rfl) (hdb : (x == ("__debug__" : Str)) = false := by decide) :
    PMk X (.Call (.Name x p) [] [] pos) (tMkO C sp [] tNil) := by
  intro pins s σ H Q I h
  obtain ⟨nm, q, N, bs, bm, sn, sub, ab, col, dd, k0, k1, k2, k3, k5, hC, hbm⟩ := T.cls
  refine wpAny_Call_Name_kw (ld_glob I hg hm ?_ hdb)
  refine PySem.W.callWith_K0 I.kIn T.kC ?_
  show wpAny _ _ (call (.ref C) []) _ _ _
  have h2 : ([] : List V).length ≤ 1000 ∧ ∀ a, H a = none → sp (.ref a :: ([] ++ [])) (upd H a (exo a C none)) (fun v H2 => v = .non ∧ ∃ (d : Addr) (fs : List (Str × V)), H2 a = some (exo a C (some d)) ∧ H2 d = some (exd d fs) ∧ H d = none ∧ Q (.ref C) (some d) (upd (del H2 a) d (.xd fs))) (fun _ _ _ => False) := h
  obtain ⟨_, q1⟩ := h2
  obtain ⟨hp, g, dr, tk, os⟩ := s
  have hsz : hp.objs.size ≤ hp.objs.size + 1 := Nat.le_succ _
  have hn : H (hp.objs.size + 1) = none := I.hok.fresh hsz
  have hq := q1 (hp.objs.size + 1) hn
  have kk : ∀ b o, hp.get? b = some o → ((hp.push (PySem.W.kdv_tup [])).push (PySem.HandSPX.excO C hp.objs.size)).get? b = some o := fun b o e => Heap.get?_push_of_some _ (Heap.get?_push_of_some _ e)
  have hget : ((hp.push (PySem.W.kdv_tup [])).push (PySem.HandSPX.excO C hp.objs.size)).get? (hp.objs.size + 1) = some (PySem.HandSPX.excO C hp.objs.size) := by heap_get
  have I2 : Inv X pins σ (upd H (hp.objs.size + 1) (exo (hp.objs.size + 1) C none)) ⟨(hp.push (PySem.W.kdv_tup [])).push (PySem.HandSPX.excO C hp.objs.size), g, dr, tk, os⟩ :=
    I.laid (t' := tk) (a := hp.objs.size + 1) (o := exo (hp.objs.size + 1) C none) (h' := (hp.push (PySem.W.kdv_tup [])).push (PySem.HandSPX.excO C hp.objs.size)) kk hsz (exo_ok hget)
  have r2 : Vals [V.ref (hp.objs.size + 1)] [Value.ref (hp.objs.size + 1)] := .cons rfl .nil
  have hl : ([Value.ref (hp.objs.size + 1)] ++ []).length = ps.length := by
    have e1 := F1.len _ _ _ _ hq
    have e := r2.length
    simp at e1
    simp [← e1]
  refine wpAny_call (PySem.HandSPX.call_own F.excBase_ValueError (fun Y => PySem.HandSPX.refsVE_contains Y bm hbm) (I.kIn _ _ hC) (PySem.W.looks_findIn I.kIn iC) (fun self => PySem.W.bind_fn I.kIn self tI) (Nat.zero_le _)
    (codeAny_mono (F1.run _ X.stack _ _ ⟨[Value.ref (hp.objs.size + 1)], []⟩ [Value.ref (hp.objs.size + 1)] _ _ (fun _ _ _ => False) (hr.make C [] []) (I2.env0.make C [] []) (hb _ [Value.ref (hp.objs.size + 1)] I2.kIn hl) r2 hq) fun r s' hq' => ?_))
  cases r with
  | error er => exact hx pins σ _ _ er s' I2 hq'
  | ok fl =>
    cases fl with
    | ret u =>
      obtain ⟨v, H2, os2, bare2, un2, hok2, rv, ev, d, fs, ea, ed, hd1, q2⟩ := hq'
      subst ev
      obtain ⟨h2, g2, d2, t2, os'⟩ := s'
      exact ⟨rv, mk_end (raises_own T.exC T.tyC) I hsz kk un2 hok2 os2 bare2 ea ed hd1 q2⟩
    | next => exact False.elim hq'
    | brk => exact False.elim hq'
    | cont => exact False.elim hq'
end
end DL
set_option Elab.async false
set_option linter.all false
set_option maxRecDepth 100000
set_option maxHeartbeats 4000000
/-! DL12: __init__ of refusals; raise; what _law_why makes of a lambda -/
namespace DL
open PySem PySem.Spec L2
open PyProof.Rows hiding St
open Evl (Ex ex_l ex_t ex_rd)

/-- a refusal's fields: a text, or what was handed in at i -/
abbrev Tpl := List (Str × (Str ⊕ Nat))
def fV (vs : List V) : Str ⊕ Nat → V
  | .inl x => .str x
  | .inr i => (vs[i]?).getD .non
def fD (ds : List D) : Str ⊕ Nat → D
  | .inl x => .str x
  | .inr i => (ds[i]?).getD .none
def mkV (t : Tpl) (vs : List V) : List (Str × V) := t.map fun p => (p.1, fV vs p.2)
def mkD (t : Tpl) (ds : List D) : List (Str × D) := t.map fun p => (p.1, fD ds p.2)
/-- o.m(..) is read as a method's call -/
def MC (o : Expr) (m : Str) (args : List Expr) (apos pos : Pos) : Prop := ∀ env : Env, ∃ pl : Sem Bool, eval (.Call (.Attribute o m apos) args [] pos) env = (do
      let ov ← eval o env
      standAt apos.atName
      let (f, first) ← holding [ov] (getMethod ov m pl)
      callWith pos f first (backTo pos (starEach args env)) (backToKw pos (keywordEach [] env)))
theorem mk_rel {K : PySem.W.Frag} {G : Hp} {vs : List V} {ds : List D} (r : RpA K G vs ds) : ∀ t : Tpl, RpF K G (mkV t vs) (mkD t ds)
  | [] => fun x d h => by cases h
  | (f, z) :: t => fun x d h => by
    have hc : ((f, fD ds z) :: mkD t ds).lookup x = some d := h
    show ∃ v, ((f, fV vs z) :: mkV t vs).lookup x = some v ∧ Rp K G v d
    rw [L2.lookup_put]
    by_cases e : x = f
    · rw [if_pos e]
      have e2 : (x == f) = true := by simpa using e
      simp only [List.lookup, e2] at hc
      cases hc
      refine ⟨_, rfl, ?_⟩
      cases z with
      | inl x => exact .str x
      | inr i =>
        show Rp K G ((vs[i]?).getD .non) ((ds[i]?).getD .none)
        cases q : ds[i]? with
        | none =>
          have : vs[i]? = none := by
            rw [List.getElem?_eq_none_iff] at q ⊢
            rw [r.len]
            exact q
          rw [this]
          exact .non
        | some d =>
          obtain ⟨v, e1, e2⟩ := r.get q
          rw [e1]
          exact e2
    · rw [if_neg e]
      have e2 : (x == f) = false := by simpa using e
      simp only [List.lookup, e2] at hc
      exact mk_rel r t x d hc

/-- an __init__'s promise: n things handed in beside self -/
def spI (K : PySem.W.Frag) (n : Nat) (t : Tpl) : Sp := fun vs H Q E => ∃ (a C : Addr) (ws : List V), vs = .ref a :: ws ∧ ws.length = n ∧ OexC K C ∧ (∀ p ∈ t, PySem.W.findIn K (.ref C) p.1 = some none) ∧ H a = some (exo a C none) ∧
  ∀ dx H2, H dx = none → dx ≠ a → H2 a = some (exo a C (some dx)) → H2 dx = some (exd dx (mkV t ws)) → (∀ b, b ≠ a → b ≠ dx → H2 b = H b) → Q .non H2

section
variable {P : Program} {w : World} {K : PySem.W.Frag} {mg : Str → Option Value} {base : Heap} {x qual : Str} {params : Arguments} {scope : Scope} {dvs : List V} {kws : List (Str × V)} {f g : Addr} {fd gd : FuncData} {k : Nat}
/-- class T(ValueError): def __init__(self, y): ValueError.__init__(self, y); self.f = y -/
theorem init_root {y fl s : Str} {p1 p2 p3 p4 p5 p6 p7 p8 p9 q1 : Pos}
    (Fu : FunD K x qual params [.Expr (.Call (.Attribute (.Name "ValueError" p1) "__init__" p2) [.Name s p3, .Name y p4] [] p5) p6, .Assign [.Attribute (.Name s p7) fl p8] (.Name y p9) q1] scope dvs kws f fd) (Sc : FnScope [s, y] [s, y] scope)
    (hg : scope.names.lookup ("ValueError" : Str) = some .globalImplicit) (hm : mg "ValueError" = none) (vV : PySem.W.findCls K (.type "ValueError") (.type "type") "__init__" = some (.val (.builtin "ValueError.__init__"))) (mc : MC (.Name "ValueError" p1) "__init__" [.Name s p3, .Name y p4] p2 p5)
    (hd1 : (s == ("__debug__" : Str)) = false := by decide) (hd2 : (s == ("__classdict__" : Str)) = false := by decide) (hd3 : (y == ("__debug__" : Str)) = false := by decide) (hd4 : (y == ("__classdict__" : Str)) = false := by decide) :
    FnOk P w K mg base (L2.CX P w) (k + 1) f fd [s, y] (spI K 1 [(fl, .inr 0)]) := by
  have vis : ∀ z ∈ [s, y], Vis scope z := fun z hz => (Sc.par z hz).elim .inl (fun h => .inr (.inl h))
  refine Fu.ok Sc (fun vs H Q E ⟨a, C, ws, e, l, _⟩ => by rw [e]; simp [l]) (fun cdv A outer st H vs Q E hr h => ?_)
  obtain ⟨a, C, ws, rfl, hl, oc, hno, ha, hq⟩ := h
  obtain ⟨v, rfl⟩ : ∃ v, ws = [v] := by
    match ws, hl with
    | [v], _ => exact ⟨v, rfl⟩
  obtain ⟨pl, hpl⟩ := mc (cxOf (L2.CX P w) P w K mg base [s, y] qual scope f cdv A outer st H E).env
  refine ⟨_, pss_cons (ps_expr (pe_veinit (hc := hpl) (X := cxOf (L2.CX P w) P w K mg base [s, y] qual scope f cdv A outer st H E) hg hm vV (pa_cons (pe_var (i := 0) rfl (vis s (by simp)) hd1 hd2) (pa_cons (pe_var (i := 1) rfl (vis y (by simp)) hd3 hd4) pa_nil))))
    (pss_one (ps_ost (pe_var (i := 0) rfl (vis s (by simp)) hd1 hd2) (pe_var (i := 1) rfl (vis y (by simp)) hd3 hd4))), ?_⟩
  refine ⟨.ref a, rfl, v, rfl, a, C, [v], rfl, by simp, oc, ha, ?_⟩
  refine ⟨v, rfl, .ref a, rfl, a, C, rfl, oc, hno _ List.mem_cons_self, .inl ⟨ha, fun dx hn ne => ?_⟩⟩
  refine hq dx _ hn ne upd_same ?_ fun b h1 h2 => ?_
  · rw [upd_ne ne, upd_same]
    rfl
  · rw [upd_ne h1, upd_ne h2]
/-- class C(T): def __init__(self): T.__init__(self, 'w') -/
theorem init_sub0 {T : Addr} {tn s wd f1 : Str} {j : Nat} {y1 y2 : Str} {p1 p2 p3 p4 p5 p6 : Pos}
    (Fu : FunD K x qual params [.Expr (.Call (.Attribute (.Name tn p1) "__init__" p2) [.Name s p3, .Constant (.str wd) j p4] [] p5) p6] scope dvs kws f fd) (Sc : FnScope [s] [s] scope)
    (c : CFn K T g "__init__") (G : FnOk P w K mg base (L2.CX P w) k g gd [y1, y2] (spI K 1 [(f1, .inr 0)])) (hb : Binds K gd [y1, y2] []) (hg : scope.names.lookup tn = some .globalImplicit) (hm : mg tn = some (.ref T)) (mc : MC (.Name tn p1) "__init__" [.Name s p3, .Constant (.str wd) j p4] p2 p5)
    (hdt : (tn == ("__debug__" : Str)) = false := by decide) (hd1 : (s == ("__debug__" : Str)) = false := by decide) (hd2 : (s == ("__classdict__" : Str)) = false := by decide) :
    FnOk P w K mg base (L2.CX P w) (k + 1) f fd [s] (spI K 0 [(f1, .inl wd)]) := by
  have vis : ∀ z ∈ [s], Vis scope z := fun z hz => (Sc.par z hz).elim .inl (fun h => .inr (.inl h))
  refine Fu.ok Sc (fun vs H Q E ⟨a, C, ws, e, l, _⟩ => by rw [e]; simp [l]) (fun cdv A outer st H vs Q E hr h => ?_)
  obtain ⟨a, C, ws, rfl, hl, oc, hno, ha, hq⟩ := h
  obtain rfl : ws = [] := List.length_eq_zero_iff.mp hl
  obtain ⟨pl, hpl⟩ := mc (cxOf (L2.CX P w) P w K mg base [s] qual scope f cdv A outer st H E).env
  refine ⟨_, pss_one (ps_expr (pe_cfn (ht := hpl) (X := cxOf (L2.CX P w) P w K mg base [s] qual scope f cdv A outer st H E) (E := fun _ _ _ => False) c G hr hb (passes_call LamX.takes0 (fun _ _ _ _ h => h)) hm
    (pa_cons (pe_var (i := 0) rfl (vis s (by simp)) hd1 hd2) (pa_cons pe_str pa_nil)) hg hdt)), ?_⟩
  refine ⟨.ref a, rfl, a, C, [.str wd], rfl, rfl, oc, fun p hp => ?_, ha, fun dx H2 h1 h2 h3 h4 h5 => hq dx H2 h1 h2 h3 h4 h5⟩
  simp at hp
  rw [hp]
  exact hno (f1, .inl wd) (by simp)
end

/-! ### raise -/
def gRaise (cls : Str) (n : Nat) (t : Tpl) (fa : M (List D)) : S → Out := fun s => (fa s).out fun ds s1 => if ds.length = n then .ex ⟨cls, mkD t ds⟩ s1 else .bad
section
variable {X : Cx} {T : List (Addr × Str)} {B : Addr} {W : WX}
theorem raise_to {C : Addr} {n : Nat} {t : Tpl} {F G H : Hp} {σ : St} {s : S} {vs : List V} {ds : List D} {cls : Str} (oc : OexC X.K C) (hno : ∀ p ∈ t, PySem.W.findIn X.K (.ref C) p.1 = some none) (hn : n ≤ 1000) (hm : X.mg cls = some (.ref C)) (I : IS X.K T B F G H σ s) (r : RpA X.K G vs ds)
    (hl : ds.length = n) (q : PoX X T B W F G σ ⟨cls, mkD t ds⟩ s) :
    vs.length ≤ 1000 ∧ ∀ a, H a = none → spI X.K n t (.ref a :: (vs ++ [])) (upd H a (exo a C none)) (fun v H2 => v = .non ∧ ∃ (d : Addr) (fs : List (Str × V)), H2 a = some (exo a C (some d)) ∧ H2 d = some (exd d fs) ∧ H d = none ∧ W (.ref C) (some d) σ (upd (del H2 a) d (.xd fs))) (fun _ _ _ => False) := by
  refine ⟨by rw [r.len]; omega, fun a ha => ⟨a, C, vs, by simp, by rw [r.len]; exact hl, oc, hno, upd_same, fun dx H2 h1 h2 h3 h4 h5 => ⟨rfl, dx, _, h3, h4, by rw [upd_ne h2] at h1; exact h1, ?_⟩⟩⟩
  rw [upd_ne h2] at h1
  have e : upd (del H2 a) dx (.xd (mkV t vs)) = upd H dx (.xd (mkV t vs)) := by
    funext b
    by_cases hb : b = dx
    · rw [hb, upd_same, upd_same]
    · rw [upd_ne hb, upd_ne hb]
      by_cases hba : b = a
      · rw [hba, del_same, ha]
      · rw [del_ne hba, h5 b hba hb, upd_ne hba]
  rw [e]
  exact q F G _ C dx _ Gr.refl (Ex.refl _) (I.loose h1) hm upd_same (I.freshG h1) (mk_rel r t)
theorem ds_raise0 {C fI : Addr} {k : Nat} {t : Tpl} {fd : FuncData} {ps : List Str} {x : Str} {p pos pos2 : Pos} (oc : OexC X.K C) (hno : ∀ p ∈ t, PySem.W.findIn X.K (.ref C) p.1 = some none) (iC : PySem.W.findIn X.K (.ref C) "__init__" = some (some (.ref fI))) (tI : PySem.W.typeIn X.K (.ref fI) = some (.type "function"))
    (F1 : FnOk X.prog X.w X.K X.mg X.base (L2.CX X.prog X.w) k fI fd ps (spI X.K 0 t)) (hb : Binds X.K fd ps []) (hm : X.mg x = some (.ref C)) (hr : Room (k + 1) X.A) (tk : Takes X W) (hc : X.calm = true)
    (hg : Gl X x := by rfl) (hdb : (x == ("__debug__" : Str)) = false := by decide) :
    DS X T B W (.Raise (some (.Call (.Name x p) [] [] pos)) none pos2) (gRaise x 0 t mNil) :=
  ps_weak (ps_raise hc tk (pmk_oex0 oc iC tI F1 hr hb (passes_call LamX.takes0 (fun _ _ _ _ h => h)) hm hg hdb)) fun D σ H ⟨F, G, s, I, q⟩ =>
    raise_to oc hno (Nat.zero_le _) hm I .nil rfl (q σ)
end

/-! ### what a def that catches makes of a lambda -/
/-- the clause that takes cls -/
def pick (K : PySem.W.Frag) (cls : Value) : List (Value × List Str) → Option (List Str)
  | [] => none
  | (c, fl) :: r => match PySem.W.exmOne K cls c with
    | some true => some fl
    | some false => pick K cls r
    | none => none
/-- e.f for each f of fl, a the exception -/
def xflds (K : PySem.W.Frag) (cls : Value) (d : Option Addr) (fl : List Str) (H : Hp) (q : List V → Prop) : Prop := ∃ (C dd : Addr) (fs : List (Str × V)), cls = .ref C ∧ XfC K C ∧ (∀ f ∈ fl, PySem.W.findIn K (.ref C) f = some none) ∧ d = some dd ∧ H dd = some (.xd fs) ∧ ∃ vs, fl.map (fs.lookup ·) = vs.map some ∧ q vs
section
variable {X : Cx} {a : Addr} {oe : Obj} {cls : Value} {d : Option Addr} {pn : List (Addr × Obj)}
theorem pe_xfs {e : Expr} {te : TE} {pos : Pos} {n : Str} (hz : Zc cls d oe) (hf : ∃ vs, oe.data = .fields vs) (he : PE (X.suite a ((a, oe) :: pn)) e te) (hb : attributeBase e n X.env (eval e X.env) = eval e X.env := by rfl) :
    PE (X.suite a ((a, oe) :: pn)) (.Attribute e n pos) (fun σ H Q => ∃ C, XfC X.K C ∧ PySem.W.findIn X.K (.ref C) n = some none ∧ tXf a cls d C n te σ H Q) :=
  ⟨fun pins s σ H Q I ⟨C, h1, h2, h3⟩ => (pe_xf h1 h2 hz hf he hb).run pins s σ H Q I h3⟩
/-- return ('no', e.f, ..) : e at slot i -/
def tsNo (K : PySem.W.Frag) (no : Str) (i : Nat) (fl : List Str) : Addr → Value → Option Addr → TS := fun a cls d D σ H => (i < σ.length → σ[i]? = some (some (.ref a))) ∧ xflds K cls d fl H fun vs => ∀ q, H q = none → D.rt (.ref q) (upd H q (.tup (.str no :: vs)))
theorem pss_len {X : Cx} {st : List Stmt} {t t' : TS} (h : PSs X st t) (q : ∀ D σ H, σ.length = X.N.length → t' D σ H → t D σ H) : PSs X st t' := ⟨fun pins s σ H D I z => h.run pins s σ H D I (q D σ H I.len z)⟩
theorem lt_of_get {α : Type} {l : List α} {i : Nat} {x : α} (h : l[i]? = some x) : i < l.length := (List.getElem?_eq_some_iff.mp h).1
theorem no1 {i j tl : Nat} {n no f1 : Str} {p1 p2 p3 p4 p5 : Pos} (hz : Zc cls d oe) (hf : ∃ vs, oe.data = .fields vs) (hi : X.N[i]? = some n) (hv : Vis X.env.scope n) (hd : (n == ("__debug__" : Str)) = false := by decide) (hcd : (n == ("__classdict__" : Str)) = false := by decide) :
    PSs (X.suite a ((a, oe) :: pn)) [.Return (some (.Tuple [.Constant (.str no) j p1, .Attribute (.Name n p2) f1 p3] tl p4)) p5] (tsNo X.K no i [f1] a cls d) :=
  pss_len (pss_one (ps_ret (pe_tup (pa_cons pe_str (pa_cons (pe_xfs hz hf (pe_var (X := X.suite a ((a, oe) :: pn)) (i := i) hi hv hd hcd)) pa_nil))))) fun D σ H hl ⟨h1, C, dd, fs, e1, e2, e3, e4, e5, vs, e6, q⟩ => by
    have h1 := h1 (by rw [hl]; exact lt_of_get hi)
    have hlen := congrArg List.length e6
    obtain ⟨v, rfl⟩ : ∃ v, vs = [v] := by
      match vs, hlen with
      | [v], _ => exact ⟨v, rfl⟩
    simp at e6
    exact ⟨C, e2, e3 f1 (by simp), .ref a, h1, rfl, e1, dd, fs, v, e4, e5, e6, by simp [sizeLine_eq], q⟩
theorem no2 {i j tl : Nat} {n no f1 f2 : Str} {p1 p2 p3 p4 p5 p6 p7 : Pos} (hz : Zc cls d oe) (hf : ∃ vs, oe.data = .fields vs) (hi : X.N[i]? = some n) (hv : Vis X.env.scope n) (hd : (n == ("__debug__" : Str)) = false := by decide) (hcd : (n == ("__classdict__" : Str)) = false := by decide) :
    PSs (X.suite a ((a, oe) :: pn)) [.Return (some (.Tuple [.Constant (.str no) j p1, .Attribute (.Name n p2) f1 p3, .Attribute (.Name n p4) f2 p5] tl p6)) p7] (tsNo X.K no i [f1, f2] a cls d) :=
  pss_len (pss_one (ps_ret (pe_tup (pa_cons pe_str (pa_cons (pe_xfs hz hf (pe_var (X := X.suite a ((a, oe) :: pn)) (i := i) hi hv hd hcd)) (pa_cons (pe_xfs hz hf (pe_var (X := X.suite a ((a, oe) :: pn)) (i := i) hi hv hd hcd)) pa_nil)))))) fun D σ H hl ⟨h1, C, dd, fs, e1, e2, e3, e4, e5, vs, e6, q⟩ => by
    have h1 := h1 (by rw [hl]; exact lt_of_get hi)
    have hlen := congrArg List.length e6
    obtain ⟨v, v2, rfl⟩ : ∃ v v2, vs = [v, v2] := by
      match vs, hlen with
      | [v, v2], _ => exact ⟨v, v2, rfl⟩
    simp at e6
    exact ⟨C, e2, e3 f1 (by simp), .ref a, h1, rfl, e1, dd, fs, v, e4, e5, e6.1, C, e2, e3 f2 (by simp), .ref a, h1, rfl, e1, dd, fs, v2, e4, e5, e6.2, by simp [sizeLine_eq], q⟩
end
/-- the clauses, by their texts -/
inductive HdN (sg : Scope) (mg : Str → Option Value) (n no : Str) : List ExceptHandler → List (Value × List Str) → Prop
  | nil : HdN sg mg n no [] []
  | c1 {x f1 : Str} {c : Value} {j tl : Nat} {p1 p2 p3 p4 p5 p6 p7 : Pos} {hds : List ExceptHandler} {l : List (Value × List Str)} (hg : sg.names.lookup x = some .globalImplicit) (hm : mg x = some c) (hdb : (x == ("__debug__" : Str)) = false) (r : HdN sg mg n no hds l) :
      HdN sg mg n no (.ExceptHandler (some (.Name x p6)) (some n) [.Return (some (.Tuple [.Constant (.str no) j p1, .Attribute (.Name n p2) f1 p3] tl p4)) p5] p7 :: hds) ((c, [f1]) :: l)
  | c2 {x f1 f2 : Str} {c : Value} {j tl : Nat} {p1 p2 p3 p4 p5 p6 p7 p8 p9 : Pos} {hds : List ExceptHandler} {l : List (Value × List Str)} (hg : sg.names.lookup x = some .globalImplicit) (hm : mg x = some c) (hdb : (x == ("__debug__" : Str)) = false) (r : HdN sg mg n no hds l) :
      HdN sg mg n no (.ExceptHandler (some (.Name x p6)) (some n) [.Return (some (.Tuple [.Constant (.str no) j p1, .Attribute (.Name n p2) f1 p3, .Attribute (.Name n p4) f2 p5] tl p8)) p9] p7 :: hds) ((c, [f1, f2]) :: l)
theorem HdN.to {X : Cx} {n no : Str} {i : Nat} (hi : X.N[i]? = some n) (hv : Vis X.env.scope n) (hd : (n == ("__debug__" : Str)) = false) (hcd : (n == ("__classdict__" : Str)) = false) : ∀ {hds : List ExceptHandler} {l : List (Value × List Str)}, HdN X.env.scope X.mg n no hds l → HdAs X n hds (l.map fun p => (p.1, tsNo X.K no i p.2))
  | _, _, .nil => .nil
  | _, _, .c1 hg hm hdb r => .cons ⟨hg, hdb, .inl hm⟩ (fun a oe cls d pn hz hf => no1 hz hf hi hv hd hcd) (r.to hi hv hd hcd)
  | _, _, .c2 hg hm hdb r => .cons ⟨hg, hdb, .inl hm⟩ (fun a oe cls d pn hz hf => no2 hz hf hi hv hd hcd) (r.to hi hv hd hcd)
theorem pick_wAll {K : PySem.W.Frag} {no : Str} {i : Nat} {Wout : WX} {D : Ends} {cls : Value} {d : Option Addr} {σ : St} {H : Hp} {fl : List Str} : ∀ {l : List (Value × List Str)}, pick K cls l = some fl → (xflds K cls d fl H fun vs => ∀ q, H q = none → D.rt (.ref q) (upd H q (.tup (.str no :: vs)))) →
    wAll K i Wout D (l.map fun p => (p.1, tsNo K no i p.2)) cls d σ H
  | [], h, _ => by cases h
  | (c, fs) :: l, h, q => by
    unfold pick at h
    split at h
    · rename_i e
      cases h
      exact ⟨true, e, fun _ a ha => ⟨fun hl => by rw [List.getElem?_set_self (by simpa using hl)], q⟩, fun z => by cases z⟩
    · rename_i e
      exact ⟨false, e, (fun z => by cases z), fun _ => pick_wAll h q⟩
    · cases h
def TWhy (K : PySem.W.Frag) (told no : Str) (hl : List (Value × List Str)) : (XK → Hp → VK → Prop) → Hp → VK → Prop := fun tl H Q =>
  tl (fun cls d H' => ∃ fl, pick K cls hl = some fl ∧ xflds K cls d fl H' fun vs => ∀ q, H' q = none → Q (.ref q) (upd H' q (.tup (.str no :: vs)))) H (fun v H' => [V.str told, v].length ≤ sizeLine ∧ ∀ q, H' q = none → Q (.ref q) (upd H' q (.tup [.str told, v])))
theorem why_gives {X : Cx} {Ng : List Str} {x a n q told no : Str} {sg : Scope} {g : Addr} {cdg : Value} {j i tl0 : Nat} {h0 : ExceptHandler} {hds : List ExceptHandler} {hl : List (Value × List Str)} {p1 p2 p3 p4 p5 p6 : Pos}
    (hh : HdN sg X.mg n no (h0 :: hds) hl) (hNd : Ng.Nodup) (hi : Ng[i]? = some n) (hln : sg.names.lookup n = some .local) (hs0 : ∀ f : Addr, (L2.start Ng [V.ref f])[0]? = some (some (V.ref f))) (hd : (n == ("__debug__" : Str)) = false := by decide) (hcd : (n == ("__classdict__" : Str)) = false := by decide) :
    LamX.GivesTo X Ng x sg g cdg [.Try [.Return (some (.Tuple [.Constant (.str told) j p1, .Call (.Name a p2) [] [] p3] tl0 p4)) p5] (h0 :: hds) [] [] p6] a q (TWhy X.K told no hl) := by
  intro f c' s H Q tl act hc h
  refine ⟨_, pss_one (ps_try_all (X := (cxOf C8.CX0 X.prog X.w X.K X.mg X.base Ng x sg g cdg X.A X.stack s H C8.E0).nox) (n := n) (i := i) (l := hl.map fun p => (p.1, tsNo X.K no i p.2))
      (tb := fun W D σ H => ∃ Ech : XK, (∀ cls d σ' H', Ech cls d H' → W cls d σ' H') ∧ σ[0]? = some (some (.ref f)) ∧ H c' = some (LamX.CodeO c' q) ∧ tl Ech H (fun v H' => [V.str told, v].length ≤ sizeLine ∧ ∀ q, H' q = none → D.rt (.ref q) (upd H' q (.tup [.str told, v]))))
      rfl rfl hNd hi hln LamX.takes0 (fun W pn xe tk _ => ?_) (HdN.to (X := (cxOf C8.CX0 X.prog X.w X.K X.mg X.base Ng x sg g cdg X.A X.stack s H C8.E0).nox) hi (.inl hln) hd hcd hh)), ?_⟩
  · refine ⟨fun pins s' σ H' D I h' => ?_⟩
    obtain ⟨Ech, hW, h1, h2, h3⟩ := h'
    have hp := act W pn xe Ech p2 p3 tk hW
    have hq := pss_one (ps_ret (pos := p5) (pe_tup (x1 := tl0) (pos := p4) (pa_cons (pe_str (x := told) (j := j) (pos := p1)) (pa_cons hp pa_nil))))
    exact hq.run pins s' σ H' D I ⟨h1, h2, h3⟩
  · exact ⟨_, fun cls d σ' H' ⟨fl, e1, e2⟩ => pick_wAll e1 e2, hs0 f, hc, h⟩

/-! ### the lambda is made: what F tells of the tables -/
/-- what the making of a lambda turns -/
structure Trn (T : List (Addr × Str)) (F H F1 H1 : Hp) : Prop where
  ex : Ex F1 H1
  gr : LamX.ExtN F F1
  tb : LamX.Tabs T F1
  old : ∀ a o, H a = some o → F a = none → H1 a = some o
  new : ∀ a o, H a = some o → F a = none → F1 a = none
  tup : ∀ a xs, H1 a = some (.tup xs) → H a = some (.tup xs)
theorem IS.trn {K : PySem.W.Frag} {T : List (Addr × Str)} {B : Addr} {F G H F1 H1 : Hp} {σ : St} {s : S} (I : IS K T B F G H σ s) (t : Trn T F H F1 H1) : IS K T B F1 G H1 σ s := by
  have gf : ∀ {a o}, G a = some o → F a = none := fun {a o} h => by
    cases e : F a with
    | none => rfl
    | some u =>
      rw [I.dj a u e] at h
      cases h
  refine ⟨I.len, t.ex, fun a o h => t.old a o (I.gh a o h) (gf h), fun a o h => ?_, t.tb, fun i x hx => ?_, I.ap, fun a xs h => I.tc a xs (t.tup a xs h)⟩
  · cases e : G a with
    | none => rfl
    | some u =>
      rw [t.new a u (I.gh a u e) (gf e)] at h
      cases h
  · refine (I.sl i x hx).mono3 (Ex.refl G) (fun p u h1 h2 h3 => ⟨h2, t.old p u h1 h3, t.new p u h1 h3⟩) fun p u h1 h2 h3 => ?_
    cases e : F p with
    | none => exact ⟨h3, t.old p u h1 e, fun _ => t.new p u h1 e⟩
    | some w =>
      have h4 := I.fr p w e
      rw [h1] at h4
      cases h4
      exact ⟨h3, t.ex p u (t.gr p u e (by rintro ps rfl; cases h2)), fun z => nomatch z⟩
section
open LamX
variable {X : Cx} {pins : List (Addr × Obj)} {σ : St} {F H : Hp} {s : Shared}
theorem lam_make3 {T : List (Addr × Str)} {c P : Addr} {params : Arguments} {body : Expr} {scope : Scope} {pos : Pos} {E : Value → Shared → Prop} {Q : Value → Shared → Prop} (I : Inv X pins σ H s) (TB : TabB X.base X.mg c P) (hcode : X.env.code = .ref c)
    (hm : (P, X.env.qual ++ "<lambda>") ∈ T) (hu : ∀ p ∈ T, p.1 = P → p.2 = X.env.qual ++ "<lambda>") (hF : Ex F H) (hT : Tabs T F) (hdef : defaultsOf params X.env = ([], [])) (hfree : ∀ y ∈ scope.names, y.2 = .free → ∃ c, X.env.cells.lookup y.1 = some c)
    (h : ∀ (f c' : Addr) (pm ctv : Value) (F1 H1 : Hp) (s' : Shared), Inv X pins σ H1 s' → Trn T F H F1 H1 →
      s'.heap.get? f = some (PySem.W.kla_obj "<lambda>" (X.env.qual ++ "<lambda>") params body scope (cloFrom X.env.cells scope.names []) pm c' ctv) → H1 f = none → f ∉ frs X.stack → H1 c' = some (CodeO c' (X.env.qual ++ "<lambda>")) → Q (.ref f) s') :
    wpAny (model X.prog X.w) X.A (eval (.Lambda params body scope pos) X.env) Q E s := by
  obtain ⟨ps, hPF, ht, ha⟩ := hT _ hm
  have hP : H P = some (.tbl ps) := hF _ _ hPF
  refine PySem.W.kla_eval hdef ?_
  have bP : s.heap.BuiltinsAt X.mg P := TB.bm.keeps I.bk
  have hP' : s.heap.get? P = some { cls := .none, data := .fields ps } := I.hok P _ hP
  have nofr : ∀ f, s.heap.objs.size ≤ f → f ∉ frs X.stack := fun f hf z => by
    rcases List.mem_cons.mp (I.stkSub _ z) with e | e
    · have h1 := I.lt
      rw [← e] at h1
      exact Nat.lt_irrefl _ (Nat.lt_of_lt_of_le h1 hf)
    · exact I.nofs hf e
  cases hc : codeAmong pos ps.toList with
  | none =>
    refine PySem.W.kla_makeFunction (mg := X.mg) (c := c) (P := P) (ps := ps) (closure_ok hfree) I.ok.glob (I.mod.glob.keeps I.bk) hcode (TB.code.keeps I.bk) hP' ht hc TB.gP bP fun c' ctv h' tk hx hge hlt hrec htb => ?_
    obtain ⟨c2, oc, vs, t, e2, hoc, hd, hv⟩ := hrec
    cases e2
    have hsz : s.heap.objs.size ≤ h'.objs.size := Nat.le_trans hge (Nat.le_of_lt hlt)
    have nC : H c' = none := I.hok.fresh hge
    have nCF : F c' = none := by
      cases e : F c' with
      | none => rfl
      | some u =>
        rw [hF _ _ e] at nC
        cases nC
    have I1 := inv_table (t' := tk) (more := #[rawInt pos.line, rawInt pos.col, .ref c']) (h' := h'.push (PySem.W.kla_obj "<lambda>" (X.env.qual ++ "<lambda>") params body scope (cloFrom X.env.cells scope.names []) ((X.mg "__name__").getD .none) c' ctv)) I hP
      (fun b o hb e => Heap.get?_push_of_some _ (hx b o hb e)) (Heap.get?_push_of_some _ htb) hge ⟨oc, vs, t, Heap.get?_push_of_some _ hoc, hd, hv⟩
    have hE : ExtN F (upd (upd F P (.tbl (ps ++ #[rawInt pos.line, rawInt pos.col, .ref c']))) c' (CodeO c' (X.env.qual ++ "<lambda>"))) := fun b o e n => by
      rw [upd_ne (ne_of_none e nCF), upd_ne (fun z => n ps (Option.some.inj (e.symm.trans (by rw [z]; exact hPF))))]
      exact e
    have eL : (ps ++ #[rawInt pos.line, rawInt pos.col, .ref c']).toList = ps.toList ++ [rawInt pos.line, rawInt pos.col, .ref c'] := by simp
    refine h h'.objs.size c' ((X.mg "__name__").getD .none) ctv (upd (upd F P (.tbl (ps ++ #[rawInt pos.line, rawInt pos.col, .ref c']))) c' (CodeO c' (X.env.qual ++ "<lambda>"))) _ _ I1 ⟨fun b o e => ?_, hE, fun p hp => ?_, fun b o e n => ?_, fun b o e n => ?_, fun b xs e => ?_⟩ (Heap.get?_push_size _ rfl) ?_ (nofr _ hsz) upd_same
    · by_cases hb : b = c'
      · subst hb
        rw [upd_same] at e ⊢
        exact e
      · rw [upd_ne hb] at e ⊢
        by_cases hb2 : b = P
        · subst hb2
          rw [upd_same] at e ⊢
          exact e
        · rw [upd_ne hb2] at e ⊢
          exact hF _ _ e
    · by_cases hb : p.1 = P
      · rw [hu p hp hb, hb]
        refine ⟨_, by rw [upd_ne (ne_of_none hPF nCF), upd_same], by rw [eL]; exact PySem.TriplesOk_snoc _ _ _ _ ht, fun p' cv hcv => ?_⟩
        rw [eL] at hcv
        rcases among_app _ ht hcv with z | z
        · obtain ⟨c0, e1, e2⟩ := ha p' cv z
          exact ⟨c0, e1, hE _ _ e2 codeO_ne⟩
        · exact ⟨c', z, upd_same⟩
      · obtain ⟨ps', a1, a2, a3⟩ := hT p hp
        refine ⟨ps', by rw [upd_ne (ne_of_none a1 nCF), upd_ne hb]; exact a1, a2, fun p' cv hcv => ?_⟩
        obtain ⟨c0, e1, e2⟩ := a3 p' cv hcv
        exact ⟨c0, e1, hE _ _ e2 codeO_ne⟩
    · have n1 : b ≠ P := fun z => by
        rw [z, hPF] at n
        cases n
      rw [upd_ne (ne_of_none e nC), upd_ne n1]
      exact e
    · have n1 : b ≠ P := fun z => by
        rw [z, hPF] at n
        cases n
      rw [upd_ne (ne_of_none e nC), upd_ne n1]
      exact n
    · by_cases hb : b = c'
      · rw [hb, upd_same] at e
        unfold CodeO at e
        cases e
      · rw [upd_ne hb] at e
        by_cases hb2 : b = P
        · rw [hb2, upd_same] at e
          cases e
        · rw [upd_ne hb2] at e
          exact e
    · have n1 : h'.objs.size ≠ c' := Nat.ne_of_gt hlt
      have n2 : h'.objs.size ≠ P := Nat.ne_of_gt (Nat.lt_of_lt_of_le (Heap.lt_size hP') hsz)
      rw [upd_ne n1, upd_ne n2]
      exact I.hok.fresh hsz
  | some cv =>
    obtain ⟨c', e, hco⟩ := ha pos cv hc
    subst e
    refine PySem.W.kla_makeFunctionHit (mg := X.mg) (c := c) (P := P) (ps := ps) (closure_ok hfree) I.ok.glob (I.mod.glob.keeps I.bk) hcode (TB.code.keeps I.bk) hP' ht hc bP fun ctv h' tk hx hsz => ?_
    have I1 : Inv X pins σ H { s with heap := h'.push (PySem.W.kla_obj "<lambda>" (X.env.qual ++ "<lambda>") params body scope (cloFrom X.env.cells scope.names []) ((X.mg "__name__").getD .none) c' ctv), toks := tk } := I.kept fun b o e => Heap.get?_push_of_some _ (hx b o e)
    exact h h'.objs.size c' ((X.mg "__name__").getD .none) ctv F H _ I1 ⟨hF, ExtN.refl F, hT, fun _ _ e _ => e, fun _ _ _ n => n, fun _ _ e => e⟩ (Heap.get?_push_size _ rfl) (I.hok.fresh hsz) (nofr _ hsz) (hF _ _ hco)
def tLam3 (T : List (Addr × Str)) (TT : (XK → Hp → VK → Prop) → Hp → VK → Prop) (t : XK → TE) : TE := fun σ H Q => ∃ F, Ex F H ∧ Tabs T F ∧ ∀ F1 H1, Trn T F H F1 H1 → TT (fun E H' Q' => t E σ H' Q') H1 Q
/-- x(lambda: body) -/
theorem pe_lamcall3 {T : List (Addr × Str)} {TT : (XK → Hp → VK → Prop) → Hp → VK → Prop} {x a : Str} {g c P : Addr} {k : Nat} {pg : Arguments} {bg : List Stmt} {sg : Scope} {dV kV doc pm cdv ct oc : Value} {an od : Option Addr} {osl : Array (Option Value)} {Ng : List Str}
    {params : Arguments} {body : Expr} {scope : Scope} {t : XK → TE} {p lpos pos : Pos} (hg : Gl X x) (hm : X.mg x = some (.ref g)) (hk : PySem.W.keepIn X.K (.ref g) = true)
    (lk : X.K.lookup g = some ⟨oc, od, .func (PySem.W.fnOf x x pg bg sg dV kV doc pm an cdv ct), osl⟩) (hcg : PySem.W.codeIn X.K cdv x = true) (hb : L2.Binds X.K (PySem.W.fnOf x x pg bg sg dV kV doc pm an cdv ct) [a] []) (Sg : FnScope Ng [a] sg) (hNg : Ng[0]? = some a) (hva : Vis sg a)
    (hG : GivesTo X Ng x sg g cdv bg a (X.env.qual ++ "<lambda>") TT)
    (TB : TabB X.base X.mg c P) (hcode : X.env.code = .ref c) (hmT : (P, X.env.qual ++ "<lambda>") ∈ T) (hu : ∀ p ∈ T, p.1 = P → p.2 = X.env.qual ++ "<lambda>") (hr : Room (k + 2) X.A) (L : LamS X.env.scope scope) (hdef : defaultsOf params X.env = ([], []))
    (hbind : ∀ (q : Str) (cl : List (Str × Addr)) (pm cv ctv : Value), bindArgs (PySem.W.kla_fn "<lambda>" q params body scope cl pm cv ctv) ⟨[], []⟩ = pure [])
    (hbody : ∀ (A : Around) (outer : List Env) (s : Shared) (H : Hp) (E : XK) (f c' : Addr), Room k (A.deeper (lamEnv X scope s.heap.objs.size f c')) → PE (lamCx X A outer s H E scope f c') body (t E))
    (hdb : (x == ("__debug__" : Str)) = false := by decide) (hd : (a == ("__debug__" : Str)) = false := by decide) (hcd : (a == ("__classdict__" : Str)) = false := by decide) :
    PE X (.Call (.Name x p) [.Lambda params body scope lpos] [] pos) (tLam3 T TT t) := by
  refine ⟨fun pins s σ H Q I h => ?_⟩
  obtain ⟨F, hF, hT, h⟩ := h
  refine wpAny_Call_Name_kw (ld_glob I hg hm ?_ hdb)
  refine PySem.W.callWith_K (h₀ := X.base) I.ok.mod.kin hk ?_ (by rfl) (by rfl)
  show wpAny _ _ (spliced ((false, eval (.Lambda params body scope lpos) X.env) :: backTo pos (starEach [] X.env))) _ _ s
  refine Calls.spliced_cons (lam_make3 I TB hcode hmT hu hF hT hdef (L.has I.ok) fun f c' pm' ctv F1 H1 s' I1 tr hf hfn hfr hco => ?_)
  refine Calls.spliced_nil ⟨I1.kIn, ?_⟩
  have rc : codeAny (model X.prog X.w) X.A (.call (.ref g) ⟨[.ref f], []⟩) (CR C8.CX0 X.stack X.prog X.w H1 s' Q C8.E0) s' := by
    refine run_ofS (N := Ng) (ps := [a]) (us := [.ref f]) (vs := [.ref f]) lk hcg Sg hr I1.env0 (hb s' [.ref f] I1.kIn rfl) (.cons rfl .nil) rfl fun hr' => ?_
    obtain ⟨t', ht', hq'⟩ := hG f c' s' H1 Q (fun E H' Q' => t E σ H' Q') (fun W pn xe E p1 p2 tk hW => pe_act (i := 0) I1 L hf hfn hfr (hbind _ _ _ _ _) tk hW hr' (fun A outer s H hr2 => hbody A outer s H E f c' hr2) hNg hva hd hcd) hco (h F1 H1 tr)
    exact ⟨t', ht'.nox, hq'⟩
  refine wpAny_call (codeAny_mono rc fun r s2 hq => ?_)
  cases r with
  | error e => exact (show False from hq).elim
  | ok fl =>
    cases fl with
    | ret u => exact I1.after hq
    | next => exact False.elim hq
    | brk => exact False.elim hq
    | cont => exact False.elim hq
end

/-! ### in data -/
def fldsD (fs : List (Str × D)) : List Str → Option (List D)
  | [] => some []
  | f :: r => match fs.lookup f, fldsD fs r with
    | some d, some l => some (d :: l)
    | _, _ => none
theorem flds_rel {K : PySem.W.Frag} {G : Hp} {fs : List (Str × V)} {fd : List (Str × D)} (r : RpF K G fs fd) : ∀ {fl : List Str} {ds : List D}, fldsD fd fl = some ds → ∃ vs, fl.map (fs.lookup ·) = vs.map some ∧ RpA K G vs ds
  | [], _, h => by
    cases h
    exact ⟨[], rfl, .nil⟩
  | f :: fl, ds, h => by
    unfold fldsD at h
    split at h
    · rename_i d l e1 e2
      cases h
      obtain ⟨v, h1, h2⟩ := r f d e1
      obtain ⟨vs, h3, h4⟩ := flds_rel r e2
      exact ⟨v :: vs, by simp [h1, h3], .cons h2 h4⟩
    · cases h
/-- which fields are told of a refusal of the class -/
abbrev Pk := Str → Option (List Str)
def mWhy (told no : Str) (pk : Pk) (fb : M D) : M D := fun s => match fb s with
  | .ok d s1 => .ok (.tuple [.str told, d]) s1
  | .ex c s1 => match (pk c.cls).bind (fldsD c.fs) with
    | some ds => .ok (.tuple (.str no :: ds)) s1
    | none => .bad
  | .bad => .bad
structure PkOk (K : PySem.W.Frag) (mg : Str → Option Value) (hl : List (Value × List Str)) (pk : Pk) : Prop where
  ok : ∀ x fl C, pk x = some fl → mg x = some (.ref C) → pick K (.ref C) hl = some fl ∧ XfC K C ∧ ∀ f ∈ fl, PySem.W.findIn K (.ref C) f = some none
section
variable {X : Cx} {T : List (Addr × Str)} {B : Addr} {W : WX}
theorem takes_lam {X : Cx} {A : Around} {outer : List Env} {s : Shared} {H : Hp} {E : XK} {scope : Scope} {f c' : Addr} : Takes (LamX.lamCx X A outer s H E scope f c') (fun cls d _ H => E cls d H) := takes_of rfl rfl rfl rfl
theorem de_why {told no x a : Str} {hl : List (Value × List Str)} {pk : Pk} {g c P : Addr} {k : Nat} {pg : Arguments} {bg : List Stmt} {sg : Scope} {dV kV doc pm cdv ct oc : Value} {an od : Option Addr} {osl : Array (Option Value)} {Ng : List Str}
    {params : Arguments} {body : Expr} {scope : Scope} {fb : M D} {p lpos pos : Pos} (hm : X.mg x = some (.ref g)) (hk : PySem.W.keepIn X.K (.ref g) = true)
    (lk : X.K.lookup g = some ⟨oc, od, .func (PySem.W.fnOf x x pg bg sg dV kV doc pm an cdv ct), osl⟩) (hcg : PySem.W.codeIn X.K cdv x = true) (hb : L2.Binds X.K (PySem.W.fnOf x x pg bg sg dV kV doc pm an cdv ct) [a] []) (Sg : FnScope Ng [a] sg) (hNg : Ng[0]? = some a) (hva : Vis sg a)
    (hG : LamX.GivesTo X Ng x sg g cdv bg a (X.env.qual ++ "<lambda>") (TWhy X.K told no hl)) (hpk : PkOk X.K X.mg hl pk)
    (TB : LamX.TabB X.base X.mg c P) (hcode : X.env.code = .ref c) (hmT : (P, X.env.qual ++ "<lambda>") ∈ T) (hu : ∀ p ∈ T, p.1 = P → p.2 = X.env.qual ++ "<lambda>") (hr : Room (k + 2) X.A) (L : LamX.LamS X.env.scope scope) (hdef : defaultsOf params X.env = ([], []))
    (hbind : ∀ (q : Str) (cl : List (Str × Addr)) (pm cv ctv : Value), bindArgs (PySem.W.kla_fn "<lambda>" q params body scope cl pm cv ctv) ⟨[], []⟩ = pure [])
    (hbody : ∀ (A : Around) (outer : List Env) (s : Shared) (H : Hp) (E : XK) (f c' : Addr), Room k (A.deeper (LamX.lamEnv X scope s.heap.objs.size f c')) → DE (LamX.lamCx X A outer s H E scope f c') T B (fun cls d _ H => E cls d H) body fb)
    (hg : Gl X x := by rfl) (hdb : (x == ("__debug__" : Str)) = false := by decide) (hd : (a == ("__debug__" : Str)) = false := by decide) (hcd : (a == ("__classdict__" : Str)) = false := by decide) :
    DE X T B W (.Call (.Name x p) [.Lambda params body scope lpos] [] pos) (mWhy told no pk fb) :=
  pe_weak (pe_lamcall3 (t := fun E => TEd X T B (fun cls d _ H => E cls d H) fb) hg hm hk lk hcg hb Sg hNg hva hG TB hcode hmT hu hr L hdef hbind hbody hdb hd hcd) fun σ H Q ⟨F, G, s, I, p⟩ => by
    refine ⟨F, I.fr, I.tb, fun F1 H1 tr => ?_⟩
    have I1 := I.trn tr
    have g1 : Gr T F F1 := ⟨tr.gr, fun z => by rw [z] at hmT; cases hmT⟩
    refine ⟨F1, G, s, I1, ?_⟩
    unfold mWhy at p
    cases ef : fb s with
    | bad => rw [ef] at p; exact p
    | ok d s1 =>
      rw [ef] at p
      intro F2 G2 H2 g2 e2 I2 v rv
      refine ⟨by simp [sizeLine_eq], fun q hq => ?_⟩
      exact p F2 _ _ (g1.trans g2) (e2.trans (ex_new I2 hq)) (I2.new hq) _ (.tup upd_same (.cons (.str _) (.cons (rv.mono (ex_new I2 hq)) .nil)))
    | ex c s1 =>
      rw [ef] at p
      simp only at p
      cases ek : (pk c.cls).bind (fldsD c.fs) with
      | none => rw [ek] at p; exact p.elim
      | some ds =>
        rw [ek] at p
        obtain ⟨fl, h1, h2⟩ := Option.bind_eq_some_iff.mp ek
        intro F2 G2 H2 C dd fs g2 e2 I2 hmc hdd hgd hrf
        obtain ⟨k1, k2, k3⟩ := hpk.ok _ _ _ h1 hmc
        obtain ⟨vs, r1, r2⟩ := flds_rel hrf h2
        refine ⟨fl, k1, C, dd, fs, rfl, k2, k3, rfl, hdd, vs, r1, fun q hq => ?_⟩
        exact p F2 _ _ (g1.trans g2) (e2.trans (ex_new I2 hq)) (I2.new hq) _ (.tup upd_same (.cons (.str _) (r2.mono (ex_new I2 hq))))
end
end DL
set_option Elab.async false
set_option linter.all false
set_option maxRecDepth 100000
set_option maxHeartbeats 4000000
/-! DL13: names read for good; defs by their names -/
namespace DL
open PySem PySem.Spec L2
open PyProof.Rows hiding St
open Evl (Ex ex_l ex_t ex_rd)

/-- a def of the module, called with so many, the rest by defaults -/
structure FnC (P : Program) (w : World) (K : PySem.W.Frag) (mg : Str → Option Value) (base : Heap) (k n : Nat) (x : Str) (f : S → Res SV) (dds : List D) : Prop where
  ex : ∃ (fd : FuncData) (ps : List Str) (dvs : List V) (ds : List Value), FnOk P w K mg base (L2.CX P w) k (He.ga K x) fd ps (spF K mg n f) ∧ Binds K fd ps ds ∧ Vals dvs ds ∧ ∀ G, RpA K G dvs dds
  hm : mg x = some (.ref (He.ga K x))
  kp : PySem.W.keepIn K (.ref (He.ga K x)) = true
section
variable {X : Cx} {T : List (Addr × Str)} {B : Addr} {W : WX} {k k' n : Nat} {f : S → Res SV} {x y : Str} {p p2 pos : Pos} {e : Expr} {es : List Expr} {dds : List D} {fa : M (List D)}
theorem do_fn (Fn : FnC X.prog X.w X.K X.mg X.base k n x f dds) (hr : Room k' X.A) (hk : k ≤ k') (tk : Takes X W) (ha : DA X T B W (e :: es) fa) (hn : ∀ s ds s', fa s = .ok ds s' → (ds ++ dds).length = n) (hg : Gl X x := by rfl) (hdb : (x == ("__debug__" : Str)) = false := by decide)
    (he : starEach (e :: es) X.env = (false, eval e X.env) :: starEach es X.env := by rfl) (hpl : (backTo pos (starEach es X.env)).any (·.1) = false := by rfl) : DO X T B W (.Call (.Name x p) (e :: es) [] pos) (oCall f dds fa) := by
  obtain ⟨⟨fd, ps, dvs, ds, F, hb, hd, hdd⟩, hm, kp⟩ := Fn
  exact do_call F (hr.mono hk) hm kp hb hd hdd tk ha hn hg hdb he hpl
theorem do_fnR (i : Nat) (Fn : FnC X.prog X.w X.K X.mg X.base k n x f dds) (hr : Room k' X.A) (hk : k ≤ k') (tk : Takes X W) (ha : DA X T B W es fa) (hn : ∀ s ds s', fa s = .ok ds s' → (ds ++ dds).length + 1 = n) (hg : Gl X x := by rfl) (hN : X.N[i]? = some y := by rfl)
    (hv : Vis X.env.scope y := by first | exact Or.inl rfl | exact Or.inr (Or.inl rfl) | exact Or.inr (Or.inr rfl)) (hdy : (y == ("__debug__" : Str)) = false := by decide) (hcd : (y == ("__classdict__" : Str)) = false := by decide) (hdb : (x == ("__debug__" : Str)) = false := by decide)
    (he : starEach (.Name y p2 :: es) X.env = (false, eval (.Name y p2) X.env) :: starEach es X.env := by rfl) (hpl : (backTo pos (starEach es X.env)).any (·.1) = false := by rfl) : DO X T B W (.Call (.Name x p) (.Name y p2 :: es) [] pos) (oCallR i f dds fa) := by
  obtain ⟨⟨fd, ps, dvs, ds, F, hb, hd, hdd⟩, hm, kp⟩ := Fn
  exact do_callR i F (hr.mono hk) hm kp hb hd hdd tk ha hn hg hN hv hdy hcd hdb he hpl
theorem mLen.to1 {fa : M (List D)} {n m : Nat} {dds : List D} (h : mLen fa n) (e : n + dds.length + 1 = m) : ∀ s ds s', fa s = .ok ds s' → (ds ++ dds).length + 1 = m := fun s ds s' q => by
  rw [List.length_append, h s ds s' q]
  exact e
theorem hu_of (hr : Room k X.A) : X.A.units + 64 < cLine := by
  have := hr.un
  omega
end
/-- nothing is promised -/
theorem FnOk.bad {P : Program} {w : World} {K : PySem.W.Frag} {mg : Str → Option Value} {base : Heap} {k n : Nat} {f : Addr} {fd : FuncData} {ps : List Str} (hl : ps.length = n) : FnOk P w K mg base (L2.CX P w) k f fd ps (spF K mg n fun _ => .bad) :=
  ⟨fun vs H Q E h => by rw [h.1, hl], fun A outer s H args us vs Q E hr e0 hb r h => by
    obtain ⟨_, B, F, G, as, I, p⟩ := h
    exact p.elim⟩
/-- what the module's text tells of a refusal's class -/
structure RfC (K : PySem.W.Frag) (C : Addr) (t : Tpl) : Prop where
  oc : OexC K C
  no : ∀ p ∈ t, PySem.W.findIn K (.ref C) p.1 = some none
  ini : PySem.W.findIn K (.ref C) "__init__" = some (some (.ref (He.ma K C "__init__")))
  tyI : PySem.W.typeIn K (.ref (He.ma K C "__init__")) = some (.type "function")
/-- a refusal's class: its __init__ -/
structure RfF (P : Program) (w : World) (K : PySem.W.Frag) (mg : Str → Option Value) (base : Heap) (k n : Nat) (x : Str) (t : Tpl) : Prop where
  c : RfC K (He.ga K x) t
  ex : ∃ (fd : FuncData) (ps : List Str), FnOk P w K mg base (L2.CX P w) k (He.ma K (He.ga K x) "__init__") fd ps (spI K n t) ∧ Binds K fd ps []
  hm : mg x = some (.ref (He.ga K x))
section
variable {X : Cx} {T : List (Addr × Str)} {B : Addr} {W : WX} {k k' n : Nat} {t : Tpl} {x : Str} {p pos pos2 : Pos} {e : Expr} {es : List Expr} {fa : M (List D)}
theorem ds_rf0 (Rf : RfF X.prog X.w X.K X.mg X.base k 0 x t) (hr : Room k' X.A) (hk : k + 1 ≤ k') (tk : Takes X W) (hc : X.calm = true) (hg : Gl X x := by rfl) (hdb : (x == ("__debug__" : Str)) = false := by decide) : DS X T B W (.Raise (some (.Call (.Name x p) [] [] pos)) none pos2) (gRaise x 0 t mNil) := by
  obtain ⟨c, ⟨fd, ps, F, hb⟩, hm⟩ := Rf
  exact ds_raise0 c.oc c.no c.ini c.tyI F hb hm (hr.mono hk) tk hc hg hdb
end
/-! ### the same, asked of the text by a Bool -/
def ocB (K : PySem.W.Frag) (C : Addr) : Bool := match K.lookup C with
  | some ⟨.type "type", _, .cls cd, sl⟩ => (match cd.mro, sl.toList with
    | .ref C' :: bm, [_, _, _, _, some (.builtin n), _] => C' == C && n == "ValueError.__new__" && !cd.hasDel && cd.hasDict && PySem.HandSPX.refsVE bm
    | _, _ => false)
  | _ => false
theorem ocB_ok {K : PySem.W.Frag} {C : Addr} (q : ocB K C = true) : ∃ nm q N bs bm sn sub ab col dd k0 k1 k2 k3 k5, K.lookup C = some (excClassObj nm q C N bs bm true sn sub ab col dd k0 k1 k2 k3 k5 "ValueError.__new__") ∧ PySem.HandSPX.refsVE bm = true := by
  unfold ocB at q
  split at q
  · rename_i dd cd sl ho
    split at q
    · rename_i C' bm k0 k1 k2 k3 n k5 hm hs
      simp only [Bool.and_eq_true, beq_iff_eq, Bool.not_eq_true'] at q
      obtain ⟨⟨⟨⟨rfl, rfl⟩, hdel⟩, hdc⟩, ht⟩ := q
      obtain ⟨nm, bs, mro, ns, qn, hd, sn, sub, ab, col, del⟩ := cd
      dsimp only at hm hdel hdc
      subst hm hdel hdc
      have hsl : sl = #[k0, k1, k2, k3, some (.builtin "ValueError.__new__"), k5] := by
        obtain ⟨l⟩ := sl
        simp only at hs
        rw [hs]
      subst hsl
      exact ⟨nm, qn, ns, bs, bm, sn, sub, ab, col, dd, k0, k1, k2, k3, k5, ho, ht⟩
    · cases q
  · cases q
def oexB (K : PySem.W.Frag) (C : Addr) : Bool := ocB K C && (He.eqO (PySem.W.findIn K (.ref C) "__setattr__") (some (some (.builtin "object.__setattr__"))) && (decide (PySem.W.subIn K (.ref C) (.type "BaseException") = some true) && (decide (PySem.W.typeIn K (.ref C) = some (.type "type")) && PySem.W.keepIn K (.ref C))))
theorem oexB_ok {K : PySem.W.Frag} {C : Addr} (h : oexB K C = true) : OexC K C := by
  obtain ⟨h1, h⟩ := He.ba h
  obtain ⟨h2, h⟩ := He.ba h
  obtain ⟨h3, h⟩ := He.ba h
  obtain ⟨h4, h5⟩ := He.ba h
  exact ⟨ocB_ok h1, He.eqO_ok h2, of_decide_eq_true h3, of_decide_eq_true h4, h5⟩
def rfB (K : PySem.W.Frag) (C : Addr) (t : Tpl) : Bool := oexB K C && ((t.all fun p => He.eqO (PySem.W.findIn K (.ref C) p.1) (some none)) && (He.eqO (PySem.W.findIn K (.ref C) "__init__") (some (some (.ref (He.ma K C "__init__")))) && decide (PySem.W.typeIn K (.ref (He.ma K C "__init__")) = some (.type "function"))))
theorem rfB_ok {K : PySem.W.Frag} {C : Addr} {t : Tpl} (h : rfB K C t = true) : RfC K C t := by
  obtain ⟨h1, h⟩ := He.ba h
  obtain ⟨h2, h⟩ := He.ba h
  obtain ⟨h3, h4⟩ := He.ba h
  exact ⟨oexB_ok h1, fun p hp => He.eqO_ok (List.all_eq_true.mp h2 p hp), He.eqO_ok h3, of_decide_eq_true h4⟩
def cvB (o : Option PySem.W.CFound) (v : Value) : Bool := match o with
  | some (.val u) => decide (u = v)
  | _ => false
theorem cvB_ok {o : Option PySem.W.CFound} {v : Value} (h : cvB o v = true) : o = some (.val v) := by
  unfold cvB at h
  split at h
  · rw [of_decide_eq_true h]
  · cases h
def cfnB (K : PySem.W.Frag) (C : Addr) (m : Str) : Bool := PySem.W.readsIn K C (.type "type") && (decide (PySem.W.specialIn K (.ref C) "__getattribute__" = some (some (.builtin "type.__getattribute__"))) && (cvB (PySem.W.findCls K (.ref C) (.type "type") m) (.ref (He.ma K C m)) && PySem.W.keepIn K (.ref (He.ma K C m))))
theorem cfnB_ok {K : PySem.W.Frag} {C : Addr} {m : Str} (h : cfnB K C m = true) : CFn K C (He.ma K C m) m := by
  obtain ⟨h1, h⟩ := He.ba h
  obtain ⟨h2, h⟩ := He.ba h
  obtain ⟨h3, h4⟩ := He.ba h
  exact ⟨h1, of_decide_eq_true h2, cvB_ok h3, h4⟩
/-- ValueError.__init__ -/
def veB (K : PySem.W.Frag) : Bool := cvB (PySem.W.findCls K (.type "ValueError") (.type "type") "__init__") (.builtin "ValueError.__init__")
/-- the clauses' classes, by names -/
def hlOf (K : PySem.W.Frag) (l : List (Str × List Str)) : List (Value × List Str) := l.map fun p => (.ref (He.ga K p.1), p.2)
def pkB (K : PySem.W.Frag) (hl : List (Str × List Str)) (l : List (Str × List Str)) : Bool := l.all fun p => decide (pick K (.ref (He.ga K p.1)) (hlOf K hl) = some p.2) && (xfB K (He.ga K p.1) && p.2.all fun f => He.eqO (PySem.W.findIn K (.ref (He.ga K p.1)) f) (some none))
theorem pkB_ok {K : PySem.W.Frag} {mg : Str → Option Value} {hl l : List (Str × List Str)} (h : pkB K hl l = true) (hm : ∀ p ∈ l, mg p.1 = some (.ref (He.ga K p.1))) : PkOk K mg (hlOf K hl) (fun x => l.lookup x) := ⟨fun x fl C e1 e2 => by
  have mem : (x, fl) ∈ l := PySem.mem_of_lookup e1
  have e3 : mg x = some (.ref (He.ga K x)) := hm _ mem
  have e : He.ga K x = C := by
    have e4 : some (Value.ref (He.ga K x)) = some (Value.ref C) := e3.symm.trans e2
    injection e4 with e5
    injection e5
  subst e
  obtain ⟨h1, h2⟩ := He.ba (List.all_eq_true.mp h _ mem)
  obtain ⟨h3, h4⟩ := He.ba h2
  exact ⟨of_decide_eq_true h1, xfB_ok h3, fun f hf => He.eqO_ok (List.all_eq_true.mp h4 f hf)⟩⟩
end DL
set_option Elab.async false
set_option linter.all false
set_option maxRecDepth 100000
set_option maxHeartbeats 4000000
/-! DL14: the module's facts; the law's def; the def that catches -/
namespace DL
open PySem PySem.Spec L2
open PyProof.Rows hiding St
open Evl (Ex ex_l ex_t ex_rd)

/-- what the head tells -/
structure Fc (fa : List He.Fa) (fn : List He.DefD) (tf : List He.Defn) (ex : PySem.W.Frag → Bool) (w : World) (K : PySem.W.Frag) (mg : Str → Option Value) : Prop where
  h : ∃ h : Heap, K.In h ∧ h.Ns mainGlobals mg ∧ He.SaysX fa fn [] tf ex w h K
section
variable {fa : List He.Fa} {fn : List He.DefD} {tf : List He.Defn} {ex : PySem.W.Frag → Bool} {w : World} {K : PySem.W.Frag} {mg : Str → Option Value}
theorem Fc.glo (c : Fc fa fn tf ex w K mg) (i : Nat) {x : Str} (h : fa[i]? = some (.glo x) := by rfl) : mg x = some (.ref (He.ga K x)) := by
  obtain ⟨hp, X, G, s⟩ := c.h
  exact He.glo_ok X G (s.t.d.fact i h)
theorem Fc.free (c : Fc fa fn tf ex w K mg) (i : Nat) {x : Str} (h : fa[i]? = some (.free x) := by rfl) : mg x = none := by
  obtain ⟨hp, X, G, s⟩ := c.h
  exact He.free_ok X G (s.t.d.fact i h)
theorem Fc.int (c : Fc fa fn tf ex w K mg) (i : Nat) {x : Str} {z : Int} (h : fa[i]? = some (.int x z) := by rfl) : ∃ t, mg x = some (.int z t) := by
  obtain ⟨hp, X, G, s⟩ := c.h
  exact He.int_ok X G (s.t.d.fact i h)
theorem Fc.str (c : Fc fa fn tf ex w K mg) (i : Nat) {x z : Str} (h : fa[i]? = some (.str x z) := by rfl) : ∃ t, mg x = some (.str z t) := by
  obtain ⟨hp, X, G, s⟩ := c.h
  exact He.str_ok X G (s.t.d.fact i h)
theorem Fc.def_ (c : Fc fa fn tf ex w K mg) (i : Nat) {d : He.DefD} (h : fn[i]? = some d := by rfl) : ∃ fd, FunD K d.name d.qual d.params d.body d.scope (d.dvs K) (d.kws K) (He.fAd K d.at_) fd := by
  obtain ⟨hp, X, G, s⟩ := c.h
  exact s.t.d.def_ i h
theorem Fc.more (c : Fc fa fn tf ex w K mg) : ex K = true := by
  obtain ⟨hp, X, G, s⟩ := c.h
  exact s.more
end
section
variable {X : Cx} {T : List (Addr × Str)} {B : Addr} {W : WX}
theorem de_gstr {x z : Str} {pos : Pos} (h : ∃ t, X.mg x = some (.str z t)) (hg : Gl X x := by rfl) (hdb : (x == ("__debug__" : Str)) = false := by decide) : DE X T B W (.Name x pos) (mC (.str z)) := by
  obtain ⟨t, h⟩ := h
  exact de_glob hg h (v := .str z) ⟨t, rfl⟩ (fun _ => .str _) hdb
end

/-! ### the Hook: the interpreter's own statics are looked at, too -/
def reach (g : Addr → Option Obj) (n : Nat) : List Addr := He.asD g n ++ [cStatics]
def obsY (n : Nat) (fa : List He.Fa) (fn : List He.DefD) (tf : List He.Defn) (ex : PySem.W.Frag → Bool) (g : Addr → Option Obj) : He.AlX :=
  let K := He.frT g (reach g n)
  (He.obsT fa fn [] K, ex K && He.tabsB g tf K)
theorem tabs_of {g : Addr → Option Obj} {tf : List He.Defn} {K : PySem.W.Frag} (h : He.tabsB g tf K = true) {p : He.Defn} (hp : p ∈ tf) : PySem.W.codeHdIn K (He.cT K p).1 (He.cT K p).2 = true ∧ ∃ o, g (He.cT K p).2 = some o ∧ He.emptyTab o = true := by
  obtain ⟨h1, h2⟩ := He.ba (List.all_eq_true.mp h p hp)
  refine ⟨h1, ?_⟩
  split at h2
  · rename_i o eo
    exact ⟨o, eo, h2⟩
  · cases h2
theorem says_of {n : Nat} {fa : List He.Fa} {fn : List He.DefD} {tf : List He.Defn} {ex : PySem.W.Frag → Bool} {w : World} {h : Heap} (e : obsY n fa fn tf ex h.get? = (He.valT fn [] w, true)) : He.SaysX fa fn [] tf ex w h (He.frT h.get? (reach h.get? n)) := by
  have e1 := congrArg Prod.fst e
  obtain ⟨m1, m2⟩ := He.ba (show (ex (He.frT h.get? (reach h.get? n)) && He.tabsB h.get? tf (He.frT h.get? (reach h.get? n))) = true from congrArg Prod.snd e)
  refine ⟨e1, m1, fun p hp => (tabs_of m2 hp).1, fun p hp => ?_, fun p hp => ?_⟩
  · obtain ⟨_, o, eo, et⟩ := tabs_of m2 hp
    exact He.frT_none eo et
  · obtain ⟨_, o, eo, et⟩ := tabs_of m2 hp
    rw [eo, He.emptyTab_eq et]
def hookY (n : Nat) (fa : List He.Fa) (fn : List He.DefD) (tf : List He.Defn) (ex : PySem.W.Frag → Bool) : PySem.W.Hook where
  α := He.AlX
  obs := fun s => obsY n fa fn tf ex s.heap.get?
  val := fun w => (He.valT fn [] w, true)
  says := fun w h => ∃ K : PySem.W.Frag, K.In h ∧ He.SaysX fa fn [] tf ex w h K
  of := fun _ _ e => ⟨_, He.frT_in, says_of e⟩
  keeps := fun _ _ _ ⟨K, i, c⟩ k => ⟨K, i.keeps k, { c with empty := fun p hp => k _ _ (c.empty p hp) }⟩
theorem obsY_eq {n : Nat} {fa : List He.Fa} {fn : List He.DefD} {tf : List He.Defn} {ex : PySem.W.Frag → Bool} {g : Addr → Option Obj} {s : Shared} (h : ∀ a, g a = s.heap.get? a) : obsY n fa fn tf ex g = (hookY n fa fn tf ex).obs s := by
  rw [show g = s.heap.get? from funext h]
  rfl

/-! ### the def that catches -/
structure WhyC (K : PySem.W.Frag) (mg : Str → Option Value) (x told no : Str) (pk : Pk) : Prop where
  ex : ∃ (pg : Arguments) (sg : Scope) (fd : FuncData) (a n : Str) (Ng : List Str) (i j tl0 : Nat) (h0 : ExceptHandler) (hds : List ExceptHandler) (hl : List (Value × List Str)) (p1 p2 p3 p4 p5 p6 : Pos),
    FunD K x x pg [.Try [.Return (some (.Tuple [.Constant (.str told) j p1, .Call (.Name a p2) [] [] p3] tl0 p4)) p5] (h0 :: hds) [] [] p6] sg [] [] (He.ga K x) fd ∧ Binds K fd [a] [] ∧ FnScope Ng [a] sg ∧ Ng[0]? = some a ∧ Vis sg a ∧
    HdN sg mg n no (h0 :: hds) hl ∧ Ng[i]? = some n ∧ sg.names.lookup n = some .local ∧ (∀ f : Addr, (L2.start Ng [V.ref f])[0]? = some (some (V.ref f))) ∧ PkOk K mg hl pk ∧
    (n == ("__debug__" : Str)) = false ∧ (n == ("__classdict__" : Str)) = false ∧ (a == ("__debug__" : Str)) = false ∧ (a == ("__classdict__" : Str)) = false
  hm : mg x = some (.ref (He.ga K x))
/-- the table of the def that makes lambdas -/
structure TabC (X : Cx) (T : List (Addr × Str)) (c P : Addr) : Prop where
  tb : LamX.TabB X.base X.mg c P
  code : X.env.code = .ref c
  mem : (P, X.env.qual ++ "<lambda>") ∈ T
  un : ∀ p ∈ T, p.1 = P → p.2 = X.env.qual ++ "<lambda>"
section
variable {X : Cx} {T : List (Addr × Str)} {B : Addr} {W : WX}
theorem de_whyC {told no x : Str} {pk : Pk} {c P : Addr} {k k' : Nat} {params : Arguments} {body : Expr} {scope : Scope} {fb : M D} {p lpos pos : Pos} (Wy : WhyC X.K X.mg x told no pk) (tc : TabC X T c P) (hr : Room k' X.A) (hk : k + 2 ≤ k') (L : LamX.LamS X.env.scope scope)
    (hbody : ∀ (A : Around) (outer : List Env) (s : Shared) (H : Hp) (E : XK) (f c' : Addr), Room k (A.deeper (LamX.lamEnv X scope s.heap.objs.size f c')) → DE (LamX.lamCx X A outer s H E scope f c') T B (fun cls d _ H => E cls d H) body fb)
    (hdef : defaultsOf params X.env = ([], []) := by rfl)
    (hbind : ∀ (q : Str) (cl : List (Str × Addr)) (pm cv ctv : Value), bindArgs (PySem.W.kla_fn "<lambda>" q params body scope cl pm cv ctv) ⟨[], []⟩ = pure [] := by intros; rfl)
    (hg : Gl X x := by rfl) (hdb : (x == ("__debug__" : Str)) = false := by decide) :
    DE X T B W (.Call (.Name x p) [.Lambda params body scope lpos] [] pos) (mWhy told no pk fb) := by
  obtain ⟨⟨pg, sg, fd, a, n, Ng, i, j, tl0, h0, hds, hl, p1, p2, p3, p4, p5, p6, Fu, hb, Sg, hNg, hva, hh, hi, hln, hs0, hpk, d1, d2, d3, d4⟩, hm⟩ := Wy
  obtain ⟨oc, od, dV, kV, doc, pm, an, cdv, ct, osl, rfl, lk, hcd, _, _⟩ := Fu.ex
  exact de_why hm Fu.kp lk hcd hb Sg hNg hva (why_gives hh Sg.nd hi hln hs0 d1 d2) hpk tc.tb tc.code tc.mem tc.un (hr.mono hk) L hdef hbind hbody hg hdb d3 d4
end

/-! ### the law's def -/
open Classical in
noncomputable def offT (cs : List (Addr × Addr)) (H : Hp) : Hp := fun a => if a ∈ cs.map (·.2) then none else H a
open Classical in
noncomputable def onT (cs : List (Addr × Addr)) (H : Hp) : Hp := fun a => if a ∈ cs.map (·.2) then H a else none
theorem sqL_off {K : PySem.W.Frag} {H : Hp} {cs : List (Addr × Addr)} {a : Addr} {xs : List V} (h : SqL K H a xs) (ht : ∀ p ∈ cs, H p.2 = some (.tbl #[])) : SqL K (offT cs H) a xs := by
  have off : ∀ {o : HO}, H a = some o → o ≠ .tbl #[] → offT cs H a = some o := fun {o} e n => by
    unfold offT
    rw [if_neg ?_]
    · exact e
    · intro hm
      obtain ⟨p, hp, e2⟩ := List.mem_map.mp hm
      have e3 := ht p hp
      rw [e2, e] at e3
      exact n (Option.some.inj e3)
  rcases h with h | h
  · rcases h with h | ⟨o, h⟩
    · exact .inl (.inl (off h (fun z => by cases z)))
    · exact .inl (.inr ⟨o, off h (fun z => by cases z)⟩)
  · exact .inr h
def ints' (ns : List Int) : List D := ns.map .int
theorem rpA_ints {K : PySem.W.Frag} {G : Hp} : ∀ ns : List Int, RpA K G (ns.map V.int) (ints' ns)
  | [] => .nil
  | n :: ns => .cons (.int n) (rpA_ints ns)
/-- the law's promise -/
def spLaw (K : PySem.W.Frag) (cs : List (Addr × Addr)) : Sp := fun vs H Q E => ∃ (a : Addr) (ns : List Int), vs = [.ref a] ∧ ns.length ≤ 63 ∧ (∀ z ∈ ns, Builtin.Int.intBits z ≤ 1048576) ∧ (∀ p ∈ cs, H p.2 = some (.tbl #[])) ∧ SqL K H a (ns.map V.int) ∧ ∀ H', Q (.bl true) H'
section
variable {P : Program} {w : World} {K : PySem.W.Frag} {mg : Str → Option Value} {base : Heap}
/-- T: the tables of cs, all of the name q -/
abbrev tabsT (cs : List (Addr × Addr)) (q : Str) : List (Addr × Str) := cs.map fun p => (p.2, q)
/-- its code object is the one that the text has -/
theorem code_of {f : Addr} {name qual : Str} {params : Arguments} {body : List Stmt} {scope : Scope} {q : He.Defn} (hf : He.fAd K q = f) (cdv : Value) (h : ∃ (oc : Value) (od : Option Addr) (dV kV doc pm : Value) (an : Option Addr) (ct : Value) (osl : Array (Option Value)), K.lookup f = some ⟨oc, od, .func (PySem.W.fnOf name qual params body scope dV kV doc pm an cdv ct), osl⟩ ∧ PySem.W.codeIn K cdv qual = true) :
    ∀ p ∈ [q].map (He.cT K), cdv = .ref p.1 := fun p hp => by
  obtain ⟨oc, od, dV, kV, doc, pm, an, ct, osl, lk, hcd⟩ := h
  obtain ⟨q', hq, rfl⟩ := List.mem_map.mp hp
  obtain rfl := List.mem_singleton.mp hq
  obtain ⟨cc, rfl⟩ := He.codeIn_ref hcd
  rw [← hf] at lk
  show Value.ref cc = .ref (He.codeOf K q')
  rw [He.codeOf_eq lk rfl]
/-- the end of it all: what the head's Hook wants -/
theorem law_at {l : PySem.W.OpenLaw} {n k : Nat} {x : Str} {fa : Addr} {h : Heap} {fas : List He.Fa} {fn : List He.DefD} {tf : List He.Defn} {ex : PySem.W.Frag → Bool} {fd : FuncData} (X : K.In h) (G : h.Ns mainGlobals mg) (c : He.SaysX fas fn [] tf ex w h K) (hn : n = 63)
    (hb : ∀ (s : Shared) (u : Value), BindsTo s fd ⟨[u], []⟩ [(x, u)])
    (hF : ∀ base : Heap, K.In base → base.Ns mainGlobals mg → (∀ p ∈ tf.map (He.cT K), LamX.TabB base mg p.1 p.2) → FnOk l.prog w K mg base (L2.CX l.prog w) k fa fd [x] (spLaw K (tf.map (He.cT K)))) :
    LamX.LawAtS l w K (L2.CX l.prog w) k n x mg fa h := by
  subst hn
  refine ⟨fd, tf.map (He.cT K), spLaw K (tf.map (He.cT K)), fun p hp => ?_, fun p hp => ?_, fun p hp => ?_, hb, fun H a ns hl hbt hT hS => ⟨a, ns, rfl, hl, hbt, hT, hS, fun _ => rfl⟩, hF⟩
  · obtain ⟨q, hq, rfl⟩ := List.mem_map.mp hp
    exact c.empty q hq
  · obtain ⟨q, hq, rfl⟩ := List.mem_map.mp hp
    exact c.out q hq
  · obtain ⟨q, hq, rfl⟩ := List.mem_map.mp hp
    exact PySem.W.codeHd_of_K X (c.hd q hq)
/-- nothing leaves the law -/
theorem cx_none {P : Program} {w : World} {H : Hp} {s : Shared} {e : Value} {s' : Shared} (h : L2.CX P w [] H s (fun _ _ _ => False) e s') : False := by
  obtain ⟨_, _, _, _, _, _, _, _, _, _, _, _, z⟩ := h
  exact z
end
end DL
set_option Elab.async false
set_option linter.all false
set_option maxRecDepth 100000
set_option maxHeartbeats 4000000
/-! DL15: the defs that all laws have: open, draw, int, like; how readings are reckoned -/
namespace DL
open PySem PySem.Spec L2
open PyProof.Rows hiding St
noncomputable def g_open : S → Out :=
  gSeq (gSet 1 (mC (.int 1009)))
  (gSeq (gFor (mUn dSeq (mF (oSl (mVar 0) mNoP (mP (mC (.int 63)))))) (tName 2) (gSet 1 (mOp dMod (mOp dAdd (mOp dAdd (mOp dMulA (mVar 1) (mC (.int 48271))) (mOp dMod (mVar 2) (mC (.int 2147483629)))) (mC (.int 11))) (mC (.int 2147483647)))))
  (gRet (oLst (mCons (mF (oList (mF (oSl (mVar 0) mNoP (mP (mC (.int 63))))))) (mCons (mC (.int 0)) (mCons (mC (.int 0)) (mCons (mVar 1) (mCons (mC (.int 0)) mNil))))))))
noncomputable def f_open : S → Res SV := fnR 3 g_open
noncomputable def g_draw : S → Out :=
  gSeq (gIf (mAnd (mTru (mOp dLt (mPix 0 (mC (.int 2))) (mC (.int 1)))) (mTru (mOp dLt (mPix 0 (mC (.int 1))) (mUn dLen (mCons (mPix 0 (mC (.int 0))) mNil))))) (gSeq (gSet 3 (mOp dIx (mPix 0 (mC (.int 0))) (mPix 0 (mC (.int 1)))))
  (gSeq (gSetIx 0 (mC (.int 1)) (mOp dAdd (mPix 0 (mC (.int 1))) (mC (.int 1))))
  (gIf (mTru (mOp dGe (mVar 3) (mOp dPow (mC (.int 10)) (mC (.int 18))))) (gSetIx 0 (mC (.int 2)) (mVar 3)) (gSetIx 0 (mC (.int 3)) (mOp dMod (mOp dAdd (mPix 0 (mC (.int 3))) (mOp dMulA (mOp dMod (mVar 3) (mC (.int 2147483629))) (mC (.int 69621)))) (mC (.int 2147483647))))))) gNil)
  (gSeq (gIf (mTru (mOp dGt (mPix 0 (mC (.int 2))) (mC (.int 0)))) (gSeq (gSet 4 (mOp dMod (mPix 0 (mC (.int 2))) (mVar 1)))
  (gSeq (gSetIx 0 (mC (.int 2)) (mOp dDiv (mPix 0 (mC (.int 2))) (mVar 1)))
  (gRet (oD (mVar 4))))) gNil)
  (gSeq (gSetIx 0 (mC (.int 4)) (mOp dAdd (mPix 0 (mC (.int 4))) (mC (.int 1))))
  (gSeq (gSet 2 (mOp dMod (mOp dAdd (mPix 0 (mC (.int 3))) (mOp dMulA (mPix 0 (mC (.int 4))) (mC (.int 7919)))) (mC (.int 2147483647))))
  (gSeq (gSetIx 0 (mC (.int 3)) (mOp dMod (mOp dAdd (mOp dAdd (mOp dMulA (mOp dMod (mOp dMulA (mVar 2) (mVar 2)) (mC (.int 2147483629))) (mOp dAdd (mOp dMod (mVar 2) (mC (.int 65521))) (mC (.int 3)))) (mOp dMulA (mC (.int 40692)) (mVar 2))) (mC (.int 1013))) (mC (.int 2147483647))))
  (gRet (oD (mOp dMod (mOp dAdd (mOp dDiv (mPix 0 (mC (.int 3))) (mC (.int 61))) (mOp dMulA (mOp dMod (mPix 0 (mC (.int 3))) (mC (.int 8191))) (mC (.int 29)))) (mVar 1))))))))
noncomputable def f_draw : S → Res SV := fnR 5 g_draw
noncomputable def g_int : S → Out :=
  gRet (oD (mAndV (mUn (dIsi "int") (mVar 0)) (mNotV (mUn (dIsi "bool") (mVar 0)))))
noncomputable def f_int : S → Res SV := fnR 1 g_int
noncomputable def g_like (f : S → Res SV) : S → Out :=
  gSeq (gIf (mTru (mOp dIsN (mVar 1) (mC .none))) (gRet (oD (mOp dIsN (mVar 0) (mC .none)))) gNil)
  (gSeq (gIf (mTru (mUn (dIsi "bool") (mVar 1))) (gRet (oD (mAndV (mUn (dIsi "bool") (mVar 0)) (mOp dEq (mVar 0) (mVar 1))))) gNil)
  (gSeq (gIf (mTru (mUn (dIsi "int") (mVar 1))) (gRet (oD (mAndV (mF (oCall f_int [] (mCons (mVar 0) mNil))) (mOp dEq (mVar 0) (mVar 1))))) gNil)
  (gSeq (gIf (mTru (mUn (dIsi "str") (mVar 1))) (gRet (oD (mAndV (mUn (dIsi "str") (mVar 0)) (mOp dEq (mVar 0) (mVar 1))))) gNil)
  (gSeq (gIf (mOr (mTru (mOp dNe (mUn (dIsi "tuple") (mVar 1)) (mUn (dIsi "tuple") (mVar 0)))) (mTru (mOp dNe (mUn (dIsi "list") (mVar 1)) (mUn (dIsi "list") (mVar 0))))) (gRet (oD (mC (.bool false)))) gNil)
  (gRet (oD (mAndV (mOp dEq (mUn dLen (mCons (mVar 0) mNil)) (mUn dLen (mCons (mVar 1) mNil))) (mUn dAll (mCons (mF (oLc (mUn dRng1 (mUn dLen (mCons (mVar 1) mNil))) (tName 2) (M.ret true) (mF (oCall f [] (mCons (mOp dIx (mVar 0) (mVar 2)) (mCons (mOp dIx (mVar 1) (mVar 2)) mNil)))) [2])) mNil)))))))))
noncomputable def f_like : Nat → S → Res SV
  | 0 => fun _ => .bad
  | n + 1 => fnR 3 (g_like (f_like n))

/-! ### reckoning -/
section
variable {α β γ : Type} {s : S}
theorem rb_ok {a : α} {k : α → S → Res β} : (Res.ok a s).bind k = k a s := rfl
theorem ro_ok {a : α} {k : α → S → Out} : (Res.ok a s).out k = k a s := rfl
theorem oa_nx {k : S → Out} : (Out.nx s).andThen k = k s := rfl
theorem e_C {d : D} : mC d s = .ok d s := rfl
theorem e_nil : mNil s = .ok [] s := rfl
theorem e_cons {f : M D} {g : M (List D)} : mCons f g s = (f s).bind fun x s1 => (g s1).bind fun xs s2 => .ok (x :: xs) s2 := rfl
theorem e_op {g : α → β → Option γ} {fa : M α} {fb : M β} : mOp g fa fb s = (fa s).bind fun x s1 => (fb s1).bind fun y s2 => lift (g x) y s2 := rfl
theorem e_un {g : α → Option β} {fa : M α} : mUn g fa s = (fa s).bind fun x s1 => lift g x s1 := rfl
theorem e_lift {g : α → Option β} {a : α} {b : β} (h : g a = some b) : lift g a s = .ok b s := by
  unfold lift
  rw [h]
theorem e_seq {g1 g2 : S → Out} : gSeq g1 g2 s = (g1 s).andThen g2 := rfl
theorem e_gnil : gNil s = .nx s := rfl
theorem e_set {i : Nat} {f : M D} : gSet i f s = (f s).out fun d s1 => .nx (s1.set i (.d d)) := rfl
theorem e_setO {i : Nat} {f : M SV} : gSetO i f s = (f s).out fun x s1 => .nx (s1.set i x) := rfl
theorem e_ret {f : M SV} : gRet f s = (f s).out fun x s1 => .rt x s1 := rfl
theorem e_if {t : M Bool} {g1 g2 : S → Out} : gIf t g1 g2 s = (t s).out fun b s1 => if b = true then g1 s1 else g2 s1 := rfl
theorem e_tru {f : M D} : mTru f s = (f s).bind fun x s1 => lift dTru x s1 := rfl
theorem e_and {f g : M Bool} : mAnd f g s = (f s).bind fun b s1 => if b = true then g s1 else .ok false s1 := by
  unfold mAnd M.bind
  congr 1
  funext b s1
  split <;> rfl
theorem e_oD {f : M D} : oD f s = (f s).bind fun d s1 => .ok (.d d) s1 := rfl
theorem e_F {f : M SV} : mF f s = (f s).bind fun x s1 => lift SV.dat x s1 := rfl
theorem e_var {i : Nat} {d : D} (h : s[i]? = some (.d d)) : mVar i s = .ok d s := by
  unfold mVar
  rw [h]
end

theorem mulOk_of {a b : Int} (h : -2 ^ 64 < a ∧ a < 2 ^ 64 ∧ -2 ^ 64 < b ∧ b < 2 ^ 64) : mulOk a b = true := by
  have lg : ∀ {n : Nat}, n < 2 ^ 64 → n.log2 < 64 := fun {n} hn => by
    by_cases h0 : n = 0
    · subst h0
      decide
    · exact (Nat.log2_lt h0).mpr hn
  have h1 := lg (n := a.natAbs) (by omega)
  have h2 := lg (n := b.natAbs) (by omega)
  exact decide_eq_true (by omega)
theorem d_mul {a b : Int} (h : -2 ^ 64 < a ∧ a < 2 ^ 64 ∧ -2 ^ 64 < b ∧ b < 2 ^ 64) : dMulA (.int a) (.int b) = some (.int (a * b)) := by
  show (if mulOk a b = true then some (PyData.int (a * b)) else none) = _
  rw [if_pos (mulOk_of h)]
theorem d_add {a b : Int} : dAdd (.int a) (.int b) = some (.int (a + b)) := rfl
theorem d_sub {a b : Int} : dSub (.int a) (.int b) = some (.int (a - b)) := rfl
theorem d_mod {a b : Int} (h : 0 < b) : dMod (.int a) (.int b) = some (.int (a % b)) := by
  unfold dMod dII
  exact if_pos (decide_eq_true h)
theorem d_div {a b : Int} (h : 0 < b) (h2 : b < 2 ^ 64) : dDiv (.int a) (.int b) = some (.int (a / b)) := by
  unfold dDiv dII
  refine if_pos (decide_eq_true ⟨h, ?_⟩)
  have : b.natAbs.log2 < 64 := (Nat.log2_lt (by omega)).mpr (by omega)
  omega
theorem d_lt {a b : Int} : dLt (.int a) (.int b) = some (.bool (decide (a < b))) := rfl
theorem d_le {a b : Int} : dLe (.int a) (.int b) = some (.bool (decide (a ≤ b))) := rfl
theorem d_gt {a b : Int} : dGt (.int a) (.int b) = some (.bool (decide (b < a))) := rfl
theorem d_ge {a b : Int} : dGe (.int a) (.int b) = some (.bool (decide (b ≤ a))) := rfl
theorem d_tru {b : Bool} : dTru (.bool b) = some b := rfl
theorem atI_of {α : Type} {xs : List α} {i : Int} {n : Nat} {x : α} (h : i = n) (hx : xs[n]? = some x) : atI xs i = some x := by
  have hl : n < xs.length := lt_of_get hx
  unfold atI ixN
  subst h
  rw [if_pos (by omega), if_pos (by omega)]
  simpa using hx

theorem fnR_rt {N : Nat} {g : S → Out} {as s' : S} {v : SV} (h : g (as ++ List.replicate (N - as.length) .un) = .rt v s') : fnR N g as = .ok v (keepS as s') := by
  unfold fnR
  rw [h]
/-- the box, n draws at most behind it -/
def BoxOk (n : Nat) (b : List D) : Prop := ∃ (ns : List Int) (i z sd c : Int), b = [.list (ints' ns), .int i, .int z, .int sd, .int c] ∧ 0 ≤ i ∧ 0 ≤ sd ∧ sd < 2147483647 ∧ 0 ≤ c ∧ c ≤ n
theorem pow18 : dPow (.int 10) (.int 18) = some (.int 1000000000000000000) := rfl
section
variable {ns : List Int} {i z sd c m : Int} {x2 x3 x4 : SV}
abbrev bx (ns : List Int) (i z sd c : Int) : List D := [.list (ints' ns), .int i, .int z, .int sd, .int c]
theorem px0 {r : Bool} {t : S} : mPix 0 (mC (.int 0)) (.ol r (bx ns i z sd c) :: t) = .ok (.list (ints' ns)) (.ol r (bx ns i z sd c) :: t) := rfl
theorem px1 {r : Bool} {t : S} : mPix 0 (mC (.int 1)) (.ol r (bx ns i z sd c) :: t) = .ok (.int i) (.ol r (bx ns i z sd c) :: t) := rfl
theorem px2 {r : Bool} {t : S} : mPix 0 (mC (.int 2)) (.ol r (bx ns i z sd c) :: t) = .ok (.int z) (.ol r (bx ns i z sd c) :: t) := rfl
theorem px3 {r : Bool} {t : S} : mPix 0 (mC (.int 3)) (.ol r (bx ns i z sd c) :: t) = .ok (.int sd) (.ol r (bx ns i z sd c) :: t) := rfl
theorem px4 {r : Bool} {t : S} : mPix 0 (mC (.int 4)) (.ol r (bx ns i z sd c) :: t) = .ok (.int c) (.ol r (bx ns i z sd c) :: t) := rfl
theorem pset {k : Nat} {f : M D} {s : S} {r : Bool} {xs : List D} {t : S} {v : D} (h : f s = .ok v (.ol r xs :: t)) (hk : k < xs.length) : gSetIx 0 (mC (.int k)) f s = .nx (.ol r (xs.set k v) :: t) := by
  have e : setV (.ol r xs) (.int k) v = some (.ol r (xs.set k v)) := by
    show (ixN xs.length k).map _ = _
    unfold ixN
    rw [if_pos (by omega), if_pos (by omega)]
    simp
  unfold gSetIx
  rw [h, ro_ok, if_pos (show hasV 0 (.ol r xs :: t) = true from rfl), e_C, ro_ok]
  simp only [List.getElem?_cons_zero, e, List.set_cons_zero]
noncomputable def drawA : S → Out := (gIf (mAnd (mTru (mOp dLt (mPix 0 (mC (.int 2))) (mC (.int 1)))) (mTru (mOp dLt (mPix 0 (mC (.int 1))) (mUn dLen (mCons (mPix 0 (mC (.int 0))) mNil))))) (gSeq (gSet 3 (mOp dIx (mPix 0 (mC (.int 0))) (mPix 0 (mC (.int 1)))))
  (gSeq (gSetIx 0 (mC (.int 1)) (mOp dAdd (mPix 0 (mC (.int 1))) (mC (.int 1))))
  (gIf (mTru (mOp dGe (mVar 3) (mOp dPow (mC (.int 10)) (mC (.int 18))))) (gSetIx 0 (mC (.int 2)) (mVar 3)) (gSetIx 0 (mC (.int 3)) (mOp dMod (mOp dAdd (mPix 0 (mC (.int 3))) (mOp dMulA (mOp dMod (mVar 3) (mC (.int 2147483629))) (mC (.int 69621)))) (mC (.int 2147483647))))))) gNil)
theorem drawA_ok (h1 : 0 ≤ i) (h2 : 0 ≤ sd) (h3 : sd < 2147483647) : ∃ i' z' sd' y, drawA [.ol true (bx ns i z sd c), .d (.int m), .un, .un, .un] = .nx [.ol true (bx ns i' z' sd' c), .d (.int m), .un, y, .un] ∧ 0 ≤ i' ∧ 0 ≤ sd' ∧ sd' < 2147483647 := by
  unfold drawA
  rw [e_if, e_and, e_tru, e_op, px2, rb_ok, e_C, rb_ok, e_lift d_lt, rb_ok, e_lift d_tru, rb_ok]
  by_cases hz : z < 1
  · rw [decide_eq_true hz, if_pos rfl, e_tru, e_op, px1, rb_ok, e_un, e_cons, px0, rb_ok, e_nil, rb_ok, rb_ok, e_lift (show dLen [.list (ints' ns)] = some (.int (ints' ns).length) from rfl), rb_ok, e_lift d_lt, rb_ok, e_lift d_tru, ro_ok]
    by_cases hi : i < ((ints' ns).length : Int)
    · rw [decide_eq_true hi, if_pos rfl]
      obtain ⟨n, rfl⟩ := Int.eq_ofNat_of_zero_le h1
      have hn : n < ns.length := by
        have : (ints' ns).length = ns.length := by simp [ints']
        omega
      have hx : (ints' ns)[n]? = some (.int ns[n]) := by simp [ints', hn]
      rw [e_seq, e_set, e_op, px0, rb_ok, px1, rb_ok, e_lift (show dIx (.list (ints' ns)) (.int n) = some (.int ns[n]) from atI_of rfl hx), ro_ok, oa_nx, e_seq]
      have e1 : gSetIx 0 (mC (.int (1 : Nat))) (mOp dAdd (mPix 0 (mC (.int 1))) (mC (.int 1))) [.ol true (bx ns n z sd c), .d (.int m), .un, .d (.int ns[n]), .un] = .nx [.ol true (bx ns (n + 1) z sd c), .d (.int m), .un, .d (.int ns[n]), .un] := pset (k := 1) (xs := bx ns n z sd c) (v := .int (n + 1)) rfl (show 1 < 5 by decide)
      have e2 : ∀ g, (gSetIx 0 (mC (.int 1)) (mOp dAdd (mPix 0 (mC (.int 1))) (mC (.int 1))) ([.ol true (bx ns n z sd c), .d (.int m), .un, .un, .un].set 3 (.d (.int ns[n])))).andThen g = g [.ol true (bx ns (n + 1) z sd c), .d (.int m), .un, .d (.int ns[n]), .un] := fun g => congrArg (Out.andThen · g) e1
      rw [e2, e_if, e_tru, e_op, e_var (d := .int ns[n]) rfl, rb_ok, e_op, e_C, rb_ok, e_C, rb_ok, e_lift pow18, rb_ok, e_lift d_ge, rb_ok, e_lift d_tru, ro_ok]
      by_cases hc : 1000000000000000000 ≤ ns[n]
      · rw [decide_eq_true hc, if_pos rfl]
        exact ⟨n + 1, ns[n], sd, _, pset (k := 2) (xs := bx ns (n + 1) z sd c) rfl (show 2 < 5 by decide), by omega, h2, h3⟩
      · rw [decide_eq_false hc, if_neg (by decide)]
        have hm : ns[n] % 2147483629 < 2147483629 := Int.emod_lt_of_pos _ (by decide)
        have hm0 : 0 ≤ ns[n] % 2147483629 := Int.emod_nonneg _ (by decide)
        refine ⟨n + 1, z, (sd + ns[n] % 2147483629 * 69621) % 2147483647, .d (.int ns[n]), pset (k := 3) (xs := bx ns (n + 1) z sd c) (v := .int ((sd + ns[n] % 2147483629 * 69621) % 2147483647)) ?_ (show 3 < 5 by decide), by omega, Int.emod_nonneg _ (by decide), Int.emod_lt_of_pos _ (by decide)⟩
        rw [e_op, e_op, px3, rb_ok, e_op, e_op, e_var (d := .int ns[n]) rfl, rb_ok, e_C, rb_ok, e_lift (d_mod (by decide)), rb_ok, e_C, rb_ok, e_lift (d_mul ⟨by omega, by omega, by decide, by decide⟩), rb_ok, e_lift d_add, rb_ok, e_C, rb_ok, e_lift (d_mod (by decide))]
    · rw [decide_eq_false hi]
      exact ⟨i, z, sd, .un, rfl, h1, h2, h3⟩
  · rw [decide_eq_false hz]
    exact ⟨i, z, sd, .un, rfl, h1, h2, h3⟩
theorem draw_spec {n : Nat} {b : List D} (hb : BoxOk n b) (hn : n < 2 ^ 50) (h0 : 0 < m) (h1 : m < 2 ^ 50) : ∃ r b', f_draw [.ol true b, .d (.int m)] = .ok (.d (.int r)) [.ol true b', .un] ∧ 0 ≤ r ∧ r < m ∧ BoxOk (n + 1) b' := by
  obtain ⟨ns, i, z, sd, c, rfl, k1, k2, k3, k4, k5⟩ := hb
  obtain ⟨i', z', sd', y, e, g1, g2, g3⟩ := drawA_ok (ns := ns) (z := z) (c := c) (m := m) k1 k2 k3
  have key : ∃ r b' t, g_draw [.ol true (bx ns i z sd c), .d (.int m), .un, .un, .un] = .rt (.d (.int r)) (.ol true b' :: t) ∧ 0 ≤ r ∧ r < m ∧ BoxOk (n + 1) b' := by
    show ∃ r b' t, gSeq drawA _ _ = _ ∧ _
    rw [e_seq, e, oa_nx, e_seq, e_if, e_tru, e_op, px2, rb_ok, e_C, rb_ok, e_lift d_gt, rb_ok, e_lift d_tru, ro_ok]
    by_cases hz : 0 < z'
    · rw [decide_eq_true hz, if_pos rfl, e_seq, e_set, e_op, px2, rb_ok, e_var (d := .int m) rfl, rb_ok, e_lift (d_mod h0), ro_ok, oa_nx, e_seq]
      have e1 : gSetIx 0 (mC (.int 2)) (mOp dDiv (mPix 0 (mC (.int 2))) (mVar 1)) ([.ol true (bx ns i' z' sd' c), .d (.int m), .un, y, .un].set 4 (.d (.int (z' % m)))) = .nx [.ol true (bx ns i' (z' / m) sd' c), .d (.int m), .un, y, .d (.int (z' % m))] := by
        refine pset (k := 2) (xs := bx ns i' z' sd' c) (v := .int (z' / m)) (t := [.d (.int m), .un, y, .d (.int (z' % m))]) ?_ (show 2 < 5 by decide)
        show mOp dDiv (mPix 0 (mC (.int 2))) (mVar 1) [.ol true (bx ns i' z' sd' c), .d (.int m), .un, y, .d (.int (z' % m))] = _
        rw [e_op, px2, rb_ok, e_var (d := .int m) rfl, rb_ok, e_lift (d_div h0 (by omega))]
      rw [e1]
      exact ⟨z' % m, bx ns i' (z' / m) sd' c, _, rfl, Int.emod_nonneg _ (by omega), Int.emod_lt_of_pos _ h0, ns, i', z' / m, sd', c, rfl, g1, g2, g3, k4, by omega⟩
    · rw [decide_eq_false hz, if_neg (by decide), e_gnil, oa_nx, e_seq]
      have e1 : gSetIx 0 (mC (.int 4)) (mOp dAdd (mPix 0 (mC (.int 4))) (mC (.int 1))) [.ol true (bx ns i' z' sd' c), .d (.int m), .un, y, .un] = .nx [.ol true (bx ns i' z' sd' (c + 1)), .d (.int m), .un, y, .un] := pset (k := 4) (xs := bx ns i' z' sd' c) (v := .int (c + 1)) rfl (show 4 < 5 by decide)
      rw [e1, oa_nx, e_seq, e_set, e_op, e_op, px3, rb_ok, e_op, px4, rb_ok, e_C, rb_ok, e_lift (d_mul ⟨by omega, by omega, by decide, by decide⟩), rb_ok, e_lift d_add, rb_ok, e_C, rb_ok, e_lift (d_mod (by decide)), ro_ok, oa_nx, e_seq]
      generalize hq : (sd' + (c + 1) * 7919) % 2147483647 = q
      have q0 : 0 ≤ q := by rw [← hq]; exact Int.emod_nonneg _ (by decide)
      have q1 : q < 2147483647 := by rw [← hq]; exact Int.emod_lt_of_pos _ (by decide)
      have u0 : 0 ≤ q * q % 2147483629 := Int.emod_nonneg _ (by decide)
      have u1 : q * q % 2147483629 < 2147483629 := Int.emod_lt_of_pos _ (by decide)
      have e2 : gSetIx 0 (mC (.int 3)) (mOp dMod (mOp dAdd (mOp dAdd (mOp dMulA (mOp dMod (mOp dMulA (mVar 2) (mVar 2)) (mC (.int 2147483629))) (mOp dAdd (mOp dMod (mVar 2) (mC (.int 65521))) (mC (.int 3)))) (mOp dMulA (mC (.int 40692)) (mVar 2))) (mC (.int 1013))) (mC (.int 2147483647))) ([.ol true (bx ns i' z' sd' (c + 1)), .d (.int m), .un, y, .un].set 2 (.d (.int q)))
          = .nx [.ol true (bx ns i' z' ((q * q % 2147483629 * (q % 65521 + 3) + 40692 * q + 1013) % 2147483647) (c + 1)), .d (.int m), .d (.int q), y, .un] := by
        refine pset (k := 3) (xs := bx ns i' z' sd' (c + 1)) (v := .int _) (t := [.d (.int m), .d (.int q), y, .un]) ?_ (show 3 < 5 by decide)
        show mOp _ _ _ [.ol true (bx ns i' z' sd' (c + 1)), .d (.int m), .d (.int q), y, .un] = _
        rw [e_op, e_op, e_op, e_op, e_op, e_op, e_var (d := .int q) rfl, rb_ok, e_var (d := .int q) rfl, rb_ok, e_lift (d_mul ⟨by omega, by omega, by omega, by omega⟩), rb_ok, e_C, rb_ok, e_lift (d_mod (by decide)), rb_ok, e_op, e_op, e_var (d := .int q) rfl, rb_ok, e_C, rb_ok, e_lift (d_mod (by decide)), rb_ok, e_C, rb_ok, e_lift d_add, rb_ok,
          e_lift (d_mul ⟨by omega, by omega, by omega, by omega⟩), rb_ok, e_op, e_C, rb_ok, e_var (d := .int q) rfl, rb_ok, e_lift (d_mul ⟨by decide, by decide, by omega, by omega⟩), rb_ok, e_lift d_add, rb_ok, e_C, rb_ok, e_lift d_add, rb_ok, e_C, rb_ok, e_lift (d_mod (by decide))]
      rw [e2, oa_nx]
      generalize hv : (q * q % 2147483629 * (q % 65521 + 3) + 40692 * q + 1013) % 2147483647 = v
      have v0 : 0 ≤ v := by rw [← hv]; exact Int.emod_nonneg _ (by decide)
      have v1 : v < 2147483647 := by rw [← hv]; exact Int.emod_lt_of_pos _ (by decide)
      have w0 : 0 ≤ v % 8191 := Int.emod_nonneg _ (by decide)
      have w1 : v % 8191 < 8191 := Int.emod_lt_of_pos _ (by decide)
      rw [e_ret, e_oD, e_op, e_op, e_op, px3, rb_ok, e_C, rb_ok, e_lift (d_div (by decide) (by decide)), rb_ok, e_op, e_op, px3, rb_ok, e_C, rb_ok, e_lift (d_mod (by decide)), rb_ok, e_C, rb_ok, e_lift (d_mul ⟨by omega, by omega, by decide, by decide⟩), rb_ok, e_lift d_add, rb_ok, e_var (d := .int m) rfl, rb_ok, e_lift (d_mod h0), rb_ok, ro_ok]
      exact ⟨_, _, _, rfl, Int.emod_nonneg _ (by omega), Int.emod_lt_of_pos _ h0, ns, i', z', v, c + 1, rfl, g1, v0, v1, by omega, by omega⟩
  obtain ⟨r, b', t, e3, h3, h4, h5⟩ := key
  refine ⟨r, b', ?_, h3, h4, h5⟩
  have e4 : f_draw [.ol true (bx ns i z sd c), .d (.int m)] = .ok (.d (.int r)) (keepS [.ol true (bx ns i z sd c), .d (.int m)] (.ol true b' :: t)) := fnR_rt e3
  rw [e4]
  cases t <;> rfl
end
end DL
set_option Elab.async false
set_option linter.all false
set_option maxRecDepth 100000
set_option maxHeartbeats 4000000
/-! DL16: blocks in brackets, open, like -/
namespace DL
open PySem PySem.Spec L2
open PyProof.Rows hiding St

/-! ### blocks in brackets whose items change nothing -/
theorem compL_pure {tgt : D → S → Option S} {tt : M Bool} {f : M D} {vs : List Nat} {s : S} (p : D → Bool) (h : D → D) : ∀ (xs acc : List D),
    (∀ x ∈ xs, ∃ s1 s2, tgt x s = some s1 ∧ tt s1 = .ok (p x) s2 ∧ if p x = true then ∃ s3, f s2 = .ok (h x) s3 ∧ wipeS s3 vs = s else wipeS s2 vs = s) → compL tgt tt f vs xs acc s = .ok (acc ++ (xs.filter p).map h) s
  | [], acc, _ => by simp [compL]
  | x :: xs, acc, hx => by
    obtain ⟨s1, s2, e1, e2, e3⟩ := hx x List.mem_cons_self
    have ih := fun acc => compL_pure (tgt := tgt) (tt := tt) (f := f) (vs := vs) (s := s) p h xs acc fun y hy => hx y (List.mem_cons_of_mem _ hy)
    unfold compL
    rw [e1]
    simp only [e2]
    cases hp : p x with
    | true =>
      rw [hp, if_pos rfl] at e3
      obtain ⟨s3, e4, e5⟩ := e3
      simp only [e4, e5]
      rw [ih, List.filter_cons_of_pos hp]
      simp
    | false =>
      rw [hp, if_neg (by decide)] at e3
      simp only [e3]
      rw [ih, List.filter_cons_of_neg (by rw [hp]; decide)]
/-- .. with no test -/
theorem lc_pure {fi : M (List D)} {tgt : D → S → Option S} {f : M D} {vs : List Nat} {s s1 w : S} {xs : List D} (h : D → D) (hi : fi s = .ok xs s1) (hl : xs.length ≤ lim) (hw : wipeS s1 vs = w)
    (hx : ∀ x ∈ xs, ∃ s2, tgt x w = some s2 ∧ ∃ s3, f s2 = .ok (h x) s3 ∧ wipeS s3 vs = w) : oLc fi tgt (M.ret true) f vs s = .ok (.ol false (xs.map h)) (restS s1 w vs) := by
  have e := compL_pure (tgt := tgt) (tt := M.ret true) (f := f) (vs := vs) (s := w) (fun _ => true) h xs [] fun x hm => by
    obtain ⟨s2, e1, s3, e2, e3⟩ := hx x hm
    exact ⟨s2, s2, e1, rfl, by rw [if_pos rfl]; exact ⟨s3, e2, e3⟩⟩
  unfold oLc
  rw [hi, rb_ok, if_pos hl, hw, e, List.filter_eq_self.mpr (fun _ _ => rfl)]
  rfl
theorem bools_map : ∀ bs : List Bool, bools (bs.map .bool) = some bs
  | [] => rfl
  | b :: bs => by simp [bools, bools_map bs]
theorem d_all {xs : List D} {h : D → Bool} : dAll [.list (xs.map fun x => .bool (h x))] = some (.bool (xs.all h)) := by
  have e : (xs.map fun x => PyData.bool (h x)) = (xs.map h).map .bool := by simp
  show (bools _).map _ = _
  rw [e, bools_map]
  simp [List.all_map]

/-! ### open -/
theorem forOpen {d : D} : ∀ (ns : List Int) (sd : Int) (y : SV), 0 ≤ sd → sd < 2147483647 → ∃ sd' y', forL (tName 2) (gSet 1 (mOp dMod (mOp dAdd (mOp dAdd (mOp dMulA (mVar 1) (mC (.int 48271))) (mOp dMod (mVar 2) (mC (.int 2147483629)))) (mC (.int 11))) (mC (.int 2147483647)))) (ints' ns) [.d d, .d (.int sd), y] = .nx [.d d, .d (.int sd'), y'] ∧ 0 ≤ sd' ∧ sd' < 2147483647
  | [], sd, y, h1, h2 => ⟨sd, y, rfl, h1, h2⟩
  | n :: ns, sd, y, h1, h2 => by
    obtain ⟨sd', y', e, h3, h4⟩ := forOpen (d := d) ns ((sd * 48271 + n % 2147483629 + 11) % 2147483647) (.d (.int n)) (Int.emod_nonneg _ (by decide)) (Int.emod_lt_of_pos _ (by decide))
    refine ⟨sd', y', ?_, h3, h4⟩
    have e1 : gSet 1 (mOp dMod (mOp dAdd (mOp dAdd (mOp dMulA (mVar 1) (mC (.int 48271))) (mOp dMod (mVar 2) (mC (.int 2147483629)))) (mC (.int 11))) (mC (.int 2147483647))) [.d d, .d (.int sd), .d (.int n)] = .nx [.d d, .d (.int ((sd * 48271 + n % 2147483629 + 11) % 2147483647)), .d (.int n)] := by
      rw [e_set, e_op, e_op, e_op, e_op, e_var (d := .int sd) rfl, rb_ok, e_C, rb_ok, e_lift (d_mul ⟨by omega, by omega, by decide, by decide⟩), rb_ok, e_op, e_var (d := .int n) rfl, rb_ok, e_C, rb_ok, e_lift (d_mod (by decide)), rb_ok, e_lift d_add, rb_ok, e_C, rb_ok, e_lift d_add, rb_ok, e_C, rb_ok, e_lift (d_mod (by decide)), ro_ok]
      rfl
    show (match gSet 1 _ [.d d, .d (.int sd), .d (.int n)] with
      | .nx s2 => forL _ _ (ints' ns) s2
      | .ct s2 => forL _ _ (ints' ns) s2
      | .bk s2 => .nx s2
      | .rt v s2 => .rt v s2
      | .ex c s2 => .ex c s2
      | .bad => .bad) = _
    rw [e1]
    exact e
theorem open_spec (ns : List Int) (h : ns.length ≤ 63) : ∃ b, f_open [.d (.list (ints' ns))] = .ok (.ol false b) [.un] ∧ BoxOk 0 b := by
  have hcut : ∀ t : S, mF (oSl (mVar 0) mNoP (mP (mC (.int 63)))) (.d (.list (ints' ns)) :: t) = .ok (.list (ints' ns)) (.d (.list (ints' ns)) :: t) := fun t => by
    show lift SV.dat (.ol false (((ints' ns).drop 0).take (HT.sIx (ints' ns).length (ints' ns).length (some 63) - 0))) (.d (.list (ints' ns)) :: t) = _
    have hl : (ints' ns).length ≤ 63 := by simpa [ints'] using h
    have e : HT.sIx (ints' ns).length (ints' ns).length (some 63) = (ints' ns).length := by
      rw [show (some (63 : Int)) = some ((63 : Nat) : Int) from rfl, HT.sIx_nat]
      omega
    rw [e, List.drop_zero, Nat.sub_zero, List.take_length]
    rfl
  obtain ⟨sd, y, e, h1, h2⟩ := forOpen (d := .list (ints' ns)) ns 1009 .un (by decide) (by decide)
  refine ⟨bx ns 0 0 sd 0, ?_, ns, 0, 0, sd, 0, rfl, Int.le_refl _, h1, h2, Int.le_refl _, Int.le_refl _⟩
  have e2 : g_open [.d (.list (ints' ns)), .un, .un] = .rt (.ol false (bx ns 0 0 sd 0)) [.d (.list (ints' ns)), .d (.int sd), y] := by
    unfold g_open
    rw [e_seq, e_set, e_C, ro_ok, oa_nx, e_seq]
    have e3 : gFor (mUn dSeq (mF (oSl (mVar 0) mNoP (mP (mC (.int 63)))))) (tName 2) (gSet 1 (mOp dMod (mOp dAdd (mOp dAdd (mOp dMulA (mVar 1) (mC (.int 48271))) (mOp dMod (mVar 2) (mC (.int 2147483629)))) (mC (.int 11))) (mC (.int 2147483647)))) ([.d (.list (ints' ns)), .un, .un].set 1 (.d (.int 1009))) = .nx [.d (.list (ints' ns)), .d (.int sd), y] := by
      show Res.out (mUn dSeq _ [.d (.list (ints' ns)), .d (.int 1009), .un]) _ = _
      rw [e_un, hcut, rb_ok, e_lift (show dSeq (.list (ints' ns)) = some (ints' ns) from rfl), ro_ok]
      exact e
    rw [e3, oa_nx, e_ret]
    show Res.out (mUn _ _ _) _ = _
    rw [e_un, e_cons, e_F]
    show Res.out (Res.bind (Res.bind (Res.bind (mUn _ _ _) _) _) _) _ = _
    rw [e_un, hcut, rb_ok]
    rfl
  have e4 : f_open [.d (.list (ints' ns))] = .ok (.ol false (bx ns 0 0 sd 0)) (keepS [.d (.list (ints' ns))] [.d (.list (ints' ns)), .d (.int sd), y]) := fnR_rt e2
  rw [e4]
  rfl

/-! ### like -/
def likeOk : Nat → D → Bool
  | 0, _ => false
  | n + 1, .list xs => decide (xs.length ≤ 100000) && xs.all (likeOk n)
  | n + 1, .tuple xs => decide (xs.length ≤ 100000) && xs.all (likeOk n)
  | _ + 1, .dict _ => false
  | _ + 1, .str x => PyData.canLay0 (.str x)
  | _ + 1, _ => true
theorem d_eq_refl {d : D} (h : SeqAt.shaped d = true) : dEq d d = some (.bool true) := by
  unfold dEq
  rw [if_pos ⟨h, h⟩, SeqAt.eqv_refl d (SeqAt.canLay_of_shaped h)]
theorem d_eqInt {a b : Int} : dEq (.int a) (.int b) = some (.bool (decide (a = b))) := by
  show (if SeqAt.shaped (.int a) = true ∧ SeqAt.shaped (.int b) = true then some (PyData.bool (a == b)) else none) = _
  rw [if_pos ⟨rfl, rfl⟩]
  rfl
/-- the last look: things in a row -/
theorem likeRow {f : S → Res SV} {x y : D} {xs ys : List D} (hx : dLen [x] = some (.int xs.length)) (hy : dLen [y] = some (.int ys.length)) (ix : ∀ i : Nat, dIx x (.int i) = xs[i]?) (iy : ∀ i : Nat, dIx y (.int i) = ys[i]?) (hl : xs.length = ys.length) (hb : xs.length ≤ 100000)
    (hf : ∀ (i : Nat) (a b : D), xs[i]? = some a → ys[i]? = some b → ∃ as, f [.d a, .d b] = .ok (.d (.bool true)) as) :
    ∃ s', gRet (oD (mAndV (mOp dEq (mUn dLen (mCons (mVar 0) mNil)) (mUn dLen (mCons (mVar 1) mNil))) (mUn dAll (mCons (mF (oLc (mUn dRng1 (mUn dLen (mCons (mVar 1) mNil))) (tName 2) (M.ret true) (mF (oCall f [] (mCons (mOp dIx (mVar 0) (mVar 2)) (mCons (mOp dIx (mVar 1) (mVar 2)) mNil)))) [2])) mNil)))) [.d x, .d y, .un] = .rt (.d (.bool true)) s' := by
  have e1 : mOp dEq (mUn dLen (mCons (mVar 0) mNil)) (mUn dLen (mCons (mVar 1) mNil)) [.d x, .d y, .un] = .ok (.bool true) [.d x, .d y, .un] := by
    rw [e_op, e_un, e_cons, e_var (d := x) rfl, rb_ok, e_nil, rb_ok, rb_ok, e_lift hx, rb_ok, e_un, e_cons, e_var (d := y) rfl, rb_ok, e_nil, rb_ok, rb_ok, e_lift hy, rb_ok, e_lift (d_eqInt (b := (ys.length : Int))), hl, decide_eq_true rfl]
  have e2 : oLc (mUn dRng1 (mUn dLen (mCons (mVar 1) mNil))) (tName 2) (M.ret true) (mF (oCall f [] (mCons (mOp dIx (mVar 0) (mVar 2)) (mCons (mOp dIx (mVar 1) (mVar 2)) mNil)))) [2] [.d x, .d y, .un] = .ok (.ol false ((rangeD 0 ys.length).map fun _ => .bool true)) [.d x, .d y, .un] := by
    refine lc_pure (w := [.d x, .d y, .un]) (s1 := [.d x, .d y, .un]) (fun _ => .bool true) ?_ ?_ rfl ?_
    · rw [e_un, e_un, e_cons, e_var (d := y) rfl, rb_ok, e_nil, rb_ok, rb_ok, e_lift hy, rb_ok]
      refine e_lift ?_
      show (if rngOk (ys.length : Int) = true then some (rangeD 0 (ys.length : Int).toNat) else none) = _
      rw [if_pos (show rngOk (ys.length : Int) = true from decide_eq_true (by omega)), Int.toNat_natCast]
    · rw [rangeD, List.length_map, List.length_range, ← hl]
      exact Nat.le_trans hb (by decide)
    · intro d hd
      obtain ⟨i, hi, rfl⟩ := List.mem_map.mp hd
      have hi2 : i < ys.length := List.mem_range.mp hi
      have hi1 : i < xs.length := by omega
      obtain ⟨as, ef⟩ := hf i xs[i] ys[i] (List.getElem?_eq_getElem hi1) (List.getElem?_eq_getElem hi2)
      have z : (0 : Int) + (i : Int) = (i : Int) := Int.zero_add _
      refine ⟨[.d x, .d y, .d (.int i)], by rw [z]; rfl, [.d x, .d y, .d (.int i)], ?_, rfl⟩
      have ea : mCons (mOp dIx (mVar 0) (mVar 2)) (mCons (mOp dIx (mVar 1) (mVar 2)) mNil) [.d x, .d y, .d (.int i)] = .ok [xs[i], ys[i]] [.d x, .d y, .d (.int i)] := by
        rw [e_cons, e_op, e_var (d := x) rfl, rb_ok, e_var (d := .int i) rfl, rb_ok, e_lift ((ix i).trans (List.getElem?_eq_getElem hi1)), rb_ok, e_cons, e_op, e_var (d := y) rfl, rb_ok, e_var (d := .int i) rfl, rb_ok, e_lift ((iy i).trans (List.getElem?_eq_getElem hi2)), rb_ok, e_nil, rb_ok, rb_ok]
      rw [e_F]
      unfold oCall oCallK
      rw [ea, rb_ok]
      show Res.bind (match f [.d xs[i], .d ys[i]] with
        | .ok rv _ => if rv.rf = true then .bad else .ok rv [.d x, .d y, .d (.int i)]
        | .ex c _ => .ex c [.d x, .d y, .d (.int i)]
        | .bad => .bad) _ = _
      rw [ef]
      rfl
  rw [e_ret, e_oD]
  show ∃ s', Res.out (Res.bind (Res.bind (mOp dEq _ _ _) _) _) _ = _
  rw [e1, rb_ok]
  simp only
  rw [e_un, e_cons, e_F, e2, rb_ok]
  refine ⟨[.d x, .d y, .un], ?_⟩
  rw [e_lift (show SV.dat (.ol false _) = some (.list _) from rfl), rb_ok, e_nil, rb_ok, rb_ok, e_lift (d_all (h := fun _ => true)), rb_ok, ro_ok]
  simp
theorem like_refl : ∀ (n : Nat) (d : D), likeOk n d = true → f_like n [.d d, .d d] = .ok (.d (.bool true)) [.un, .un]
  | 0, _, h => by cases h
  | n + 1, d, h => by
    have key : ∃ s', g_like (f_like n) [.d d, .d d, .un] = .rt (.d (.bool true)) s' := by
      cases d with
      | none => exact ⟨_, rfl⟩
      | bool b => cases b <;> exact ⟨_, rfl⟩
      | int i =>
        refine ⟨[.d (.int i), .d (.int i), .un], ?_⟩
        have e : g_like (f_like n) [.d (.int i), .d (.int i), .un] = (match dEq (.int i) (.int i) with
          | some z => .rt (.d z) [.d (.int i), .d (.int i), .un]
          | none => .bad) := rfl
        rw [e, d_eq_refl rfl]
      | str x =>
        refine ⟨[.d (.str x), .d (.str x), .un], ?_⟩
        have e : mOp dEq (mVar 0) (mVar 1) [.d (.str x), .d (.str x), .un] = .ok (.bool true) [.d (.str x), .d (.str x), .un] := by
          rw [e_op, e_var (d := .str x) rfl, rb_ok, e_var (d := .str x) rfl, rb_ok, e_lift (d_eq_refl (show SeqAt.shaped (.str x) = true from Bool.and_eq_true_iff.mpr ⟨h, rfl⟩))]
        show Out.andThen (Res.out (Res.bind (mOp dEq (mVar 0) (mVar 1) [.d (.str x), .d (.str x), .un]) (fun d s1 => Res.ok (SV.d d) s1)) (fun x s1 => Out.rt x s1)) _ = _
        rw [e]
        rfl
      | list xs =>
        obtain ⟨h1, h2⟩ := He.ba h
        have h1 := of_decide_eq_true h1
        have at_ : ∀ i : Nat, dIx (.list xs) (.int i) = xs[i]? := fun i => by
          show atI xs i = _
          unfold atI ixN
          rw [if_pos (by omega)]
          by_cases hi : (i : Int) < xs.length
          · rw [if_pos hi]
            simp
          · rw [if_neg hi, List.getElem?_eq_none (by omega)]
            rfl
        exact likeRow (x := .list xs) (y := .list xs) rfl rfl at_ at_ rfl h1 fun i a b ha hb => by
          rw [ha] at hb
          cases hb
          exact ⟨_, like_refl n a (List.all_eq_true.mp h2 a (List.mem_of_getElem? ha))⟩
      | tuple xs =>
        obtain ⟨h1, h2⟩ := He.ba h
        have h1 := of_decide_eq_true h1
        have at_ : ∀ i : Nat, dIx (.tuple xs) (.int i) = xs[i]? := fun i => by
          show atI xs i = _
          unfold atI ixN
          rw [if_pos (by omega)]
          by_cases hi : (i : Int) < xs.length
          · rw [if_pos hi]
            simp
          · rw [if_neg hi, List.getElem?_eq_none (by omega)]
            rfl
        exact likeRow (x := .tuple xs) (y := .tuple xs) rfl rfl at_ at_ rfl h1 fun i a b ha hb => by
          rw [ha] at hb
          cases hb
          exact ⟨_, like_refl n a (List.all_eq_true.mp h2 a (List.mem_of_getElem? ha))⟩
      | dict _ => cases h
    obtain ⟨s', e⟩ := key
    have e2 : f_like (n + 1) [.d d, .d d] = .ok (.d (.bool true)) (keepS [.d d, .d d] s') := fnR_rt e
    rw [e2]
    match s' with
    | [] => rfl
    | [_] => rfl
    | _ :: _ :: _ => rfl
end DL
set_option Elab.async false
set_option linter.all false
set_option maxRecDepth 100000
set_option maxHeartbeats 4000000
/-! DL17: calls reckoned; letters in their order -/
namespace DL
open PySem PySem.Spec L2
open PyProof.Rows hiding St

theorem BoxOk.mono {n m : Nat} {b : List D} (h : BoxOk n b) (l : n ≤ m) : BoxOk m b := by
  obtain ⟨ns, i, z, sd, c, e, h1, h2, h3, h4, h5⟩ := h
  exact ⟨ns, i, z, sd, c, e, h1, h2, h3, h4, by omega⟩
theorem has_of {i : Nat} {s : S} {x : SV} (h : s[i]? = some x) (hx : x ≠ .un) : hasV i s = true := by
  unfold hasV
  rw [h]
  cases x <;> first | rfl | exact absurd rfl hx
theorem callR_ok {i : Nat} {f : S → Res SV} {dds : List D} {fa : M (List D)} {s s1 : S} {ds : List D} {x : SV} {r : Bool} {b b' : List D} {rv : SV} {as : S} (hs : s[i]? = some x) (hx : x ≠ .un) (ha : fa s = .ok ds s1) (h1 : s1[i]? = some (.ol r b)) (hf : f (.ol true b :: (ds ++ dds).map .d) = .ok rv (.ol true b' :: as)) (hr : rv.rf = false) :
    oCallR i f dds fa s = .ok rv (s1.set i (.ol r b')) := by
  unfold oCallR
  rw [if_pos (has_of hs hx), ha, rb_ok]
  simp only [h1, SV.toRef, hf, hr, SV.back]
  rfl
theorem call_ok {f : S → Res SV} {dds : List D} {fa : M (List D)} {s s1 : S} {ds : List D} {rv : SV} {as : S} (ha : fa s = .ok ds s1) (hf : f ((ds ++ dds).map .d) = .ok rv as) (hr : rv.rf = false) : oCall f dds fa s = .ok rv s1 := by
  unfold oCall oCallK
  rw [ha, rb_ok]
  simp only [hf, hr]
  rfl
theorem arg1 {f : M D} {s s1 : S} {d : D} (h : f s = .ok d s1) : mCons f mNil s = .ok [d] s1 := by
  rw [e_cons, h, rb_ok, e_nil, rb_ok]
theorem arg2 {f g : M D} {s s1 s2 : S} {d e : D} (h : f s = .ok d s1) (h2 : g s1 = .ok e s2) : mCons f (mCons g mNil) s = .ok [d, e] s2 := by
  rw [e_cons, h, rb_ok, arg1 h2, rb_ok]
theorem F_d {f : M SV} {s s1 : S} {x : SV} {d : D} (h : f s = .ok x s1) (hd : x.dat = some d) : mF f s = .ok d s1 := by
  rw [e_F, h, rb_ok, e_lift hd]
/-- a draw -/
theorem e_draw {i n : Nat} {s : S} {r : Bool} {b : List D} {m : Int} {fm : M D} (hs : s[i]? = some (.ol r b)) (hb : BoxOk n b) (hn : n < 2 ^ 50) (hm : fm s = .ok (.int m) s) (h0 : 0 < m) (h1 : m < 2 ^ 50) :
    ∃ v b', mF (oCallR i f_draw [] (mCons fm mNil)) s = .ok (.int v) (s.set i (.ol r b')) ∧ 0 ≤ v ∧ v < m ∧ BoxOk (n + 1) b' := by
  obtain ⟨v, b', e, k1, k2, k3⟩ := draw_spec hb hn h0 h1
  exact ⟨v, b', F_d (callR_ok hs (fun z => by cases z) (arg1 hm) hs e rfl) rfl, k1, k2, k3⟩

/-! ### texts as lists of signs -/
abbrev tx (l : List Nat) : Str := ⟨l.toArray⟩
theorem tx_len (l : List Nat) : (tx l).length = l.length := by simp [Str.length]
theorem tx_app (l m : List Nat) : tx l ++ tx m = tx (l ++ m) := by
  show Str.append (tx l) (tx m) = _
  simp [Str.append]
theorem cut_from (l : List Nat) (k : Nat) (h : k ≤ l.length) : cutS (tx l) (some (k : Int)) none = tx (l.drop k) := by
  unfold cutS
  rw [HT.sIx_nat, HT.sIx_none, tx_len]
  have : min k l.length = k := by omega
  rw [this]
  show tx _ = tx _
  congr 1
  show (l.drop k).take (l.length - k) = l.drop k
  rw [List.take_of_length_le (by simp)]
theorem cut_to (l : List Nat) (k : Nat) (h : k ≤ l.length) : cutS (tx l) none (some (k : Int)) = tx (l.take k) := by
  unfold cutS
  rw [HT.sIx_nat, HT.sIx_none, tx_len]
  have : min k l.length = k := by omega
  rw [this]
  rfl
theorem lt_tri : ∀ l m : List Nat, l < m ∨ l = m ∨ m < l
  | [], [] => .inr (.inl rfl)
  | [], _ :: _ => .inl .nil
  | _ :: _, [] => .inr (.inr .nil)
  | a :: l, b :: m => by
    rcases Nat.lt_trichotomy a b with h | h | h
    · exact .inl (.rel h)
    · subst h
      rcases lt_tri l m with k | k | k
      · exact .inl (.cons k)
      · exact .inr (.inl (by rw [k]))
      · exact .inr (.inr (.cons k))
    · exact .inr (.inr (.rel h))
theorem lt_irr : ∀ l : List Nat, ¬ l < l
  | [], h => by cases h
  | a :: l, h => by
    cases h with
    | cons h => exact lt_irr l h
    | rel h => exact Nat.lt_irrefl _ h
theorem lt_asy : ∀ {l m : List Nat}, l < m → ¬ m < l
  | [], _, _, h => by cases h
  | a :: l, [], h, _ => by cases h
  | a :: l, b :: m, h, k => by
    cases h with
    | cons h =>
      cases k with
      | cons k => exact lt_asy h k
      | rel k => exact Nat.lt_irrefl _ k
    | rel h =>
      cases k with
      | cons k => exact Nat.lt_irrefl _ h
      | rel k => exact Nat.lt_irrefl _ (Nat.lt_trans h k)
/-- behind a shorter one that is greater, anything may stand -/
theorem lt_more : ∀ {l m : List Nat} (t : List Nat), l < m → m.length < l.length → l < m ++ t
  | [], _, _, _, k => by cases k
  | a :: l, [], _, h, _ => by cases h
  | a :: l, b :: m, t, h, k => by
    cases h with
    | cons h => exact .cons (lt_more t h (by simpa using k))
    | rel h => exact .rel h
theorem lt_pre : ∀ {m l : List Nat}, m < l → (∃ r, l = m ++ r) ∨ ∀ t u, m ++ t < l ++ u
  | [], l, _ => .inl ⟨l, rfl⟩
  | a :: m, [], h => by cases h
  | a :: m, b :: l, h => by
    cases h with
    | cons h =>
      rcases lt_pre h with ⟨r, e⟩ | k
      · exact .inl ⟨r, by rw [e]; rfl⟩
      · exact .inr fun t u => .cons (k t u)
    | rel h => exact .inr fun t u => .rel h
theorem lt_same : ∀ (u : List Nat) {a b : List Nat}, u ++ a < u ++ b → a < b
  | [], _, _, h => h
  | x :: u, _, _, h => by
    cases h with
    | cons h => exact lt_same u h
    | rel h => exact absurd h (Nat.lt_irrefl _)
/-- less than all its ends just where less than all its turnings -/
theorem least_iff (l : List Nat) : (∀ k, 1 ≤ k → k < l.length → l < l.drop k) ↔ ∀ k, 1 ≤ k → k < l.length → l < l.drop k ++ l.take k := by
  constructor
  · intro h k h1 h2
    exact lt_more _ (h k h1 h2) (by simp; omega)
  · intro h k h1 h2
    rcases lt_tri l (l.drop k) with e | e | e
    · exact e
    · have := congrArg List.length e
      simp at this
      omega
    · exfalso
      have hk := h k h1 h2
      rcases lt_pre e with ⟨r, er⟩ | q
      · have lr : r.length = k := by
          have := congrArg List.length er
          simp at this
          omega
        have dr : l.drop (l.length - k) = r := by
          have : l.drop (l.length - k) = (l.drop k ++ r).drop (l.length - k) := by rw [← er]
          have hz : (l.drop k).length ≤ l.length - k := by simp
          rw [this, List.drop_append_of_le_length (by rw [List.length_drop]; omega), List.drop_of_length_le hz]
          rfl
        have tr : l.take (l.length - k) = l.drop k := by
          have : l.take (l.length - k) = (l.drop k ++ r).take (l.length - k) := by rw [← er]
          have hz : (l.drop k).length ≤ l.length - k := by simp
          rw [this, List.take_append_of_le_length (by rw [List.length_drop]; omega), List.take_of_length_le hz]
        have h3 := h (l.length - k) (by omega) (by omega)
        rw [dr, tr] at h3
        have h4 : r < l.take k := lt_same (l.drop k) (by rw [← er]; exact hk)
        have h5 : l.take k ++ l.drop k < r ++ l.drop k := by rw [List.take_append_drop]; exact h3
        rcases lt_pre h4 with ⟨r2, e2⟩ | q
        · have : r2 = [] := by
            have := congrArg List.length e2
            simp at this
            exact List.length_eq_zero_iff.mp (by omega)
          rw [this, List.append_nil] at e2
          rw [e2] at h4
          exact lt_irr _ h4
        · exact lt_asy h5 (q _ _)
      · have := q (l.take k) []
        rw [List.append_nil] at this
        exact lt_asy hk this
end DL
set_option Elab.async false
set_option linter.all false
set_option maxRecDepth 100000
set_option maxHeartbeats 4000000
/-! DL18: words: is_word, need_word, least_so, is_least, and the laws' words -/
namespace DL
open PySem PySem.Spec L2
open PyProof.Rows hiding St
def tp_BadWord : Tpl := [("word", .inl "badword")]
noncomputable def g_is_word : S → Out :=
  gRet (oD (mAndV (mOp dLe (mUn dLen (mCons (mVar 0) mNil)) (mC (.int 6))) (mUn dAll (mCons (mF (oLc (mUn dSeq (mVar 0)) (tName 1) (M.ret true) (mOp (dInS false) (mVar 1) (mC (.str "abcd"))) [1])) mNil))))
noncomputable def f_is_word : S → Res SV := fnR 2 g_is_word
noncomputable def g_need_word : S → Out :=
  gIf (mNot (mTru (mF (oCall f_is_word [] (mCons (mVar 0) mNil))))) (gRaise "BadWord" 0 tp_BadWord mNil) gNil
noncomputable def f_need_word : S → Res SV := fnR 1 g_need_word
noncomputable def g_least_so : S → Out :=
  gRet (oD (mAndV (mOp dNe (mVar 0) (mC (.str ""))) (mUn dAll (mCons (mF (oLc (mOp dRng2 (mC (.int 1)) (mUn dLen (mCons (mVar 0) mNil))) (tName 1) (M.ret true) (mOp dLt (mVar 0) (mF (oSl (mVar 0) (mP (mVar 1)) mNoP))) [1])) mNil))))
noncomputable def f_least_so : S → Res SV := fnR 2 g_least_so
noncomputable def g_is_least : S → Out :=
  gSeq (gDrop (mF (oCall f_need_word [] (mCons (mVar 0) mNil))))
  (gRet (oCall f_least_so [] (mCons (mVar 0) mNil)))
noncomputable def f_is_least : S → Res SV := fnR 1 g_is_least
noncomputable def gl_word : S → Out :=
  gSeq (gIf (mTru (mOp dEq (mF (oCallR 0 f_draw [] (mCons (mC (.int 4)) mNil))) (mC (.int 0)))) (gSeq (gSet 3 (mOp dIx (mC (.str "abcd")) (mF (oCallR 0 f_draw [] (mCons (mVar 1) mNil)))))
  (gRet (oD (mOp dMulA (mVar 3) (mVar 2))))) gNil)
  (gRet (oD (mOp dJoin (mC (.str "")) (mF (oLc (mUn dRng1 (mVar 2)) (tName 4) (M.ret true) (mOp dIx (mC (.str "abcd")) (mF (oCallR 0 f_draw [] (mCons (mVar 1) mNil)))) [4])))))
noncomputable def fl_word : S → Res SV := fnR 5 gl_word
noncomputable def gl_least : S → Out :=
  gSeq (gSetO 1 (oLc (mOp dRng2 (mC (.int 1)) (mUn dLen (mCons (mVar 0) mNil))) (tName 2) (M.ret true) (mOp dAdd (mF (oSl (mVar 0) (mP (mVar 2)) mNoP)) (mF (oSl (mVar 0) mNoP (mP (mVar 2))))) [2]))
  (gRet (oD (mAndV (mOp dNe (mVar 0) (mC (.str ""))) (mUn dAll (mCons (mF (oLc (mUn dSeq (mVar 1)) (tName 3) (M.ret true) (mOp dLt (mVar 0) (mVar 3)) [3])) mNil)))))
noncomputable def fl_least : S → Res SV := fnR 4 gl_least
noncomputable def gl_of : S → Out :=
  gRet (oD (mOp dIx (mVar 1) (mF (oCallR 0 f_draw [] (mCons (mUn dLen (mCons (mVar 1) mNil)) mNil)))))
noncomputable def fl_of : S → Res SV := fnR 2 gl_of
noncomputable def gl_odd_text : S → Out :=
  gRet (oCallR 0 fl_of [] (mCons (mLst (mCons (mC (.str "e")) (mCons (mC (.str "A")) (mCons (mC (.str "abcdabc")) (mCons (mC (.str "a b")) (mCons (mC (.str "ab1")) (mCons (mC (.str "-")) (mCons (mC (.str " ")) (mCons (mC (.str "aaaaaaa")) (mCons (mC (.str "abx")) (mCons (mC (.str ".")) mNil))))))))))) mNil))
noncomputable def fl_odd_text : S → Res SV := fnR 1 gl_odd_text

def isL (l : List Nat) : Bool := l.all fun c => decide (c ∈ [97, 98, 99, 100])
def isW (l : List Nat) : Bool := decide (l.length ≤ 6) && isL l
theorem abcd : ("abcd" : Str) = tx [97, 98, 99, 100] := by decide +kernel
theorem lim_of {n : Nat} (h : n ≤ 1000) : n ≤ lim := Nat.le_trans h (by decide)
theorem dlen_tx {l : List Nat} (h : l.length ≤ 1000) : dLen [.str (tx l)] = some (.int l.length) := by
  show (if (tx l).length ≤ lim then some (PyData.int (tx l).length) else none) = _
  rw [tx_len, if_pos (lim_of h)]
def letD : D → Bool
  | .str y => isL y.cps.toList
  | _ => false
def badWord : Exc := ⟨"BadWord", [("word", .str "badword")]⟩
theorem strOk_of {l : List Nat} (h : isL l = true) : PyData.canLay0 (.str (tx l)) = true := by
  show (tx l).cps.all _ = true
  simp only [Array.all_eq_true', List.mem_toArray, decide_eq_true_eq]
  intro c hc
  have := of_decide_eq_true (List.all_eq_true.mp h c hc)
  simp at this
  omega
theorem shaped_of {l : List Nat} (h : isL l = true) : SeqAt.shaped (.str (tx l)) = true := Bool.and_eq_true_iff.mpr ⟨strOk_of h, rfl⟩
theorem ne_nil {l : List Nat} (h : isL l = true) : dNe (.str (tx l)) (.str "") = some (.bool (!l.isEmpty)) := by
  have e : PyData.eqv (.str (tx l)) (.str "") = l.isEmpty := by
    show (tx l == ("" : Str)) = l.isEmpty
    cases l with
    | nil => decide +kernel
    | cons a l =>
      have : tx (a :: l) ≠ ("" : Str) := fun z => by
        have z2 := congrArg (fun x : Str => x.cps.toList.length) z
        have z3 : (l.length + 1 : Nat) = 0 := z2
        omega
      simpa using this
  unfold dNe
  rw [if_pos ⟨shaped_of h, by decide +kernel⟩, e]
def leastB (l : List Nat) : Bool := !l.isEmpty && (List.range (l.length - 1)).all fun i => decide (l < l.drop (1 + i))
def leastT (l : List Nat) : Bool := !l.isEmpty && (List.range (l.length - 1)).all fun i => decide (l < l.drop (1 + i) ++ l.take (1 + i))
theorem least_same (l : List Nat) : leastB l = leastT l := by
  have key : ((List.range (l.length - 1)).all fun i => decide (l < l.drop (1 + i))) = ((List.range (l.length - 1)).all fun i => decide (l < l.drop (1 + i) ++ l.take (1 + i))) := by
    rw [Bool.eq_iff_iff, List.all_eq_true, List.all_eq_true]
    simp only [List.mem_range, decide_eq_true_eq]
    have h := least_iff l
    constructor
    · intro q i hi
      exact h.mp (fun k h1 h2 => by
        have := q (k - 1) (by omega)
        rw [show 1 + (k - 1) = k by omega] at this
        exact this) (1 + i) (by omega) (by omega)
    · intro q i hi
      exact h.mpr (fun k h1 h2 => by
        have := q (k - 1) (by omega)
        rw [show 1 + (k - 1) = k by omega] at this
        exact this) (1 + i) (by omega) (by omega)
  unfold leastB leastT
  rw [key]
theorem d_rng2 {n : Nat} (h : n ≤ 1000) : dRng2 (.int 1) (.int n) = some (rangeD 1 (n - 1)) := by
  show (if rngOk 1 = true ∧ rngOk n = true then some (rangeD 1 ((n : Int) - 1).toNat) else none) = _
  rw [if_pos ⟨by decide, decide_eq_true (by omega)⟩]
  congr 2
  omega
theorem all_range {p : D → Bool} {n : Nat} : (rangeD 1 n).all p = (List.range n).all fun i => p (.int (1 + (i : Int))) := by
  unfold rangeD
  rw [List.all_map]
  rfl
def lsD (l : List Nat) : D → Bool
  | .int i => decide (l < l.drop i.toNat)
  | _ => false
theorem least_spec (l : List Nat) (h : isW l = true) : f_least_so [.d (.str (tx l))] = .ok (.d (.bool (leastB l))) [.un] := by
  obtain ⟨hl, hL⟩ := He.ba h
  have hl := of_decide_eq_true hl
  have key : ∃ s', g_least_so [.d (.str (tx l)), .un] = .rt (.d (.bool (leastB l))) s' := by
    have e1 : mOp dNe (mVar 0) (mC (.str "")) [.d (.str (tx l)), .un] = .ok (.bool (!l.isEmpty)) [.d (.str (tx l)), .un] := by
      rw [e_op, e_var (d := .str (tx l)) rfl, rb_ok, e_C, rb_ok, e_lift (ne_nil hL)]
    unfold g_least_so
    rw [e_ret, e_oD]
    show ∃ s', Res.out (Res.bind (Res.bind (mOp dNe _ _ _) _) _) _ = _
    rw [e1, rb_ok]
    unfold leastB
    cases (!l.isEmpty) with
    | false => exact ⟨_, rfl⟩
    | true =>
      simp only [Bool.true_and]
      have e2 : oLc (mOp dRng2 (mC (.int 1)) (mUn dLen (mCons (mVar 0) mNil))) (tName 1) (M.ret true) (mOp dLt (mVar 0) (mF (oSl (mVar 0) (mP (mVar 1)) mNoP))) [1] [.d (.str (tx l)), .un] = .ok (.ol false ((rangeD 1 (l.length - 1)).map fun x => .bool (lsD l x))) [.d (.str (tx l)), .un] := by
        refine lc_pure (w := [.d (.str (tx l)), .un]) (s1 := [.d (.str (tx l)), .un]) _ ?_ ?_ rfl ?_
        · rw [e_op, e_C, rb_ok, e_un, arg1 (e_var (d := .str (tx l)) rfl), rb_ok, e_lift (dlen_tx (by omega)), rb_ok, e_lift (d_rng2 (by omega))]
        · rw [rangeD, List.length_map, List.length_range]
          exact lim_of (by omega)
        · intro d hd
          obtain ⟨i, hi, rfl⟩ := List.mem_map.mp hd
          have hi := List.mem_range.mp hi
          refine ⟨[.d (.str (tx l)), .d (.int (1 + (i : Int)))], rfl, [.d (.str (tx l)), .d (.int (1 + (i : Int)))], ?_, rfl⟩
          have e3 : dCut (some (1 + (i : Int))) none (.str (tx l)) = some (.d (.str (tx (l.drop (1 + i))))) := by
            show (if (tx l).length ≤ lim then some (SV.d (.str (cutS (tx l) (some (1 + (i : Int))) none))) else none) = _
            rw [tx_len, if_pos (lim_of (by omega)), show (1 : Int) + (i : Int) = ((1 + i : Nat) : Int) by omega, cut_from l (1 + i) (by omega)]
          have e4 : mF (oSl (mVar 0) (mP (mVar 1)) mNoP) [.d (.str (tx l)), .d (.int (1 + (i : Int)))] = .ok (.str (tx (l.drop (1 + i)))) [.d (.str (tx l)), .d (.int (1 + (i : Int)))] := by
            refine F_d (x := .d (.str (tx (l.drop (1 + i))))) ?_ rfl
            show lift (dCut (some (1 + (i : Int))) none) (.str (tx l)) _ = _
            exact e_lift e3
          rw [e_op, e_var (d := .str (tx l)) rfl, rb_ok, e4, rb_ok]
          refine e_lift ?_
          show some (PyData.bool (decide (l < l.drop (1 + i)))) = some (PyData.bool (decide (l < l.drop (1 + (i : Int)).toNat)))
          rw [show (1 + (i : Int)).toNat = 1 + i by omega]
      rw [e_un, arg1 (F_d e2 rfl), rb_ok, e_lift (d_all (h := lsD l)), rb_ok, ro_ok]
      refine ⟨[.d (.str (tx l)), .un], ?_⟩
      rw [all_range]
      have e5 : (fun i : Nat => lsD l (.int (1 + (i : Int)))) = fun i => decide (l < l.drop (1 + i)) := by
        funext i
        show decide (l < l.drop (1 + (i : Int)).toNat) = _
        rw [show (1 + (i : Int)).toNat = 1 + i by omega]
      rw [e5]
  obtain ⟨s', e⟩ := key
  have e2 : f_least_so [.d (.str (tx l))] = .ok (.d (.bool (leastB l))) (keepS [.d (.str (tx l))] s') := fnR_rt e
  rw [e2]
  cases s' <;> rfl
end DL
set_option Elab.async false
set_option linter.all false
set_option maxRecDepth 100000
set_option maxHeartbeats 4000000
/-! DL19: the laws' words: drawn, turned, odd -/
namespace DL
open PySem PySem.Spec L2
open PyProof.Rows hiding St

theorem d_cutFrom {l : List Nat} {k : Nat} (h : l.length ≤ 1000) (hk : k ≤ l.length) : dCut (some (k : Int)) none (.str (tx l)) = some (.d (.str (tx (l.drop k)))) := by
  show (if (tx l).length ≤ lim then some (SV.d (.str (cutS (tx l) (some (k : Int)) none))) else none) = _
  rw [tx_len, if_pos (lim_of h), cut_from l k hk]
theorem d_cutTo {l : List Nat} {k : Nat} (h : l.length ≤ 1000) (hk : k ≤ l.length) : dCut none (some (k : Int)) (.str (tx l)) = some (.d (.str (tx (l.take k)))) := by
  show (if (tx l).length ≤ lim then some (SV.d (.str (cutS (tx l) none (some (k : Int))))) else none) = _
  rw [tx_len, if_pos (lim_of h), cut_to l k hk]
theorem cut_to' (l : List Nat) (k : Nat) : cutS (tx l) none (some (k : Int)) = tx (l.take k) := by
  by_cases h : k ≤ l.length
  · exact cut_to l k h
  · unfold cutS
    rw [HT.sIx_nat, HT.sIx_none, tx_len]
    have : min k l.length = l.length := by omega
    rw [this]
    show tx (l.take (l.length - 0)) = tx (l.take k)
    rw [Nat.sub_zero, List.take_length, List.take_of_length_le (by omega)]
theorem d_cutTo' {l : List Nat} {k : Nat} (h : l.length ≤ 1000) : dCut none (some (k : Int)) (.str (tx l)) = some (.d (.str (tx (l.take k)))) := by
  show (if (tx l).length ≤ lim then some (SV.d (.str (cutS (tx l) none (some (k : Int))))) else none) = _
  rw [tx_len, if_pos (lim_of h), cut_to' l k]
theorem d_addS {l m : List Nat} (h : l.length + m.length ≤ 1000) : dAdd (.str (tx l)) (.str (tx m)) = some (.str (tx (l ++ m))) := by
  show (if (tx l).length + (tx m).length ≤ lim then some (PyData.str (tx l ++ tx m)) else none) = _
  rw [tx_len, tx_len, if_pos (lim_of h), tx_app]
def trD (l : List Nat) : D → D
  | .int i => .str (tx (l.drop i.toNat ++ l.take i.toNat))
  | _ => .none
def ltD (l : List Nat) : D → Bool
  | .str y => decide (l < y.cps.toList)
  | _ => false
theorem lawleast_spec (l : List Nat) (h : isW l = true) : fl_least [.d (.str (tx l))] = .ok (.d (.bool (leastT l))) [.un] := by
  obtain ⟨hl, hL⟩ := He.ba h
  have hl := of_decide_eq_true hl
  have key : ∃ s', gl_least [.d (.str (tx l)), .un, .un, .un] = .rt (.d (.bool (leastT l))) s' := by
    have e0 : oLc (mOp dRng2 (mC (.int 1)) (mUn dLen (mCons (mVar 0) mNil))) (tName 2) (M.ret true) (mOp dAdd (mF (oSl (mVar 0) (mP (mVar 2)) mNoP)) (mF (oSl (mVar 0) mNoP (mP (mVar 2))))) [2] [.d (.str (tx l)), .un, .un, .un] = .ok (.ol false ((rangeD 1 (l.length - 1)).map (trD l))) [.d (.str (tx l)), .un, .un, .un] := by
      refine lc_pure (w := [.d (.str (tx l)), .un, .un, .un]) (s1 := [.d (.str (tx l)), .un, .un, .un]) _ ?_ ?_ rfl ?_
      · rw [e_op, e_C, rb_ok, e_un, arg1 (e_var (d := .str (tx l)) rfl), rb_ok, e_lift (dlen_tx (by omega)), rb_ok, e_lift (d_rng2 (by omega))]
      · rw [rangeD, List.length_map, List.length_range]
        exact lim_of (by omega)
      · intro d hd
        obtain ⟨i, hi, rfl⟩ := List.mem_map.mp hd
        have hi := List.mem_range.mp hi
        have z : (1 : Int) + (i : Int) = ((1 + i : Nat) : Int) := by omega
        rw [z]
        generalize hk : 1 + i = k at *
        have hk2 : k ≤ l.length := by omega
        refine ⟨[.d (.str (tx l)), .un, .d (.int k), .un], rfl, [.d (.str (tx l)), .un, .d (.int k), .un], ?_, rfl⟩
        have e4 : mF (oSl (mVar 0) (mP (mVar 2)) mNoP) [.d (.str (tx l)), .un, .d (.int k), .un] = .ok (.str (tx (l.drop k))) [.d (.str (tx l)), .un, .d (.int k), .un] := by
          refine F_d (x := .d (.str (tx (l.drop k)))) ?_ rfl
          show lift (dCut (some (k : Int)) none) (.str (tx l)) _ = _
          exact e_lift (d_cutFrom (by omega) hk2)
        have e5 : mF (oSl (mVar 0) mNoP (mP (mVar 2))) [.d (.str (tx l)), .un, .d (.int k), .un] = .ok (.str (tx (l.take k))) [.d (.str (tx l)), .un, .d (.int k), .un] := by
          refine F_d (x := .d (.str (tx (l.take k)))) ?_ rfl
          show lift (dCut none (some (k : Int))) (.str (tx l)) _ = _
          exact e_lift (d_cutTo (by omega) hk2)
        rw [e_op, e4, rb_ok, e5, rb_ok, e_lift (d_addS (by simp; omega))]
        rfl
    have e1 : mOp dNe (mVar 0) (mC (.str "")) [.d (.str (tx l)), .ol false ((rangeD 1 (l.length - 1)).map (trD l)), .un, .un] = .ok (.bool (!l.isEmpty)) [.d (.str (tx l)), .ol false ((rangeD 1 (l.length - 1)).map (trD l)), .un, .un] := by
      rw [e_op, e_var (d := .str (tx l)) rfl, rb_ok, e_C, rb_ok, e_lift (ne_nil hL)]
    unfold gl_least
    rw [e_seq, e_setO, e0, ro_ok, oa_nx, e_ret, e_oD]
    show ∃ s', Res.out (Res.bind (Res.bind (mOp dNe _ _ [.d (.str (tx l)), .ol false ((rangeD 1 (l.length - 1)).map (trD l)), .un, .un]) _) _) _ = _
    rw [e1, rb_ok]
    unfold leastT
    cases (!l.isEmpty) with
    | false => exact ⟨_, rfl⟩
    | true =>
      simp only [Bool.true_and]
      have e2 : oLc (mUn dSeq (mVar 1)) (tName 3) (M.ret true) (mOp dLt (mVar 0) (mVar 3)) [3] [.d (.str (tx l)), .ol false ((rangeD 1 (l.length - 1)).map (trD l)), .un, .un] = .ok (.ol false (((rangeD 1 (l.length - 1)).map (trD l)).map fun x => .bool (ltD l x))) [.d (.str (tx l)), .d (.list ((rangeD 1 (l.length - 1)).map (trD l))), .un, .un] := by
        refine lc_pure (w := [.d (.str (tx l)), .d (.list ((rangeD 1 (l.length - 1)).map (trD l))), .un, .un]) (s1 := [.d (.str (tx l)), .d (.list ((rangeD 1 (l.length - 1)).map (trD l))), .un, .un]) _ rfl ?_ rfl ?_
        · rw [rangeD, List.length_map, List.length_map, List.length_range]
          exact lim_of (by omega)
        · intro d hd
          obtain ⟨x, hx, rfl⟩ := List.mem_map.mp hd
          obtain ⟨i, hi, rfl⟩ := List.mem_map.mp hx
          exact ⟨_, rfl, _, rfl, rfl⟩
      rw [e_un, arg1 (F_d e2 rfl), rb_ok, e_lift (d_all (h := ltD l)), rb_ok, ro_ok]
      refine ⟨[.d (.str (tx l)), .d (.list ((rangeD 1 (l.length - 1)).map (trD l))), .un, .un], ?_⟩
      rw [List.all_map, all_range]
      have e5 : (fun i : Nat => (ltD l ∘ trD l) (.int (1 + (i : Int)))) = fun i => decide (l < l.drop (1 + i) ++ l.take (1 + i)) := by
        funext i
        show decide (l < (tx (l.drop (1 + (i : Int)).toNat ++ l.take (1 + (i : Int)).toNat)).cps.toList) = _
        rw [show (1 + (i : Int)).toNat = 1 + i by omega]
      rw [e5]
  obtain ⟨s', e⟩ := key
  have e2 : fl_least [.d (.str (tx l))] = .ok (.d (.bool (leastT l))) (keepS [.d (.str (tx l))] s') := fnR_rt e
  rw [e2]
  cases s' <;> rfl

/-! ### drawn words -/
theorem of_spec {n : Nat} {b : List D} {xs : List D} (hb : BoxOk n b) (hn : n < 2 ^ 40) (h0 : xs ≠ []) (h1 : xs.length ≤ 100000) :
    ∃ (x : D) (b' : List D) (t : S), fl_of [.ol true b, .d (.list xs)] = .ok (.d x) (.ol true b' :: t) ∧ x ∈ xs ∧ BoxOk (n + 1) b' := by
  have hpos : 0 < xs.length := List.length_pos_iff.mpr h0
  obtain ⟨v, b1, e1, k1, k2, hb1⟩ := e_draw (i := 0) (s := [.ol true b, .d (.list xs)]) (fm := mUn dLen (mCons (mVar 1) mNil)) (m := xs.length) rfl hb (by omega) (by rw [e_un, arg1 (e_var (d := .list xs) rfl)]; rfl) (by omega) (by omega)
  obtain ⟨k, rfl⟩ := Int.eq_ofNat_of_zero_le k1
  have hk : k < xs.length := by omega
  have e : gl_of [.ol true b, .d (.list xs)] = .rt (.d xs[k]) [.ol true b1, .d (.list xs)] := by
    unfold gl_of
    rw [e_ret, e_oD, e_op, e_var (d := .list xs) rfl, rb_ok, e1, rb_ok, e_lift (show dIx (.list xs) (.int k) = some xs[k] from atI_of rfl (List.getElem?_eq_getElem hk)), rb_ok, ro_ok]
    rfl
  have e2 : fl_of [.ol true b, .d (.list xs)] = .ok (.d xs[k]) (keepS [.ol true b, .d (.list xs)] [.ol true b1, .d (.list xs)]) := fnR_rt e
  exact ⟨xs[k], b1, _, e2, List.getElem_mem hk, hb1⟩
end DL
set_option Elab.async false
set_option linter.all false
set_option maxRecDepth 100000
set_option maxHeartbeats 4000000
/-! DL20: calls with keywords -/
namespace DL
open PySem PySem.Spec L2
open PyProof.Rows hiding St
open Evl (Ex ex_l ex_t ex_rd)

/-- those at the places ix -/
def pickL {α : Type} (ix : List Nat) (l : List α) : List α := ix.filterMap fun i => l[i]?
theorem pick_len {α : Type} {l : List α} {m : Nat} (hl : l.length = m) : ∀ {ix : List Nat}, (ix.all fun i => decide (i < m)) = true → (pickL ix l).length = ix.length
  | [], _ => rfl
  | i :: ix, h => by
    obtain ⟨h1, h2⟩ := He.ba h
    have h1 := of_decide_eq_true h1
    have e : l[i]? = some (l[i]'(by omega)) := List.getElem?_eq_getElem (by omega)
    unfold pickL
    rw [List.filterMap_cons, e]
    exact congrArg Nat.succ (pick_len hl h2)
theorem vals_get : ∀ {vs : List V} {us : List Value} {i : Nat}, Vals vs us → (vs[i]? = none ∧ us[i]? = none) ∨ ∃ v u, vs[i]? = some v ∧ us[i]? = some u ∧ RelV v u
  | _, _, _, .nil => .inl ⟨by simp, by simp⟩
  | _, _, 0, .cons r _ => .inr ⟨_, _, rfl, rfl, r⟩
  | _, _, i + 1, .cons _ r => by simpa using vals_get (i := i) r
theorem vals_pick {vs : List V} {us : List Value} (r : Vals vs us) : ∀ ix : List Nat, Vals (pickL ix vs) (pickL ix us)
  | [] => .nil
  | i :: ix => by
    unfold pickL
    rcases vals_get (i := i) r with ⟨h1, h2⟩ | ⟨v, u, h1, h2, h3⟩
    · rw [List.filterMap_cons, List.filterMap_cons, h1, h2]
      exact vals_pick r ix
    · rw [List.filterMap_cons, List.filterMap_cons, h1, h2]
      exact .cons h3 (vals_pick r ix)
theorem rpA_pick {K : PySem.W.Frag} {G : Hp} {vs : List V} {ds : List D} (r : RpA K G vs ds) : ∀ ix : List Nat, RpA K G (pickL ix vs) (pickL ix ds)
  | [] => .nil
  | i :: ix => by
    unfold pickL
    cases h : ds[i]? with
    | none =>
      have h2 : vs[i]? = none := by
        rw [List.getElem?_eq_none_iff] at h ⊢
        rw [r.len]
        exact h
      rw [List.filterMap_cons, List.filterMap_cons, h, h2]
      exact rpA_pick r ix
    | some d =>
      obtain ⟨v, h2, h3⟩ := r.get h
      rw [List.filterMap_cons, List.filterMap_cons, h, h2]
      exact .cons h3 (rpA_pick r ix)
/-- how a call with m values and the keywords ks binds: ds the defaults, ix the order -/
def KBd (K : PySem.W.Frag) (fd : FuncData) (ps : List Str) (m : Nat) (ks : List Str) (ds : List Value) (ix : List Nat) : Prop := ∀ (s : Shared) (us ws : List Value), K.In s.heap → us.length = m → ws.length = ks.length → BindsTo s fd ⟨us, ks.zip ws⟩ (ps.zip (pickL ix (us ++ ws ++ ds)))
section
variable {K : PySem.W.Frag} {x qual : Str} {params : Arguments} {body : List Stmt} {scope : Scope} {dvs : List V} {kws : List (Str × V)} {f : Addr} {fd : FuncData} {ps ks : List Str} {m : Nat} {ix : List Nat}
theorem kbd0 (F : FunD K x qual params body scope [] kws f fd)
    (h : ∀ (kV doc pm : Value) (an : Option Addr) (cdv ct : Value) (us ws : List Value), us.length = m → ws.length = ks.length → bindArgs (PySem.W.fnOf x qual params body scope .none kV doc pm an cdv ct) ⟨us, ks.zip ws⟩ = pure (ps.zip (pickL ix (us ++ ws ++ [])))) : KBd K fd ps m ks [] ix := by
  obtain ⟨oc, od, dV, kV, doc, pm, an, cdv, ct, osl, rfl, lk, hcd, hD, hK⟩ := F.ex
  rcases hD with ⟨_, rfl⟩ | ⟨e, _⟩
  · exact fun s us ws X l1 l2 => .of_eq (h kV doc pm an cdv ct us ws l1 l2)
  · exact absurd rfl e
/-- keyword-only parameters, lack: ms -/
theorem kbd2 (F : FunD K x qual params body scope [] kws f fd) (ms : List (Str × V)) (hk : kws ≠ []) (hms : ∀ q ∈ ms, q ∈ kws)
    (h : ∀ (D : Addr) (doc pm : Value) (an : Option Addr) (cdv ct : Value) (us mv ws : List Value), us.length = m → mv.length = ms.length → ws.length = ks.length →
      KwChain D ((ms.map (·.1)).zip mv) (bindArgs (PySem.W.fnOf x qual params body scope .none (.ref D) doc pm an cdv ct) ⟨us, ks.zip ws⟩) (ps.zip (pickL ix (us ++ ws ++ mv)))) : ∃ ds, Vals (ms.map (·.2)) ds ∧ KBd K fd ps m ks ds ix := by
  obtain ⟨oc, od, dV, kV, doc, pm, an, cdv, ct, osl, rfl, lk, hcd, hD, hK⟩ := F.ex
  rcases hD with ⟨_, rfl⟩ | ⟨e, _⟩
  · rcases hK with e | ⟨D, rfl, hq⟩
    · exact absurd e hk
    · obtain ⟨mv, hl, rk, hks⟩ := kwd_vals (ms := ms) fun q hm => hq q (hms q hm)
      refine ⟨mv, rk, fun s us ws X l1 l2 => BindsTo.of_looks fun M => KwChain.looks X hks (h D doc pm an cdv ct us mv ws l1 hl l2)⟩
  · exact absurd rfl e
end
section
variable {X : Cx} {CX : CXT} {k m : Nat} {f : Addr} {fd : FuncData} {ps ks : List Str} {sp : Sp} {E : St → XK} {x : Str} {p pos kpos : Pos} {e : Expr} {es : List Expr} {kws : List Keyword} {t tk : TA} {dvs : List V} {ds : List Value} {ix : List Nat}
theorem run_kw {pins : List (Addr × Obj)} {σ : St} {H : Hp} {s : Shared} {Q : VK} {us ws : List Value} {vs zs : List V} (F : FnOk X.prog X.w X.K X.mg X.base CX k f fd ps sp) (hr : Room k X.A) (hb : KBd X.K fd ps m ks ds ix) (hd : Vals dvs ds) (hx : PassesAt CX X σ (E σ))
    (I : Inv X pins σ H s) (r : Vals vs us) (rz : Vals zs ws) (l1 : vs.length = m) (l2 : zs.length = ks.length) (h : sp (pickL ix (vs ++ zs ++ dvs)) H Q (E σ)) : wpAny (model X.prog X.w) X.A (call (.ref f) us (ks.zip ws)) (EP X pins σ Q) X.xe s := by
  have r2 : Vals (pickL ix (vs ++ zs ++ dvs)) (pickL ix (us ++ ws ++ ds)) := vals_pick ((r.append rz).append hd) ix
  have b := hb s us ws I.kIn (r.length.symm.trans l1) (rz.length.symm.trans l2)
  refine wpAny_call (codeAny_mono (F.run X.A X.stack s H ⟨us, ks.zip ws⟩ _ _ Q (E σ) hr I.env0 b r2 h) fun o s' ho => ?_)
  match o, ho with
  | .error er, ho => exact hx pins H s er s' I ho
  | .ok (.ret u), ho => exact I.after ho
  | .ok .next, ho => exact False.elim ho
  | .ok .brk, ho => exact False.elim ho
  | .ok .cont, ho => exact False.elim ho
def tKw (m n : Nat) (sp : Sp) (ix : List Nat) (dvs : List V) (E : St → XK) (t tk : TA) : TE := fun σ H Q => t σ H fun vs H1 => tk σ H1 fun zs H2 => vs.length = m ∧ zs.length = n ∧ sp (pickL ix (vs ++ zs ++ dvs)) H2 Q (E σ)
theorem pe_kw (F : FnOk X.prog X.w X.K X.mg X.base CX k f fd ps sp) (hr : Room k X.A) (hg : Gl X x) (hm : X.mg x = some (.ref f)) (hk : PySem.W.keepIn X.K (.ref f) = true) (hb : KBd X.K fd ps m ks ds ix) (hd : Vals dvs ds) (hx : ∀ σ, PassesAt CX X σ (E σ)) (ha : PA X (e :: es) t) (hkw : PK X kws tk)
    (hall : (backToKw pos (keywordEach kws X.env)).all (·.1.isSome) = true) (hks : (backToKw pos (keywordEach kws X.env)).filterMap (·.1) = ks) (hdb : (x == ("__debug__" : Str)) = false) (he : starEach (e :: es) X.env = (false, eval e X.env) :: starEach es X.env)
    (hpl : ((backTo pos (starEach (e :: es) X.env)).any (·.1) || (backToKw pos (keywordEach kws X.env)).any (·.1.isNone)) = false) : PE X (.Call (.Name x p) (e :: es) kws pos) (tKw m ks.length sp ix dvs E t tk) := ⟨fun pins s σ H Q I h =>
  wpAny_Call_Name_kw (ld_glob I hg hm (PySem.W.callWith_KW (h₀ := X.base) I.ok.mod.kin hk hall (thn (ha.run pos pins s σ H _ I h) fun us s1 ⟨vs, H1, I1, r, q⟩ => thn (hkw.run pos pins s1 σ H1 _ I1 q) fun ws s2 ⟨zs, H2, I2, rz, l1, l2, q2⟩ => ⟨I2.kIn, by
    rw [hks]
    exact run_kw F hr hb hd (hx σ) I2 r rz l1 l2 q2⟩) hpl he) hdb)⟩
theorem pe_kw0 (F : FnOk X.prog X.w X.K X.mg X.base CX k f fd ps sp) (hr : Room k X.A) (hg : Gl X x) (hm : X.mg x = some (.ref f)) (hk : PySem.W.keepIn X.K (.ref f) = true) (hb : KBd X.K fd ps 0 ks ds ix) (hd : Vals dvs ds) (hx : ∀ σ, PassesAt CX X σ (E σ)) (hkw : PK X kws tk)
    (hall : (backToKw pos (keywordEach kws X.env)).all (·.1.isSome) = true) (hks : (backToKw pos (keywordEach kws X.env)).filterMap (·.1) = ks) (hdb : (x == ("__debug__" : Str)) = false)
    (hpl : ((backTo pos (starEach [] X.env)).any (·.1) || (backToKw pos (keywordEach kws X.env)).any (·.1.isNone)) = false) : PE X (.Call (.Name x p) [] kws pos) (tKw 0 ks.length sp ix dvs E tNil tk) := ⟨fun pins s σ H Q I h =>
  wpAny_Call_Name_kw (ld_glob I hg hm (PySem.W.callWith_KW0 (h₀ := X.base) I.ok.mod.kin hk hall (thn (hkw.run pos pins s σ H _ I h) fun ws s2 ⟨zs, H2, I2, rz, l1, l2, q2⟩ => ⟨I2.kIn, by
    rw [hks]
    exact run_kw (us := []) (vs := []) F hr hb hd (hx σ) I2 .nil rz l1 l2 q2⟩) hpl) hdb)⟩
end
def DK (X : Cx) (T : List (Addr × Str)) (B : Addr) (W : WX) (kws : List Keyword) (f : M (List D)) : Prop := PK X kws (TAd X T B W f)
def oCallW (f : S → Res SV) (ix : List Nat) (dds : List D) (fa fk : M (List D)) : M SV := fun s => (fa s).bind fun ds s1 => (fk s1).bind fun zs s2 => match f ((pickL ix (ds ++ zs ++ dds)).map .d) with
  | .ok rv _ => if rv.rf = true then .bad else .ok rv s2
  | .ex c _ => .ex c s2
  | .bad => .bad
/-- a def of the module, called with m values and the keywords ks -/
structure FnW (P : Program) (w : World) (K : PySem.W.Frag) (mg : Str → Option Value) (base : Heap) (k n : Nat) (x : Str) (f : S → Res SV) (m : Nat) (ks : List Str) (ix : List Nat) (dds : List D) : Prop where
  ex : ∃ (fd : FuncData) (ps : List Str) (dvs : List V) (ds : List Value), FnOk P w K mg base (L2.CX P w) k (He.ga K x) fd ps (spF K mg n f) ∧ KBd K fd ps m ks ds ix ∧ Vals dvs ds ∧ ∀ G, RpA K G dvs dds
  hm : mg x = some (.ref (He.ga K x))
  kp : PySem.W.keepIn K (.ref (He.ga K x)) = true
  hl : (ix.all fun i => decide (i < m + ks.length + dds.length)) = true ∧ ix.length = n
section
variable {X : Cx} {T : List (Addr × Str)} {B : Addr} {W : WX} {k k' n m : Nat} {f : S → Res SV} {x : Str} {p pos kpos : Pos} {e : Expr} {es : List Expr} {kws : List Keyword} {ks : List Str} {ix : List Nat} {dds : List D} {fa fk : M (List D)} {nm : Option Str}
theorem pk_weak {t t' : TA} (h : PK X kws t) (q : ∀ σ H Q, t' σ H Q → t σ H Q) : PK X kws t' := ⟨fun pos pins s σ H Q I z => h.run pos pins s σ H Q I (q σ H Q z)⟩
theorem dk_nil : DK X T B W [] mNil := pk_weak pk_nil fun σ H Q ⟨F, G, s, I, p⟩ => p.here I [] .nil
theorem dk_cons {g : M D} {h : M (List D)} (ha : DE X T B W e g) (hr : DK X T B W kws h) : DK X T B W (⟨nm, e, kpos⟩ :: kws) (mCons g h) := pk_weak (pk_cons ha hr) fun σ H Q ⟨F, G, s, I, p⟩ =>
  runE I p fun F1 G1 H1 s1 v d g1 e1 I1 r1 p1 => runA I1 p1 fun F2 G2 H2 s2 vs ds g2 e2 I2 r2 p2 => p2.here I2 (v :: vs) (.cons (r1.mono e2) r2)
theorem kw_to {F G H : Hp} {σ : St} {s : S} {vs zs dvs : List V} {ds zd : List D} {Q : VK} (I : IS X.K T B F G H σ s) (r1 : RpA X.K G vs ds) (r2 : RpA X.K G zs zd) (r3 : RpA X.K G dvs dds) (l1 : ds.length = m) (l2 : zd.length = ks.length) (hl : (ix.all fun i => decide (i < m + ks.length + dds.length)) = true ∧ ix.length = n)
    (p : Po X T B W F G σ (fun F' G' x s' H' => ∀ v, IS X.K T B F' G' H' (some v :: σ) (x :: s') → Q v H') (match f ((pickL ix (ds ++ zd ++ dds)).map .d) with
      | .ok rv _ => if rv.rf = true then .bad else .ok rv s
      | .ex c _ => .ex c s
      | .bad => .bad)) : vs.length = m ∧ zs.length = ks.length ∧ spF X.K X.mg n f (pickL ix (vs ++ zs ++ dvs)) H Q (WE W σ) :=
  ⟨r1.len.trans l1, r2.len.trans l2, call_to I (rpA_pick ((r1.app r2).app r3) ix) (by rw [pick_len (m := m + ks.length + dds.length) (by simp [l1, l2]; omega) hl.1]; exact hl.2) p⟩
theorem do_kw (Fn : FnW X.prog X.w X.K X.mg X.base k n x f m ks ix dds) (hr : Room k' X.A) (hk : k ≤ k') (tk : Takes X W) (ha : DA X T B W (e :: es) fa) (hkw : DK X T B W kws fk) (h1 : mLen fa m) (h2 : mLen fk ks.length)
    (hg : Gl X x := by rfl) (hall : (backToKw pos (keywordEach kws X.env)).all (·.1.isSome) = true := by rfl) (hks : (backToKw pos (keywordEach kws X.env)).filterMap (·.1) = ks := by rfl) (hdb : (x == ("__debug__" : Str)) = false := by decide)
    (he : starEach (e :: es) X.env = (false, eval e X.env) :: starEach es X.env := by rfl) (hpl : ((backTo pos (starEach (e :: es) X.env)).any (·.1) || (backToKw pos (keywordEach kws X.env)).any (·.1.isNone)) = false := by rfl) :
    DO X T B W (.Call (.Name x p) (e :: es) kws pos) (oCallW f ix dds fa fk) := by
  obtain ⟨⟨fd, ps, dvs, ds, F, hb, hd, hdd⟩, hm, kp, hl⟩ := Fn
  refine pe_weak (pe_kw F (hr.mono hk) hg hm kp hb hd (fun σ => passAt tk σ) ha hkw hall hks hdb he hpl) fun σ H Q ⟨F, G, s, I, q⟩ => ?_
  unfold oCallW at q
  refine ⟨F, G, s, I, ?_⟩
  cases ef : fa s with
  | bad => rw [ef] at q; exact q
  | ex c s' => rw [ef] at q; exact q
  | ok ds' s1 =>
    rw [ef] at q
    intro F1 G1 H1 g1 e1 I1 vs r1
    refine ⟨F1, G1, s1, I1, ?_⟩
    simp only [rb_ok] at q
    cases ek : fk s1 with
    | bad => rw [ek] at q; exact Po.mono q g1 e1
    | ex c s' => rw [ek] at q; exact Po.mono q g1 e1
    | ok zd s2 =>
      rw [ek] at q
      intro F2 G2 H2 g2 e2 I2 zs r2
      exact kw_to (m := m) (ks := ks) I2 (r1.mono e2) r2 (hdd G2) (h1 _ _ _ ef) (h2 _ _ _ ek) hl (Po.mono (Po.mono q g1 e1) g2 e2)
theorem do_kw0 (Fn : FnW X.prog X.w X.K X.mg X.base k n x f 0 ks ix dds) (hr : Room k' X.A) (hk : k ≤ k') (tk : Takes X W) (hkw : DK X T B W kws fk) (h2 : mLen fk ks.length)
    (hg : Gl X x := by rfl) (hall : (backToKw pos (keywordEach kws X.env)).all (·.1.isSome) = true := by rfl) (hks : (backToKw pos (keywordEach kws X.env)).filterMap (·.1) = ks := by rfl) (hdb : (x == ("__debug__" : Str)) = false := by decide)
    (hpl : ((backTo pos (starEach [] X.env)).any (·.1) || (backToKw pos (keywordEach kws X.env)).any (·.1.isNone)) = false := by rfl) :
    DO X T B W (.Call (.Name x p) [] kws pos) (oCallW f ix dds mNil fk) := by
  obtain ⟨⟨fd, ps, dvs, ds, F, hb, hd, hdd⟩, hm, kp, hl⟩ := Fn
  refine pe_weak (pe_kw0 F (hr.mono hk) hg hm kp hb hd (fun σ => passAt tk σ) hkw hall hks hdb hpl) fun σ H Q ⟨F, G, s, I, q⟩ => ?_
  unfold oCallW at q
  rw [e_nil, rb_ok] at q
  show TAd X T B W fk σ H _
  refine ⟨F, G, s, I, ?_⟩
  cases ek : fk s with
  | bad => rw [ek] at q; exact q
  | ex c s' => rw [ek] at q; exact q
  | ok zd s2 =>
    rw [ek] at q
    intro F2 G2 H2 g2 e2 I2 zs r2
    exact kw_to (m := 0) (ks := ks) I2 .nil r2 (hdd G2) rfl (h2 _ _ _ ek) hl (Po.mono q g2 e2)
end
end DL
set_option Elab.async false
set_option linter.all false
set_option maxRecDepth 100000
set_option maxHeartbeats 4000000
/-! DL21: parts -/
namespace DL
open PySem PySem.Spec L2
open PyProof.Rows hiding St
def tp_BadPart : Tpl := [("word", .inl "badpart")]
noncomputable def g_common : S → Out :=
  gSeq (gWhile (mTru (mOp dNe (mVar 1) (mC (.int 0)))) (gPar 0 1 (mCons (mVar 1) (mCons (mOp dMod (mVar 0) (mVar 1)) mNil))))
  (gRet (oD (mVar 0)))
noncomputable def f_common : S → Res SV := fnR 2 g_common
noncomputable def g_lowest : S → Out :=
  gSeq (gSet 2 (mF (oCall f_common [] (mCons (mUn dAbs (mCons (mVar 0) mNil)) (mCons (mVar 1) mNil)))))
  (gRet (oD (mTup (mCons (mOp dDiv (mVar 0) (mVar 2)) (mCons (mOp dDiv (mVar 1) (mVar 2)) mNil)))))
noncomputable def f_lowest : S → Res SV := fnR 3 g_lowest
noncomputable def g_part : S → Out :=
  gSeq (gIf (mTru (mOp dEq (mVar 1) (mC (.int 0)))) (gRaise "BadPart" 0 tp_BadPart mNil) gNil)
  (gRet (oD (mIf (mTru (mOp dGt (mVar 1) (mC (.int 0)))) (mF (oCall f_lowest [] (mCons (mVar 0) (mCons (mVar 1) mNil)))) (mF (oCall f_lowest [] (mCons (mUn dNeg (mVar 0)) (mCons (mUn dNeg (mVar 1)) mNil)))))))
noncomputable def f_part : S → Res SV := fnR 2 g_part
noncomputable def g_plus : S → Out :=
  gRet (oCall f_lowest [] (mCons (mOp dAdd (mOp dMulA (mOp dIx (mVar 0) (mC (.int 0))) (mOp dIx (mVar 1) (mC (.int 1)))) (mOp dMulA (mOp dIx (mVar 1) (mC (.int 0))) (mOp dIx (mVar 0) (mC (.int 1))))) (mCons (mOp dMulA (mOp dIx (mVar 0) (mC (.int 1))) (mOp dIx (mVar 1) (mC (.int 1)))) mNil)))
noncomputable def f_plus : S → Res SV := fnR 2 g_plus
noncomputable def g_turned_below : S → Out :=
  gRet (oD (mTup (mCons (mUn dNeg (mOp dIx (mVar 0) (mC (.int 0)))) (mCons (mOp dIx (mVar 0) (mC (.int 1))) mNil))))
noncomputable def f_turned_below : S → Res SV := fnR 1 g_turned_below
noncomputable def g_less : S → Out :=
  gRet (oCall f_plus [] (mCons (mVar 0) (mCons (mF (oCall f_turned_below [] (mCons (mVar 1) mNil))) mNil)))
noncomputable def f_less : S → Res SV := fnR 2 g_less
noncomputable def g_times : S → Out :=
  gRet (oCall f_lowest [] (mCons (mOp dMulA (mOp dIx (mVar 0) (mC (.int 0))) (mOp dIx (mVar 1) (mC (.int 0)))) (mCons (mOp dMulA (mOp dIx (mVar 0) (mC (.int 1))) (mOp dIx (mVar 1) (mC (.int 1)))) mNil)))
noncomputable def f_times : S → Res SV := fnR 2 g_times
noncomputable def g_over : S → Out :=
  gSeq (gIf (mTru (mOp dEq (mOp dIx (mVar 1) (mC (.int 0))) (mC (.int 0)))) (gRaise "BadPart" 0 tp_BadPart mNil) gNil)
  (gRet (oCall f_part [] (mCons (mOp dMulA (mOp dIx (mVar 0) (mC (.int 0))) (mOp dIx (mVar 1) (mC (.int 1)))) (mCons (mOp dMulA (mOp dIx (mVar 0) (mC (.int 1))) (mOp dIx (mVar 1) (mC (.int 0)))) mNil))))
noncomputable def f_over : S → Res SV := fnR 2 g_over
noncomputable def gl_gcd : S → Out :=
  gSeq (gWhile (mTru (mOp dGt (mVar 1) (mC (.int 0)))) (gPar 0 1 (mCons (mVar 1) (mCons (mOp dMod (mVar 0) (mVar 1)) mNil))))
  (gRet (oD (mVar 0)))
noncomputable def fl_gcd : S → Res SV := fnR 2 gl_gcd
noncomputable def gl_low : S → Out :=
  gSeq (gSet 2 (mF (oCall fl_gcd [] (mCons (mUn dAbs (mCons (mVar 0) mNil)) (mCons (mVar 1) mNil)))))
  (gRet (oD (mTup (mCons (mOp dDiv (mVar 0) (mVar 2)) (mCons (mOp dDiv (mVar 1) (mVar 2)) mNil)))))
noncomputable def fl_low : S → Res SV := fnR 3 gl_low
noncomputable def gl_bit : S → Out :=
  gSeq (gSet 1 (mF (oCallR 0 f_draw [] (mCons (mC (.int 9)) mNil))))
  (gSeq (gIf (mTru (mOp dEq (mVar 1) (mC (.int 0)))) (gRet (oCall fl_low [] (mCons (mOp dSub (mF (oCallR 0 f_draw [] (mCons (mOp dPow (mC (.int 10)) (mC (.int 9))) mNil))) (mOp dMulA (mC (.int 5)) (mOp dPow (mC (.int 10)) (mC (.int 8))))) (mCons (mOp dAdd (mC (.int 1)) (mF (oCallR 0 f_draw [] (mCons (mOp dSub (mOp dPow (mC (.int 10)) (mC (.int 9))) (mC (.int 1))) mNil)))) mNil)))) gNil)
  (gSeq (gIf (mTru (mOp dEq (mVar 1) (mC (.int 1)))) (gRet (oD (mTup (mCons (mC (.int 0)) (mCons (mC (.int 1)) mNil))))) gNil)
  (gSeq (gIf (mTru (mOp dLt (mVar 1) (mC (.int 5)))) (gRet (oD (mTup (mCons (mF (oCallR 0 fl_of [] (mCons (mLst (mCons (mC (.int 1)) (mCons (mUn dNeg (mC (.int 1))) (mCons (mC (.int 2)) (mCons (mC (.int 3)) (mCons (mUn dNeg (mC (.int 2))) mNil)))))) mNil))) (mCons (mC (.int 1)) mNil))))) gNil)
  (gRet (oCall fl_low [] (mCons (mOp dSub (mF (oCallR 0 f_draw [] (mCons (mC (.int 25)) mNil))) (mC (.int 12))) (mCons (mOp dAdd (mC (.int 1)) (mF (oCallR 0 f_draw [] (mCons (mC (.int 6)) mNil)))) mNil)))))))
noncomputable def fl_bit : S → Res SV := fnR 2 gl_bit
noncomputable def gl_add : S → Out :=
  gRet (oCall fl_low [] (mCons (mOp dAdd (mOp dMulA (mOp dIx (mVar 0) (mC (.int 0))) (mOp dIx (mVar 1) (mC (.int 1)))) (mOp dMulA (mOp dIx (mVar 1) (mC (.int 0))) (mOp dIx (mVar 0) (mC (.int 1))))) (mCons (mOp dMulA (mOp dIx (mVar 0) (mC (.int 1))) (mOp dIx (mVar 1) (mC (.int 1)))) mNil)))
noncomputable def fl_add : S → Res SV := fnR 2 gl_add
noncomputable def gl_neg : S → Out :=
  gRet (oD (mTup (mCons (mOp dSub (mC (.int 0)) (mOp dIx (mVar 0) (mC (.int 0)))) (mCons (mOp dIx (mVar 0) (mC (.int 1))) mNil))))
noncomputable def fl_neg : S → Res SV := fnR 1 gl_neg
noncomputable def gl_mul : S → Out :=
  gRet (oCall fl_low [] (mCons (mOp dMulA (mOp dIx (mVar 0) (mC (.int 0))) (mOp dIx (mVar 1) (mC (.int 0)))) (mCons (mOp dMulA (mOp dIx (mVar 0) (mC (.int 1))) (mOp dIx (mVar 1) (mC (.int 1)))) mNil)))
noncomputable def fl_mul : S → Res SV := fnR 2 gl_mul
noncomputable def gl_inv : S → Out :=
  gRet (oD (mIf (mTru (mOp dGt (mOp dIx (mVar 0) (mC (.int 0))) (mC (.int 0)))) (mTup (mCons (mOp dIx (mVar 0) (mC (.int 1))) (mCons (mOp dIx (mVar 0) (mC (.int 0))) mNil))) (mTup (mCons (mOp dSub (mC (.int 0)) (mOp dIx (mVar 0) (mC (.int 1)))) (mCons (mOp dSub (mC (.int 0)) (mOp dIx (mVar 0) (mC (.int 0)))) mNil)))))
noncomputable def fl_inv : S → Res SV := fnR 1 gl_inv

/-- a number of at most n bits -/
def Lg (n : Nat) (x : Int) : Prop := x.natAbs < 2 ^ n
theorem Lg.mono {n m : Nat} {x : Int} (h : Lg n x) (l : n ≤ m) : Lg m x := Nat.lt_of_lt_of_le h (Nat.pow_le_pow_right (by decide) l)
theorem Lg.mul {n m : Nat} {x y : Int} (h : Lg n x) (k : Lg m y) : Lg (n + m) (x * y) := by
  unfold Lg at *
  rw [Int.natAbs_mul, Nat.pow_add]
  exact Nat.mul_lt_mul'' h k
theorem Lg.add {n : Nat} {x y : Int} (h : Lg n x) (k : Lg n y) : Lg (n + 1) (x + y) := by
  unfold Lg at *
  have := Int.natAbs_add_le x y
  rw [Nat.pow_succ]
  omega
theorem Lg.neg {n : Nat} {x : Int} (h : Lg n x) : Lg n (-x) := by
  unfold Lg at *
  rw [Int.natAbs_neg]
  exact h
theorem Lg.log {n : Nat} {x : Int} (h : Lg n x) (hn : 0 < n) : x.natAbs.log2 < n := by
  by_cases h0 : x.natAbs = 0
  · rw [h0]
    exact hn
  · exact (Nat.log2_lt h0).mpr h
theorem d_mulL {n m : Nat} {a b : Int} (h : Lg n a) (k : Lg m b) (hl : n ≤ 8000) (hl2 : m ≤ 8000) : dMulA (.int a) (.int b) = some (.int (a * b)) := by
  show (if mulOk a b = true then some (PyData.int (a * b)) else none) = _
  have h1 := (h.mono hl).log (by decide)
  have h2 := (k.mono hl2).log (by decide)
  rw [if_pos (show mulOk a b = true from decide_eq_true (by omega))]
theorem d_divL {n : Nat} {a b : Int} (h : 0 < b) (k : Lg n b) (hl : n ≤ 8000) : dDiv (.int a) (.int b) = some (.int (a / b)) := by
  unfold dDiv dII
  refine if_pos (decide_eq_true ⟨h, ?_⟩)
  have h2 := (k.mono hl).log (by decide)
  omega
theorem d_neInt {a b : Int} : dNe (.int a) (.int b) = some (.bool (!decide (a = b))) := by
  show (if SeqAt.shaped (.int a) = true ∧ SeqAt.shaped (.int b) = true then some (PyData.bool (!(a == b))) else none) = _
  rw [if_pos ⟨rfl, rfl⟩]
  rfl
theorem d_neg {a : Int} : dNeg (.int a) = some (.int (-a)) := rfl
theorem tup2 {f g : M D} {s s1 s2 : S} {d e : D} (h : f s = .ok d s1) (h2 : g s1 = .ok e s2) : mTup (mCons f (mCons g mNil)) s = .ok (.tuple [d, e]) s2 := by
  unfold mTup
  rw [e_un, arg2 h h2, rb_ok]
  exact e_lift (if_pos (show 2 ≤ lim by decide))
/-! ### the greatest that goes into both -/
theorem gcd_step {a b : Nat} (t : M Bool) (ht : ∀ a b : Nat, t [.d (.int a), .d (.int b)] = .ok (decide (b ≠ 0)) [.d (.int a), .d (.int b)]) : ∀ (b a : Nat),
    whileN t (gPar 0 1 (mCons (mVar 1) (mCons (mOp dMod (mVar 0) (mVar 1)) mNil))) (b + 1) [.d (.int a), .d (.int b)] = .nx [.d (.int (Nat.gcd a b)), .d (.int 0)] := by
  intro b
  induction b using Nat.strongRecOn with
  | ind b ih =>
    intro a
    unfold whileN
    rw [ht, ro_ok]
    by_cases hb : b = 0
    · subst hb
      rw [decide_eq_false (by decide), if_neg (by decide)]
      simp
    · rw [decide_eq_true hb, if_pos rfl]
      have e : gPar 0 1 (mCons (mVar 1) (mCons (mOp dMod (mVar 0) (mVar 1)) mNil)) [.d (.int a), .d (.int b)] = .nx [.d (.int b), .d (.int (a % b : Nat))] := by
        unfold gPar
        rw [arg2 (e_var (d := .int b) rfl) (s2 := [.d (.int a), .d (.int b)]) (e := .int (a % b : Nat)) (by
          rw [e_op, e_var (d := .int a) rfl, rb_ok, e_var (d := .int b) rfl, rb_ok, e_lift (d_mod (by omega))]
          simp)]
        rfl
      simp only [e]
      have lt : a % b < b := Nat.mod_lt _ (by omega)
      have i2 := ih (a % b) lt b
      rw [whileN_more (n := a % b + 1) (by rw [i2]; intro z; cases z) (by omega), i2]
      congr 3
      rw [Nat.gcd_comm a b, Nat.gcd_rec b a, Nat.gcd_comm]
theorem common_spec (a b : Nat) : f_common [.d (.int a), .d (.int b)] = .ok (.d (.int (Nat.gcd a b))) [.un, .un] := by
  have e : g_common [.d (.int a), .d (.int b)] = .rt (.d (.int (Nat.gcd a b))) [.d (.int (Nat.gcd a b)), .d (.int 0)] := by
    unfold g_common
    rw [e_seq, gWhile_of (gcd_step (a := a) (b := b) _ (fun a b => by
      rw [e_tru, e_op, e_var (d := .int b) rfl, rb_ok, e_C, rb_ok, e_lift d_neInt, rb_ok, e_lift d_tru]
      congr 1
      simp) b a) (fun z => by cases z), oa_nx]
    rfl
  have e2 : f_common [.d (.int a), .d (.int b)] = .ok (.d (.int (Nat.gcd a b))) (keepS [.d (.int a), .d (.int b)] [.d (.int (Nat.gcd a b)), .d (.int 0)]) := fnR_rt e
  rw [e2]
  rfl
theorem gcd_spec (a b : Nat) : fl_gcd [.d (.int a), .d (.int b)] = .ok (.d (.int (Nat.gcd a b))) [.un, .un] := by
  have e : gl_gcd [.d (.int a), .d (.int b)] = .rt (.d (.int (Nat.gcd a b))) [.d (.int (Nat.gcd a b)), .d (.int 0)] := by
    unfold gl_gcd
    rw [e_seq, gWhile_of (gcd_step (a := a) (b := b) _ (fun a b => by
      rw [e_tru, e_op, e_var (d := .int b) rfl, rb_ok, e_C, rb_ok, e_lift d_gt, rb_ok, e_lift d_tru]
      congr 1
      by_cases hb : b = 0
      · subst hb
        rfl
      · rw [decide_eq_true hb, decide_eq_true (by omega)]) b a) (fun z => by cases z), oa_nx]
    rfl
  have e2 : fl_gcd [.d (.int a), .d (.int b)] = .ok (.d (.int (Nat.gcd a b))) (keepS [.d (.int a), .d (.int b)] [.d (.int (Nat.gcd a b)), .d (.int 0)]) := fnR_rt e
  rw [e2]
  rfl
/-- a part -/
abbrev pt (p q : Int) : D := .tuple [.int p, .int q]
def lowN (n u : Int) : Int := n / (Nat.gcd n.natAbs u.natAbs : Nat)
def lowU (n u : Int) : Int := u / (Nat.gcd n.natAbs u.natAbs : Nat)
abbrev low (n u : Int) : D := pt (lowN n u) (lowU n u)
theorem lowest_spec {n u : Int} (h0 : 0 < u) (h1 : Lg 8000 u) : f_lowest [.d (.int n), .d (.int u)] = .ok (.d (low n u)) [.un, .un] := by
  obtain ⟨k, rfl⟩ := Int.eq_ofNat_of_zero_le (Int.le_of_lt h0)
  have hg : 0 < Nat.gcd n.natAbs k := Nat.gcd_pos_of_pos_right _ (by omega)
  have hl : Lg 8000 (Nat.gcd n.natAbs k : Nat) := by
    have := Nat.gcd_le_right n.natAbs (n := k) (by omega)
    unfold Lg at *
    simp only [Int.natAbs_natCast] at *
    omega
  have e : g_lowest [.d (.int n), .d (.int k), .un] = .rt (.d (low n k)) [.d (.int n), .d (.int k), .d (.int (Nat.gcd n.natAbs k : Nat))] := by
    unfold g_lowest
    have ea : mUn dAbs (mCons (mVar 0) mNil) [.d (.int n), .d (.int k), .un] = .ok (.int (n.natAbs : Nat)) [.d (.int n), .d (.int k), .un] := by
      rw [e_un, arg1 (e_var (d := .int n) rfl), rb_ok]
      refine e_lift ?_
      show some (PyData.int (if n < 0 then -n else n)) = _
      congr 2
      split <;> omega
    rw [e_seq, e_set, F_d (call_ok (arg2 ea (e_var (d := .int k) rfl)) (common_spec n.natAbs k) rfl) rfl, ro_ok, oa_nx, e_ret, e_oD]
    show Res.out (Res.bind (mTup _ [.d (.int n), .d (.int k), .d (.int (Nat.gcd n.natAbs k : Nat))]) _) _ = _
    rw [tup2 (d := .int (n / (Nat.gcd n.natAbs k : Nat))) (e := .int ((k : Int) / (Nat.gcd n.natAbs k : Nat))) (s1 := [.d (.int n), .d (.int k), .d (.int (Nat.gcd n.natAbs k : Nat))]) (s2 := [.d (.int n), .d (.int k), .d (.int (Nat.gcd n.natAbs k : Nat))])
      (by rw [e_op, e_var (d := .int n) rfl, rb_ok, e_var (d := .int (Nat.gcd n.natAbs k : Nat)) rfl, rb_ok, e_lift (d_divL (by omega) hl (by decide))])
      (by rw [e_op, e_var (d := .int k) rfl, rb_ok, e_var (d := .int (Nat.gcd n.natAbs k : Nat)) rfl, rb_ok, e_lift (d_divL (by omega) hl (by decide))])]
    rfl
  have e2 : f_lowest [.d (.int n), .d (.int k)] = .ok (.d (low n k)) (keepS [.d (.int n), .d (.int k)] [.d (.int n), .d (.int k), .d (.int (Nat.gcd n.natAbs k : Nat))]) := fnR_rt e
  rw [e2]
  rfl
theorem lawlow_spec {n u : Int} (h0 : 0 < u) (h1 : Lg 8000 u) : fl_low [.d (.int n), .d (.int u)] = .ok (.d (low n u)) [.un, .un] := by
  obtain ⟨k, rfl⟩ := Int.eq_ofNat_of_zero_le (Int.le_of_lt h0)
  have hg : 0 < Nat.gcd n.natAbs k := Nat.gcd_pos_of_pos_right _ (by omega)
  have hl : Lg 8000 (Nat.gcd n.natAbs k : Nat) := by
    have := Nat.gcd_le_right n.natAbs (n := k) (by omega)
    unfold Lg at *
    simp only [Int.natAbs_natCast] at *
    omega
  have e : gl_low [.d (.int n), .d (.int k), .un] = .rt (.d (low n k)) [.d (.int n), .d (.int k), .d (.int (Nat.gcd n.natAbs k : Nat))] := by
    unfold gl_low
    have ea : mUn dAbs (mCons (mVar 0) mNil) [.d (.int n), .d (.int k), .un] = .ok (.int (n.natAbs : Nat)) [.d (.int n), .d (.int k), .un] := by
      rw [e_un, arg1 (e_var (d := .int n) rfl), rb_ok]
      refine e_lift ?_
      show some (PyData.int (if n < 0 then -n else n)) = _
      congr 2
      split <;> omega
    rw [e_seq, e_set, F_d (call_ok (arg2 ea (e_var (d := .int k) rfl)) (gcd_spec n.natAbs k) rfl) rfl, ro_ok, oa_nx, e_ret, e_oD]
    show Res.out (Res.bind (mTup _ [.d (.int n), .d (.int k), .d (.int (Nat.gcd n.natAbs k : Nat))]) _) _ = _
    rw [tup2 (d := .int (n / (Nat.gcd n.natAbs k : Nat))) (e := .int ((k : Int) / (Nat.gcd n.natAbs k : Nat))) (s1 := [.d (.int n), .d (.int k), .d (.int (Nat.gcd n.natAbs k : Nat))]) (s2 := [.d (.int n), .d (.int k), .d (.int (Nat.gcd n.natAbs k : Nat))])
      (by rw [e_op, e_var (d := .int n) rfl, rb_ok, e_var (d := .int (Nat.gcd n.natAbs k : Nat)) rfl, rb_ok, e_lift (d_divL (by omega) hl (by decide))])
      (by rw [e_op, e_var (d := .int k) rfl, rb_ok, e_var (d := .int (Nat.gcd n.natAbs k : Nat)) rfl, rb_ok, e_lift (d_divL (by omega) hl (by decide))])]
    rfl
  have e2 : fl_low [.d (.int n), .d (.int k)] = .ok (.d (low n k)) (keepS [.d (.int n), .d (.int k)] [.d (.int n), .d (.int k), .d (.int (Nat.gcd n.natAbs k : Nat))]) := fnR_rt e
  rw [e2]
  rfl
/-! ### sums and products -/
section
variable {s s1 s2 : S} {f g : M D} {a b : Int} {n m : Nat}
theorem ix0 {i : Nat} {p q : Int} (h : s[i]? = some (.d (pt p q))) : mOp dIx (mVar i) (mC (.int 0)) s = .ok (.int p) s := by
  rw [e_op, e_var h, rb_ok, e_C, rb_ok]
  rfl
theorem ix1 {i : Nat} {p q : Int} (h : s[i]? = some (.d (pt p q))) : mOp dIx (mVar i) (mC (.int 1)) s = .ok (.int q) s := by
  rw [e_op, e_var h, rb_ok, e_C, rb_ok]
  rfl
theorem e_mulL (h : f s = .ok (.int a) s1) (k : g s1 = .ok (.int b) s2) (ha : Lg n a) (hb : Lg m b) (hn : n ≤ 8000) (hm : m ≤ 8000) : mOp dMulA f g s = .ok (.int (a * b)) s2 := by
  rw [e_op, h, rb_ok, k, rb_ok, e_lift (d_mulL ha hb hn hm)]
theorem e_addI (h : f s = .ok (.int a) s1) (k : g s1 = .ok (.int b) s2) : mOp dAdd f g s = .ok (.int (a + b)) s2 := by
  rw [e_op, h, rb_ok, k, rb_ok, e_lift d_add]
theorem e_negI (h : f s = .ok (.int a) s1) : mUn dNeg f s = .ok (.int (-a)) s1 := by
  rw [e_un, h, rb_ok, e_lift d_neg]
end
section
variable {a b c d : Int}
/-- so many bits at most in both of its numbers, the lower above nought -/
structure Pt (n : Nat) (p q : Int) : Prop where
  num : Lg n p
  und : Lg n q
  pos : 0 < q
theorem Pt.mono {n m : Nat} {p q : Int} (h : Pt n p q) (l : n ≤ m) : Pt m p q := ⟨h.num.mono l, h.und.mono l, h.pos⟩
theorem dens {n : Nat} (h : Pt n a b) (k : Pt n c d) (hn : n ≤ 4000) : Lg 8000 (b * d) ∧ 0 < b * d := ⟨(h.und.mul k.und).mono (by omega), Int.mul_pos h.pos k.pos⟩
theorem plus_spec {n : Nat} (h : Pt n a b) (k : Pt n c d) (hn : n ≤ 4000) : f_plus [.d (pt a b), .d (pt c d)] = .ok (.d (low (a * d + c * b) (b * d))) [.un, .un] := by
  obtain ⟨d1, d2⟩ := dens h k hn
  have e : g_plus [.d (pt a b), .d (pt c d)] = .rt (.d (low (a * d + c * b) (b * d))) [.d (pt a b), .d (pt c d)] := by
    unfold g_plus
    rw [e_ret, call_ok (arg2 (e_addI (e_mulL (ix0 rfl) (ix1 rfl) h.num k.und (by omega) (by omega)) (e_mulL (ix0 rfl) (ix1 rfl) k.num h.und (by omega) (by omega))) (e_mulL (ix1 rfl) (ix1 rfl) h.und k.und (by omega) (by omega))) (lowest_spec d2 d1) rfl, ro_ok]
  have e2 : f_plus [.d (pt a b), .d (pt c d)] = .ok (.d (low (a * d + c * b) (b * d))) (keepS [.d (pt a b), .d (pt c d)] [.d (pt a b), .d (pt c d)]) := fnR_rt e
  rw [e2]
  rfl
theorem lawadd_spec {n : Nat} (h : Pt n a b) (k : Pt n c d) (hn : n ≤ 4000) : fl_add [.d (pt a b), .d (pt c d)] = .ok (.d (low (a * d + c * b) (b * d))) [.un, .un] := by
  obtain ⟨d1, d2⟩ := dens h k hn
  have e : gl_add [.d (pt a b), .d (pt c d)] = .rt (.d (low (a * d + c * b) (b * d))) [.d (pt a b), .d (pt c d)] := by
    unfold gl_add
    rw [e_ret, call_ok (arg2 (e_addI (e_mulL (ix0 rfl) (ix1 rfl) h.num k.und (by omega) (by omega)) (e_mulL (ix0 rfl) (ix1 rfl) k.num h.und (by omega) (by omega))) (e_mulL (ix1 rfl) (ix1 rfl) h.und k.und (by omega) (by omega))) (lawlow_spec d2 d1) rfl, ro_ok]
  have e2 : fl_add [.d (pt a b), .d (pt c d)] = .ok (.d (low (a * d + c * b) (b * d))) (keepS [.d (pt a b), .d (pt c d)] [.d (pt a b), .d (pt c d)]) := fnR_rt e
  rw [e2]
  rfl
theorem times_spec {n : Nat} (h : Pt n a b) (k : Pt n c d) (hn : n ≤ 4000) : f_times [.d (pt a b), .d (pt c d)] = .ok (.d (low (a * c) (b * d))) [.un, .un] := by
  obtain ⟨d1, d2⟩ := dens h k hn
  have e : g_times [.d (pt a b), .d (pt c d)] = .rt (.d (low (a * c) (b * d))) [.d (pt a b), .d (pt c d)] := by
    unfold g_times
    rw [e_ret, call_ok (arg2 (e_mulL (ix0 rfl) (ix0 rfl) h.num k.num (by omega) (by omega)) (e_mulL (ix1 rfl) (ix1 rfl) h.und k.und (by omega) (by omega))) (lowest_spec d2 d1) rfl, ro_ok]
  have e2 : f_times [.d (pt a b), .d (pt c d)] = .ok (.d (low (a * c) (b * d))) (keepS [.d (pt a b), .d (pt c d)] [.d (pt a b), .d (pt c d)]) := fnR_rt e
  rw [e2]
  rfl
theorem lawmul_spec {n : Nat} (h : Pt n a b) (k : Pt n c d) (hn : n ≤ 4000) : fl_mul [.d (pt a b), .d (pt c d)] = .ok (.d (low (a * c) (b * d))) [.un, .un] := by
  obtain ⟨d1, d2⟩ := dens h k hn
  have e : gl_mul [.d (pt a b), .d (pt c d)] = .rt (.d (low (a * c) (b * d))) [.d (pt a b), .d (pt c d)] := by
    unfold gl_mul
    rw [e_ret, call_ok (arg2 (e_mulL (ix0 rfl) (ix0 rfl) h.num k.num (by omega) (by omega)) (e_mulL (ix1 rfl) (ix1 rfl) h.und k.und (by omega) (by omega))) (lawlow_spec d2 d1) rfl, ro_ok]
  have e2 : fl_mul [.d (pt a b), .d (pt c d)] = .ok (.d (low (a * c) (b * d))) (keepS [.d (pt a b), .d (pt c d)] [.d (pt a b), .d (pt c d)]) := fnR_rt e
  rw [e2]
  rfl
theorem below_spec : f_turned_below [.d (pt a b)] = .ok (.d (pt (-a) b)) [.un] := by
  have e : g_turned_below [.d (pt a b)] = .rt (.d (pt (-a) b)) [.d (pt a b)] := by
    unfold g_turned_below
    rw [e_ret, e_oD, tup2 (e_negI (ix0 rfl)) (ix1 rfl), rb_ok, ro_ok]
  have e2 : f_turned_below [.d (pt a b)] = .ok (.d (pt (-a) b)) (keepS [.d (pt a b)] [.d (pt a b)]) := fnR_rt e
  rw [e2]
  rfl
theorem Pt.negP {n : Nat} (h : Pt n a b) : Pt n (-a) b := ⟨h.num.neg, h.und, h.pos⟩
theorem less_spec {n : Nat} (h : Pt n a b) (k : Pt n c d) (hn : n ≤ 4000) : f_less [.d (pt a b), .d (pt c d)] = .ok (.d (low (a * d + -c * b) (b * d))) [.un, .un] := by
  have e : g_less [.d (pt a b), .d (pt c d)] = .rt (.d (low (a * d + -c * b) (b * d))) [.d (pt a b), .d (pt c d)] := by
    unfold g_less
    rw [e_ret, call_ok (arg2 (e_var (d := pt a b) rfl) (F_d (call_ok (arg1 (e_var (d := pt c d) rfl)) below_spec rfl) rfl)) (plus_spec h k.negP hn) rfl, ro_ok]
  have e2 : f_less [.d (pt a b), .d (pt c d)] = .ok (.d (low (a * d + -c * b) (b * d))) (keepS [.d (pt a b), .d (pt c d)] [.d (pt a b), .d (pt c d)]) := fnR_rt e
  rw [e2]
  rfl
def badPart : Exc := ⟨"BadPart", [("word", .str "badpart")]⟩
end
end DL
set_option Elab.async false
set_option linter.all false
set_option maxRecDepth 100000
set_option maxHeartbeats 4000000
/-! DL22: drawn parts; what laws do over and over -/
namespace DL
open PySem PySem.Spec L2
open PyProof.Rows hiding St

instance {n : Nat} {x : Int} : Decidable (Lg n x) := inferInstanceAs (Decidable (x.natAbs < 2 ^ n))
/-! ### lowest parts -/
end DL
set_option Elab.async false
set_option linter.all false
set_option maxRecDepth 100000
set_option maxHeartbeats 4000000
/-! DL23: min(texts, default=..) -/
namespace DL
open PySem PySem.Spec L2
open PyProof.Rows hiding St
open PySem.W
open Evl (Ex ex_l ex_t ex_rd)

def minS (y : Str) (r : List Str) : Str := r.foldl (fun a y => if dataLt (.str y) (.str a) then y else a) y
def rMinS (K : PySem.W.Frag) : List V → List V → Hp → VK → Prop := fun vs zs H Q => ∃ (a : Addr) (ys : List Str) (z : V), vs = [V.ref a] ∧ zs = [z] ∧ SqL K H a (ys.map V.str) ∧ (ys = [] → Q z H) ∧ ∀ y r, ys = y :: r → Q (.str (minS y r)) H
section
variable {X : Cx}
end
def mMinS (f g : M D) : M D := f.bind fun x => g.bind fun z s => match x with
  | .list xs => match strsD xs with
    | some [] => .ok z s
    | some (y :: r) => .ok (.str (minS y r)) s
    | none => .bad
  | _ => .bad
section
variable {X : Cx} {T : List (Addr × Str)} {B : Addr} {W : WX}
end
end DL
set_option Elab.async false
set_option linter.all false
set_option maxRecDepth 100000
set_option maxHeartbeats 4000000
/-! DL24: least words cut in two -/
namespace DL
open PySem PySem.Spec L2
open PyProof.Rows hiding St

/-- least: less than all its ends -/
def Lst (l : List Nat) : Prop := l ≠ [] ∧ ∀ k, 1 ≤ k → k < l.length → l < l.drop k
theorem leastB_iff {l : List Nat} : leastB l = true ↔ Lst l := by
  unfold leastB Lst
  rw [Bool.and_eq_true, List.all_eq_true]
  simp only [List.mem_range, decide_eq_true_eq, Bool.not_eq_true', List.isEmpty_eq_false_iff]
  refine and_congr Iff.rfl ⟨fun h k h1 h2 => ?_, fun h i hi => h (1 + i) (by omega) (by omega)⟩
  have := h (k - 1) (by omega)
  rw [show 1 + (k - 1) = k by omega] at this
  exact this
theorem lt_tra : ∀ {a b c : List Nat}, a < b → b < c → a < c
  | [], _, [], _, h => by cases h
  | [], _, _ :: _, _, _ => .nil
  | _ :: _, [], _, h, _ => by cases h
  | _ :: _, _ :: _, [], _, h => by cases h
  | a :: l, b :: m, c :: n, h, k => by
    cases h with
    | cons h =>
      cases k with
      | cons k => exact .cons (lt_tra h k)
      | rel k => exact .rel k
    | rel h =>
      cases k with
      | cons k => exact .rel h
      | rel k => exact .rel (Nat.lt_trans h k)
/-- among the first n places from 1 on there is one whose end is least of all -/
theorem arg_min (l : List Nat) : ∀ n, 1 ≤ n → n < l.length → ∃ k, 1 ≤ k ∧ k ≤ n ∧ ∀ j, 1 ≤ j → j ≤ n → j ≠ k → l.drop k < l.drop j
  | 0, h, _ => by omega
  | 1, _, _ => ⟨1, by omega, by omega, fun j h1 h2 h3 => by omega⟩
  | n + 2, _, hl => by
    obtain ⟨k, h1, h2, h3⟩ := arg_min l (n + 1) (by omega) (by omega)
    rcases lt_tri (l.drop k) (l.drop (n + 2)) with e | e | e
    · refine ⟨k, h1, by omega, fun j k1 k2 k3 => ?_⟩
      by_cases hj : j = n + 2
      · rw [hj]
        exact e
      · exact h3 j k1 (by omega) k3
    · have := congrArg List.length e
      simp at this
      omega
    · refine ⟨n + 2, by omega, by omega, fun j k1 k2 k3 => ?_⟩
      by_cases hj : j = k
      · rw [hj]
        exact e
      · exact lt_tra e (h3 j k1 (by omega) hj)
/-- the longest proper end that is least is the least of all proper ends -/
theorem end_min {l : List Nat} {k : Nat} (h1 : 1 ≤ k) (h2 : k < l.length) (hk : Lst (l.drop k)) (hm : ∀ j, 1 ≤ j → j < k → ¬ Lst (l.drop j)) : ∀ j, 1 ≤ j → j < l.length → j ≠ k → l.drop k < l.drop j := by
  obtain ⟨m, m1, m2, m3⟩ := arg_min l (l.length - 1) (by omega) (by omega)
  have hL : Lst (l.drop m) := by
    refine ⟨fun z => ?_, fun i i1 i2 => ?_⟩
    · have := congrArg List.length z
      simp at this
      omega
    · rw [List.drop_drop]
      rw [List.length_drop] at i2
      exact m3 (m + i) (by omega) (by omega) (by omega)
  have e : m = k := by
    rcases Nat.lt_trichotomy m k with q | q | q
    · exact absurd hL (hm m m1 q)
    · exact q
    · exfalso
      have a := hk.2 (m - k) (by omega) (by rw [List.length_drop]; omega)
      rw [List.drop_drop, show k + (m - k) = m by omega] at a
      exact lt_asy a (m3 k h1 (by omega) (by omega))
  subst e
  exact fun j j1 j2 j3 => m3 j j1 (by omega) j3
/-- what stands ahead of it is least, too -/
theorem head_least {l : List Nat} {k : Nat} (hl : Lst l) (h1 : 1 ≤ k) (h2 : k < l.length) (hk : Lst (l.drop k)) (hm : ∀ j, 1 ≤ j → j < k → ¬ Lst (l.drop j)) : Lst (l.take k) := by
  have mn := end_min h1 h2 hk hm
  have lt : (l.take k).length = k := by rw [List.length_take]; omega
  refine ⟨fun z => ?_, fun i i1 i2 => ?_⟩
  · rw [z] at lt
    simp at lt
    omega
  rw [lt] at i2
  have w : l.take k ++ l.drop k = l := List.take_append_drop k l
  have tv : l.drop i = (l.take k).drop i ++ l.drop k := by
    rw [← List.drop_append_of_le_length (by omega), w]
  have hw := hl.2 i i1 (by omega)
  rcases lt_tri (l.take k) ((l.take k).drop i) with e | e | e
  · exact e
  · have := congrArg List.length e
    rw [List.length_drop, lt] at this
    omega
  · exfalso
    rcases lt_pre e with ⟨r, er⟩ | q
    · have lr : r.length = i := by
        have := congrArg List.length er
        rw [List.length_append, List.length_drop, lt] at this
        omega
      have hw2 : (l.take k).drop i ++ (r ++ l.drop k) < (l.take k).drop i ++ l.drop k := by
        rw [← List.append_assoc, ← er, w, ← tv]
        exact hw
      have a := lt_same _ hw2
      have dr : l.drop (k - i) = r ++ l.drop k := by
        have d1 : (l.take k).drop (k - i) = r := by
          have hz : ((l.take k).drop i).length = k - i := by rw [List.length_drop, lt]
          have : (l.take k).drop (k - i) = ((l.take k).drop i ++ r).drop (k - i) := by rw [← er]
          rw [this, List.drop_append_of_le_length (by omega), List.drop_of_length_le (by omega)]
          rfl
        rw [← d1, ← List.drop_append_of_le_length (by omega), w]
      rw [← dr] at a
      exact lt_asy a (mn (k - i) (by omega) (by omega) (by omega))
    · have := q (l.drop k) (l.drop k)
      rw [← tv, w] at this
      exact lt_asy hw this
end DL
set_option Elab.async false
set_option linter.all false
set_option maxRecDepth 100000
set_option maxHeartbeats 4000000
/-! DL25: ends of words, their least place -/
namespace DL
open PySem PySem.Spec L2
open PyProof.Rows hiding St

/-- the places whose ends are least -/
def endIx (l : List Nat) : List Nat := (List.range (l.length - 1)).filter fun i => leastB (l.drop (1 + i))
theorem end_ix {l : List Nat} (h : 2 ≤ l.length) : ∃ i r, endIx l = i :: r ∧ 1 + i < l.length ∧ Lst (l.drop (1 + i)) ∧ (∀ j, 1 ≤ j → j < 1 + i → ¬ Lst (l.drop j)) ∧ ∀ j ∈ r, i < j := by
  have mem : ∀ j, j ∈ endIx l ↔ j < l.length - 1 ∧ Lst (l.drop (1 + j)) := fun j => by
    unfold endIx
    rw [List.mem_filter, List.mem_range, leastB_iff]
  have last : l.length - 2 ∈ endIx l := by
    rw [mem]
    refine ⟨by omega, fun z => ?_, fun k h1 h2 => ?_⟩
    · have := congrArg List.length z
      simp at this
      omega
    · rw [List.length_drop] at h2
      omega
  have srt : (endIx l).Pairwise (· < ·) := List.Pairwise.filter _ List.pairwise_lt_range
  cases e : endIx l with
  | nil => rw [e] at last; cases last
  | cons i r =>
    rw [e] at srt
    have hs := (List.pairwise_cons.mp srt).1
    obtain ⟨m1, m2⟩ := (mem i).mp (by rw [e]; exact List.mem_cons_self)
    refine ⟨i, r, rfl, by omega, m2, fun j j1 j2 hj => ?_, hs⟩
    have hm : j - 1 ∈ endIx l := (mem (j - 1)).mpr ⟨by omega, by rw [show 1 + (j - 1) = j by omega]; exact hj⟩
    rw [e] at hm
    rcases List.mem_cons.mp hm with q | q
    · omega
    · have := hs _ q
      omega
def endD (l : List Nat) : D → Bool
  | .int i => leastB (l.drop i.toNat)
  | _ => false
theorem intsD_map : ∀ r : List Nat, intsD (r.map fun (i : Nat) => .int (1 + (i : Int))) = some (r.map fun (i : Nat) => 1 + (i : Int))
  | [] => rfl
  | i :: r => by simp [intsD, intsD_map r]
theorem foldl_min : ∀ (r : List Int) (x : Int), (∀ y ∈ r, x < y) → r.foldl min x = x
  | [], _, _ => rfl
  | y :: r, x, h => by
    have h1 := h y List.mem_cons_self
    rw [List.foldl_cons, show min x y = x by omega]
    exact foldl_min r x fun z hz => h z (List.mem_cons_of_mem _ hz)
theorem d_minEnds {l : List Nat} {i : Nat} {r : List Nat} (e : endIx l = i :: r) (h : ∀ j ∈ r, i < j) : dMin [.list ((endIx l).map fun (i : Nat) => PyData.int (1 + (i : Int)))] = some (.int (1 + (i : Int))) := by
  show ((intsD _).bind minI).map _ = _
  rw [intsD_map, e]
  show some (PyData.int ((r.map fun (i : Nat) => 1 + (i : Int)).foldl min (1 + (i : Int)))) = _
  rw [foldl_min _ _ fun y hy => by
    obtain ⟨j, hj, rfl⟩ := List.mem_map.mp hy
    have := h j hj
    omega]
end DL
set_option Elab.async false
set_option linter.all false
set_option maxRecDepth 100000
set_option maxHeartbeats 4000000
/-! DL26: readings reckoned by what is wanted behind them; the rules are rewritings -/
namespace DL
open PySem PySem.Spec L2
open PyProof.Rows hiding St

/-- rewriting does not go into what stands behind -/
structure Kt {A : Type} (a : A) : Type where mk ::
def WQ {α : Type} (r : Res α) (Q : α → S → Prop) (X : Exc → S → Prop) (_ : Kt (Q, X) := ⟨⟩) : Prop := match r with
  | .ok a s => Q a s
  | .ex c s => X c s
  | .bad => False
def WO (o : Out) (N : S → Prop) (R : SV → S → Prop) (B C : S → Prop) (X : Exc → S → Prop) (_ : Kt (N, R, B, C, X) := ⟨⟩) : Prop := match o with
  | .nx s => N s
  | .rt v s => R v s
  | .bk s => B s
  | .ct s => C s
  | .ex c s => X c s
  | .bad => False
/-- what an operation on data gives -/
def WL {α : Type} (o : Option α) (Q : α → Prop) (_ : Kt Q := ⟨⟩) : Prop := match o with
  | some a => Q a
  | none => False
/-- what a def called gives -/
def WF (r : Res SV) (Q : SV → S → Prop) (X : Exc → S → Prop) (_ : Kt (Q, X) := ⟨⟩) : Prop := match r with
  | .ok v as => v.rf = false ∧ Q v as
  | .ex c as => X c as
  | .bad => False
def WV (o : Option SV) (i : Nat) (s : S) (Q : D → S → Prop) (_ : Kt Q := ⟨⟩) : Prop := match o with
  | some (.d x) => Q x s
  | some (.ol _ xs) => Q (.list xs) (s.set i (.d (.list xs)))
  | some (.od _ ks xs) => Q (.dict ((ks.map kD).zip xs)) (s.set i (.d (.dict ((ks.map kD).zip xs))))
  | some (.fd _ ks xs) => Q (.dict ((ks.map kT).zip xs)) (s.set i (.d (.dict ((ks.map kT).zip xs))))
  | _ => False
def WB (b : Bool) (P Q : Unit → Prop) (_ : Kt (P, Q) := ⟨⟩) : Prop := if b = true then P () else Q ()

section
variable {α β γ : Type} {Q : α → S → Prop} {Qd : D → S → Prop} {Qv : SV → S → Prop} {X : Exc → S → Prop} {N : S → Prop} {R : SV → S → Prop} {B C : S → Prop} {s : S}
theorem wx_ext {r : Res α} {Q Q' : α → S → Prop} (h : ∀ a s, Q a s = Q' a s) : WQ r Q X = WQ r Q' X := by rw [show Q = Q' from funext fun a => funext fun s => h a s]
theorem wl_ext {o : Option α} {Q Q' : α → Prop} (h : ∀ a, Q a = Q' a) : WL o Q = WL o Q' := by rw [show Q = Q' from funext h]
theorem wl_some {a : α} {Q : α → Prop} : WL (some a) Q = Q a := rfl
theorem wx_ok {a : α} : WQ (.ok a s) Q X = Q a s := rfl
theorem wx_ex {c : Exc} : WQ (.ex c s) Q X = X c s := rfl
theorem wo_nx : WO (.nx s) N R B C X = N s := rfl
theorem wo_rt {v : SV} : WO (.rt v s) N R B C X = R v s := rfl
theorem wo_bk : WO (.bk s) N R B C X = B s := rfl
theorem wo_ct : WO (.ct s) N R B C X = C s := rfl
theorem wo_ex {c : Exc} : WO (.ex c s) N R B C X = X c s := rfl
theorem wf_ok {v : SV} (h : v.rf = false) : WF (.ok v s) Qv X = Qv v s := by
  show (v.rf = false ∧ Qv v s) = _
  rw [h]
  simp
theorem wf_okD {d : D} : WF (.ok (.d d) s) Qv X = Qv (.d d) s := wf_ok rfl
theorem wf_okL {xs : List D} : WF (.ok (.ol false xs) s) Qv X = Qv (.ol false xs) s := wf_ok rfl
theorem wf_okM {ks : List Key} {xs : List D} : WF (.ok (.od false ks xs) s) Qv X = Qv (.od false ks xs) s := wf_ok rfl
theorem wf_okT {ks : List (List Key)} {xs : List D} : WF (.ok (.fd false ks xs) s) Qv X = Qv (.fd false ks xs) s := wf_ok rfl
theorem wf_ex {c : Exc} : WF (.ex c s) Qv X = X c s := rfl
theorem wv_d {i : Nat} {x : D} : WV (some (.d x)) i s Qd = Qd x s := rfl
theorem wv_ol {i : Nat} {r : Bool} {xs : List D} : WV (some (.ol r xs)) i s Qd = Qd (.list xs) (s.set i (.d (.list xs))) := rfl
theorem wv_od {i : Nat} {r : Bool} {ks : List Key} {xs : List D} : WV (some (.od r ks xs)) i s Qd = Qd (.dict ((ks.map kD).zip xs)) (s.set i (.d (.dict ((ks.map kD).zip xs)))) := rfl
theorem wv_fd {i : Nat} {r : Bool} {ks : List (List Key)} {xs : List D} : WV (some (.fd r ks xs)) i s Qd = Qd (.dict ((ks.map kT).zip xs)) (s.set i (.d (.dict ((ks.map kT).zip xs)))) := rfl
theorem wb_t {P Q : Unit → Prop} : WB true P Q = P () := rfl
theorem wb_f {P Q : Unit → Prop} : WB false P Q = Q () := rfl
theorem wb_by {p : Prop} [Decidable p] {P Q : Unit → Prop} (h1 : p → P ()) (h2 : ¬ p → Q ()) : WB (decide p) P Q := by
  unfold WB
  by_cases h : p
  · simpa [h] using h1 h
  · simpa [h] using h2 h
theorem wb_byN {p : Prop} [Decidable p] {P Q : Unit → Prop} (h1 : ¬ p → P ()) (h2 : p → Q ()) : WB (!decide p) P Q := by
  unfold WB
  by_cases h : p
  · simpa [h] using h2 h
  · simpa [h] using h1 h
theorem wb_cases {b : Bool} {P Q : Unit → Prop} (h1 : b = true → P ()) (h2 : b = false → Q ()) : WB b P Q := by
  cases b
  · exact h2 rfl
  · exact h1 rfl

theorem wx_bind {r : Res β} {k : β → S → Res α} : WQ (r.bind k) Q X = WQ r (fun a s => WQ (k a s) Q X) X := by cases r <;> rfl
theorem wx_mbind {f : M β} {k : β → M α} : WQ (f.bind k s) Q X = WQ (f s) (fun a s => WQ (k a s) Q X) X := wx_bind
theorem wx_lift {g : β → Option α} {a : β} : WQ (lift g a s) Q X = WL (g a) (fun b => Q b s) := by
  unfold lift
  cases g a <;> rfl
theorem wx_op {g : β → γ → Option α} {fa : M β} {fb : M γ} : WQ (mOp g fa fb s) Q X = WQ (fa s) (fun x s1 => WQ (fb s1) (fun y s2 => WL (g x y) fun z => Q z s2) X) X := by
  unfold mOp
  rw [wx_mbind]
  refine wx_ext fun x s1 => ?_
  rw [wx_mbind]
  refine wx_ext fun y s2 => ?_
  exact wx_lift
theorem wx_un {g : β → Option α} {fa : M β} : WQ (mUn g fa s) Q X = WQ (fa s) (fun x s1 => WL (g x) fun z => Q z s1) X := by
  unfold mUn
  rw [wx_mbind]
  refine wx_ext fun x s1 => ?_
  exact wx_lift
theorem wx_C {d : D} : WQ (mC d s) Qd X = Qd d s := rfl
theorem wx_ret {a : α} : WQ (M.ret a s) Q X = Q a s := rfl
theorem wx_var {i : Nat} : WQ (mVar i s) Qd X = WV (s[i]?) i s Qd := by
  unfold mVar WV
  cases s[i]? with
  | none => rfl
  | some y => cases y <;> rfl
theorem wx_nil {Q : List D → S → Prop} : WQ (mNil s) Q X = Q [] s := rfl
theorem wx_cons {f : M D} {g : M (List D)} {Q : List D → S → Prop} : WQ (mCons f g s) Q X = WQ (f s) (fun x s1 => WQ (g s1) (fun xs s2 => Q (x :: xs) s2) X) X := by
  unfold mCons
  rw [wx_mbind]
  refine wx_ext fun x s1 => ?_
  rw [wx_mbind]
  rfl
theorem wx_tru {f : M D} {Q : Bool → S → Prop} : WQ (mTru f s) Q X = WQ (f s) (fun x s1 => WL (dTru x) fun z => Q z s1) X := wx_un
theorem wx_not {f : M Bool} {Q : Bool → S → Prop} : WQ (mNot f s) Q X = WQ (f s) (fun b s1 => Q (!b) s1) X := wx_mbind
theorem wx_and {f g : M Bool} {Q : Bool → S → Prop} : WQ (mAnd f g s) Q X = WQ (f s) (fun b s1 => WB b (fun _ => WQ (g s1) Q X) (fun _ => Q false s1)) X := by
  unfold mAnd
  rw [wx_mbind]
  refine wx_ext fun b s1 => ?_
  cases b <;> rfl
theorem wx_or {f g : M Bool} {Q : Bool → S → Prop} : WQ (mOr f g s) Q X = WQ (f s) (fun b s1 => WB b (fun _ => Q true s1) (fun _ => WQ (g s1) Q X)) X := by
  unfold mOr
  rw [wx_mbind]
  refine wx_ext fun b s1 => ?_
  cases b <;> rfl
def WT (d : D) (P Q : Unit → Prop) (_ : Kt (P, Q) := ⟨⟩) : Prop := match d with
  | .bool true => P ()
  | .bool false => Q ()
  | _ => False
theorem wt_b {b : Bool} {P Q : Unit → Prop} : WT (.bool b) P Q = WB b P Q := by cases b <;> rfl
theorem wx_andV {f g : M D} : WQ (mAndV f g s) Qd X = WQ (f s) (fun d s1 => WT d (fun _ => WQ (g s1) Qd X) (fun _ => Qd (.bool false) s1)) X := by
  unfold mAndV
  rw [wx_mbind]
  refine wx_ext fun b s1 => ?_
  cases b with
  | bool v => cases v <;> rfl
  | _ => rfl
theorem wx_orV {f g : M D} : WQ (mOrV f g s) Qd X = WQ (f s) (fun d s1 => WT d (fun _ => Qd (.bool true) s1) (fun _ => WQ (g s1) Qd X)) X := by
  unfold mOrV
  rw [wx_mbind]
  refine wx_ext fun b s1 => ?_
  cases b with
  | bool v => cases v <;> rfl
  | _ => rfl
theorem wx_notV {f : M D} : WQ (mNotV f s) Qd X = WQ (f s) (fun x s1 => WL ((asB x).map fun b => (.bool (!b) : D)) fun z => Qd z s1) X := wx_un
theorem wx_if {t : M Bool} {f g : M α} : WQ (mIf t f g s) Q X = WQ (t s) (fun b s1 => WB b (fun _ => WQ (f s1) Q X) (fun _ => WQ (g s1) Q X)) X := by
  unfold mIf
  rw [wx_mbind]
  refine wx_ext fun b s1 => ?_
  cases b <;> rfl
theorem wx_chain {g g' : D → D → Option D} {fa fb fc : M D} : WQ (mChain g g' fa fb fc s) Qd X = WQ (fa s) (fun x s1 => WQ (fb s1) (fun y s2 => WL (g x y) fun d => WT d (fun _ => WQ (fc s2) (fun z s3 => WL (g' y z) fun d => Qd d s3) X) (fun _ => Qd (.bool false) s2)) X) X := by
  unfold mChain
  rw [wx_mbind]
  refine wx_ext fun x s1 => ?_
  rw [wx_mbind]
  refine wx_ext fun y s2 => ?_
  rw [wx_mbind, wx_lift]
  refine wl_ext fun d => ?_
  cases d with
  | bool v =>
    cases v with
    | true =>
      show WQ (M.bind fc _ s2) _ _ = WQ _ _ _
      rw [wx_mbind]
      refine wx_ext fun z s3 => ?_
      exact wx_lift
    | false => rfl
  | _ => rfl
/-- lists, tuples -/
def lenOk {α : Type} (xs : List α) : Prop := xs.length ≤ lim
theorem wl_if {c : Prop} [Decidable c] {a : α} {Q : α → Prop} : WL (if c then some a else none) Q = (c ∧ Q a) := by
  by_cases h : c
  · rw [if_pos h]
    simp [h, WL]
  · rw [if_neg h]
    simp [h, WL]
theorem wx_tup {f : M (List D)} : WQ (mTup f s) Qd X = WQ (f s) (fun xs s1 => xs.length ≤ lim ∧ Qd (.tuple xs) s1) X := by
  unfold mTup
  rw [wx_un]
  refine wx_ext fun xs s1 => ?_
  exact wl_if
theorem wx_lst {f : M (List D)} : WQ (mLst f s) Qd X = WQ (f s) (fun xs s1 => xs.length ≤ lim ∧ Qd (.list xs) s1) X := by
  unfold mLst
  rw [wx_un]
  refine wx_ext fun xs s1 => ?_
  exact wl_if
theorem wx_olst {f : M (List D)} : WQ (oLst f s) Qv X = WQ (f s) (fun xs s1 => xs.length ≤ lim ∧ Qv (.ol false xs) s1) X := by
  unfold oLst
  rw [wx_un]
  refine wx_ext fun xs s1 => ?_
  exact wl_if
theorem wx_oD {f : M D} : WQ (oD f s) Qv X = WQ (f s) (fun d s1 => Qv (.d d) s1) X := wx_un
theorem wx_F {f : M SV} : WQ (mF f s) Qd X = WQ (f s) (fun v s1 => WL v.dat fun d => Qd d s1) X := wx_un
theorem wx_list {f : M D} : WQ (oList f s) Qv X = WQ (f s) (fun d s1 => WL (items d) fun xs => Qv (.ol false xs) s1) X := by
  unfold oList
  rw [wx_un]
  refine wx_ext fun d s1 => ?_
  cases items d <;> rfl
theorem wx_nop {Q : Option Int → S → Prop} : WQ (mNoP s) Q X = Q none s := rfl
theorem wx_p {f : M D} {Q : Option Int → S → Prop} : WQ (mP f s) Q X = WQ (f s) (fun d s1 => WL (match d with | .int i => some (some i) | _ => none) fun o => Q o s1) X := wx_un
theorem wx_sl {f : M D} {fl fh : M (Option Int)} : WQ (oSl f fl fh s) Qv X = WQ (f s) (fun d s1 => WQ (fl s1) (fun lo s2 => WQ (fh s2) (fun hi s3 => WL (dCut lo hi d) fun v => Qv v s3) X) X) X := by
  unfold oSl
  rw [wx_mbind]
  refine wx_ext fun d s1 => ?_
  rw [wx_mbind]
  refine wx_ext fun lo s2 => ?_
  rw [wx_mbind]
  refine wx_ext fun hi s3 => ?_
  exact wx_lift
/-- calls -/
theorem wx_call {f : S → Res SV} {dds : List D} {fa : M (List D)} : WQ (oCall f dds fa s) Qv X = WQ (fa s) (fun ds s1 => WF (f ((ds ++ dds).map .d)) (fun rv _ => Qv rv s1) (fun c _ => X c s1)) X := by
  unfold oCall oCallK
  rw [wx_bind]
  refine wx_ext fun ds s1 => ?_
  cases f ((ds ++ dds).map .d) with
  | ok v as =>
    show WQ (if v.rf = true then _ else _) _ _ = (v.rf = false ∧ _)
    cases v.rf with
    | true => simp [WQ]
    | false => simp [WQ]
  | ex c as => rfl
  | bad => rfl
theorem wx_callW {f : S → Res SV} {ix : List Nat} {dds : List D} {fa fk : M (List D)} : WQ (oCallW f ix dds fa fk s) Qv X = WQ (fa s) (fun ds s1 => WQ (fk s1) (fun zs s2 => WF (f ((pickL ix (ds ++ zs ++ dds)).map .d)) (fun rv _ => Qv rv s2) (fun c _ => X c s2)) X) X := by
  unfold oCallW
  rw [wx_bind]
  refine wx_ext fun ds s1 => ?_
  rw [wx_bind]
  refine wx_ext fun zs s2 => ?_
  cases f ((pickL ix (ds ++ zs ++ dds)).map .d) with
  | ok v as =>
    show WQ (if v.rf = true then _ else _) _ _ = (v.rf = false ∧ _)
    cases v.rf with
    | true => simp [WQ]
    | false => simp [WQ]
  | ex c as => rfl
  | bad => rfl
/-- what is handed in to be changed -/
def WH (o : Option SV) (P : Unit → Prop) (_ : Kt P := ⟨⟩) : Prop := match o with
  | some .un => False
  | none => False
  | _ => P ()
theorem wh_d {x : D} {P : Unit → Prop} : WH (some (.d x)) P = P () := rfl
theorem wh_ol {r : Bool} {xs : List D} {P : Unit → Prop} : WH (some (.ol r xs)) P = P () := rfl
theorem wh_od {r : Bool} {ks : List Key} {xs : List D} {P : Unit → Prop} : WH (some (.od r ks xs)) P = P () := rfl
theorem wh_ext {o : Option SV} {P P' : Unit → Prop} (h : P () = P' ()) : WH o P = WH o P' := by rw [show P = P' from funext fun _ => h]
theorem wh_fd {r : Bool} {ks : List (List Key)} {xs : List D} {P : Unit → Prop} : WH (some (.fd r ks xs)) P = P () := rfl
theorem has_wh {i : Nat} {r : Res α} : WQ (if hasV i s = true then r else .bad) Q X = WH (s[i]?) (fun _ => WQ r Q X) := by
  unfold hasV WH
  split <;> simp_all [WQ]
def WR (o : Option SV) (f : S → Res SV) (as : S) (Q : SV → SV → Prop) (X : Exc → SV → Prop) (_ : Kt (f, Q, X) := ⟨⟩) : Prop := match o with
  | none => False
  | some x => match x.toRef with
    | none => False
    | some x' => match f (x' :: as) with
      | .ok rv (y :: _) => rv.rf = false ∧ Q rv (x.back y)
      | .ex c (y :: _) => X c (x.back y)
      | _ => False
theorem wx_callR {i : Nat} {f : S → Res SV} {dds : List D} {fa : M (List D)} : WQ (oCallR i f dds fa s) Qv X = WH (s[i]?) (fun _ => WQ (fa s) (fun ds s1 => WR (s1[i]?) f ((ds ++ dds).map .d) (fun rv y => Qv rv (s1.set i y)) (fun c y => X c (s1.set i y))) X) := by
  unfold oCallR
  rw [has_wh]
  refine wh_ext ?_
  rw [wx_bind]
  refine wx_ext fun ds s1 => ?_
  unfold WR
  cases s1[i]? with
  | none => rfl
  | some x =>
    simp only
    cases x.toRef with
    | none => rfl
    | some x' =>
      simp only
      cases f (x' :: (ds ++ dds).map .d) with
      | bad => rfl
      | ok rv as =>
        cases as with
        | nil => rfl
        | cons y ys =>
          simp only
          cases rv.rf <;> simp [WQ]
      | ex c as =>
        cases as with
        | nil => rfl
        | cons y ys => rfl
/-- own things -/
theorem wx_pix {i : Nat} {fe : M D} : WQ (mPix i fe s) Qd X = WH (s[i]?) (fun _ => WQ (fe s) (fun k s1 => WL ((s1[i]?).bind fun x => ixV x k) fun d => Qd d s1) X) := by
  unfold mPix
  rw [has_wh]
  refine wh_ext ?_
  rw [wx_bind]
  refine wx_ext fun k s1 => ?_
  cases s1[i]? with
  | none => rfl
  | some x => exact wx_lift
theorem wx_plen {i : Nat} : WQ (mPlen i s) Qd X = WL ((s[i]?).bind lenV) fun d => Qd d s := by
  unfold mPlen
  cases s[i]? with
  | none => rfl
  | some x =>
    show WQ (match lenV x with | some d => .ok d s | none => .bad) _ _ = WL (lenV x) _
    cases lenV x <;> rfl
theorem wx_din {neg : Bool} {i : Nat} {f : M D} : WQ (mDin neg i f s) Qd X = WQ (f s) (fun k s1 => WL ((s1[i]?).bind fun x => lookV x k) fun o => Qd (.bool (if neg then !o.isSome else o.isSome)) s1) X := by
  unfold mDin
  rw [wx_mbind]
  refine wx_ext fun k s1 => ?_
  cases s1[i]? with
  | none => rfl
  | some x =>
    simp only [Option.bind_some]
    cases lookV x k <;> rfl
theorem wx_dget2 {i : Nat} {f g : M D} : WQ (mDget2 i f g s) Qd X = WL ((s[i]?).bind fun x => if x.isD = true then some () else none) fun _ => WQ (f s) (fun k s1 => WQ (g s1) (fun z s2 => WL ((s2[i]?).bind fun x => lookV x k) fun o => Qd (o.getD z) s2) X) X := by
  unfold mDget2
  cases s[i]? with
  | none => rfl
  | some x =>
    simp only [Option.bind_some]
    by_cases h : x.isD = true
    · rw [if_pos h, if_pos h]
      show WQ (Res.bind _ _) _ _ = WQ _ _ _
      rw [wx_bind]
      refine wx_ext fun k s1 => ?_
      rw [wx_bind]
      refine wx_ext fun z s2 => ?_
      cases s2[i]? with
      | none => rfl
      | some x =>
        simp only [Option.bind_some]
        cases lookV x k <;> rfl
    · rw [if_neg h, if_neg h]
      rfl
def WM (o : Option SV) (i : Nat) (s : S) (Q : SV → S → Prop) (_ : Kt Q := ⟨⟩) : Prop := match o with
  | some (.d x) => Q (.d x) s
  | some (.ol false xs) => Q (.ol false xs) (s.set i .un)
  | some (.od false ks xs) => Q (.od false ks xs) (s.set i .un)
  | some (.fd false ks xs) => Q (.fd false ks xs) (s.set i .un)
  | some (.sp false z) => Q (.sp false z) (s.set i .un)
  | some (.fv x) => Q (.fv x) s
  | _ => False
theorem wx_move {i : Nat} : WQ (oMove i s) Qv X = WM (s[i]?) i s Qv := by
  unfold oMove WM
  cases s[i]? with
  | none => rfl
  | some y =>
    cases y with
    | ol r xs => cases r <;> rfl
    | od r ks xs => cases r <;> rfl
    | fd r ks xs => cases r <;> rfl
    | sp r z => cases r <;> rfl
    | _ => rfl
theorem wm_d {i : Nat} {x : D} : WM (some (.d x)) i s Qv = Qv (.d x) s := rfl
theorem wm_ol {i : Nat} {xs : List D} : WM (some (.ol false xs)) i s Qv = Qv (.ol false xs) (s.set i .un) := rfl
theorem wm_fd {i : Nat} {ks : List (List Key)} {xs : List D} : WM (some (.fd false ks xs)) i s Qv = Qv (.fd false ks xs) (s.set i .un) := rfl
theorem wm_sp {i : Nat} {z : Bx} : WM (some (.sp false z)) i s Qv = Qv (.sp false z) (s.set i .un) := rfl
theorem wm_fv {i : Nat} {x : Str} : WM (some (.fv x)) i s Qv = Qv (.fv x) s := rfl
theorem wm_od {i : Nat} {ks : List Key} {xs : List D} : WM (some (.od false ks xs)) i s Qv = Qv (.od false ks xs) (s.set i .un) := rfl
theorem wx_why {told no : Str} {pk : Pk} {fb : M D} : WQ (mWhy told no pk fb s) Qd X = WQ (fb s) (fun d s1 => Qd (.tuple [.str told, d]) s1) (fun c s1 => WL ((pk c.cls).bind (fldsD c.fs)) fun ds => Qd (.tuple (.str no :: ds)) s1) := by
  unfold mWhy
  cases fb s with
  | ok d s1 => rfl
  | bad => rfl
  | ex c s1 =>
    show WQ (match (pk c.cls).bind (fldsD c.fs) with | some ds => _ | none => _) _ _ = WL _ _
    cases (pk c.cls).bind (fldsD c.fs) <;> rfl
/-! statements -/
theorem wo_seq {g1 g2 : S → Out} : WO (gSeq g1 g2 s) N R B C X = WO (g1 s) (fun s1 => WO (g2 s1) N R B C X) R B C X := by
  unfold gSeq
  cases g1 s <;> rfl
theorem wo_nil : WO (gNil s) N R B C X = N s := rfl
theorem wo_out {r : Res α} {k : α → S → Out} : WO (r.out k) N R B C X = WQ r (fun a s1 => WO (k a s1) N R B C X) X := by cases r <;> rfl
theorem wo_set {i : Nat} {f : M D} : WO (gSet i f s) N R B C X = WQ (f s) (fun d s1 => N (s1.set i (.d d))) X := wo_out
theorem wo_setO {i : Nat} {f : M SV} : WO (gSetO i f s) N R B C X = WQ (f s) (fun x s1 => N (s1.set i x)) X := wo_out
theorem wo_ret {f : M SV} : WO (gRet f s) N R B C X = WQ (f s) (fun x s1 => R x s1) X := wo_out
theorem wo_if {t : M Bool} {g1 g2 : S → Out} : WO (gIf t g1 g2 s) N R B C X = WQ (t s) (fun b s1 => WB b (fun _ => WO (g1 s1) N R B C X) (fun _ => WO (g2 s1) N R B C X)) X := by
  unfold gIf
  rw [wo_out]
  refine wx_ext fun b s1 => ?_
  cases b <;> rfl
theorem wo_drop {f : M D} : WO (gDrop f s) N R B C X = WQ (f s) (fun _ s1 => N s1) X := wo_out
theorem wo_asg {f : M D} {tgt : D → S → Option S} : WO (gAsg f tgt s) N R B C X = WQ (f s) (fun d s1 => WL (tgt d s1) N) X := by
  unfold gAsg
  rw [wo_out]
  refine wx_ext fun d s1 => ?_
  cases tgt d s1 <;> rfl
theorem wo_par {i j : Nat} {f : M (List D)} : WO (gPar i j f s) N R B C X = WQ (f s) (fun ds s1 => WL (match ds with | [a, b] => some (a, b) | _ => none) fun p => N ((s1.set i (.d p.1)).set j (.d p.2))) X := by
  unfold gPar
  rw [wo_out]
  refine wx_ext fun ds s1 => ?_
  match ds with
  | [] => rfl
  | [_] => rfl
  | [_, _] => rfl
  | _ :: _ :: _ :: _ => rfl
theorem wo_aug {i : Nat} {op : D → D → Option D} {f : M D} : WO (gAug i op f s) N R B C X = WL ((s[i]?).bind fun v => match v with | .d x => some x | _ => none) fun x => WQ (f s) (fun y s1 => WL (op x y) fun z => N (s1.set i (.d z))) X := by
  unfold gAug
  cases s[i]? with
  | none => rfl
  | some v =>
    cases v with
    | d x =>
      show WO (Res.out _ _) _ _ _ _ _ = WQ _ _ _
      rw [wo_out]
      refine wx_ext fun y s1 => ?_
      cases op x y <;> rfl
    | _ => rfl
theorem wo_for {fi : M (List D)} {tgt : D → S → Option S} {g : S → Out} : WO (gFor fi tgt g s) N R B C X = WQ (fi s) (fun xs s1 => WO (forL tgt g xs s1) N R B C X) X := wo_out
theorem wo_raise {cls : Str} {n : Nat} {t : Tpl} {fa : M (List D)} : WO (gRaise cls n t fa s) N R B C X = WQ (fa s) (fun ds s1 => ds.length = n ∧ X ⟨cls, mkD t ds⟩ s1) X := by
  unfold gRaise
  rw [wo_out]
  refine wx_ext fun ds s1 => ?_
  by_cases h : ds.length = n
  · rw [if_pos h]
    simp [h, WO]
  · rw [if_neg h]
    simp [h, WO]
theorem wo_app {i : Nat} {f : M D} : WO (gApp i f s) N R B C X = WL ((s[i]?).bind fun v => match v with | .ol _ _ => some () | _ => none) fun _ => WQ (f s) (fun v s1 => WL ((s1[i]?).bind fun x => match x with | .ol r xs => some (r, xs) | _ => none) fun p => p.2.length < lim ∧ N (s1.set i (.ol p.1 (p.2 ++ [v])))) X := by
  unfold gApp
  cases s[i]? with
  | none => rfl
  | some v =>
    cases v with
    | ol r xs =>
      show WO (Res.out _ _) _ _ _ _ _ = WQ _ _ _
      rw [wo_out]
      refine wx_ext fun y s1 => ?_
      cases s1[i]? with
      | none => rfl
      | some x =>
        cases x with
        | ol r2 ys =>
          show WO (if _ then _ else _) _ _ _ _ _ = (_ ∧ _)
          by_cases h : ys.length < lim
          · rw [if_pos h]
            simp [h, WO]
          · rw [if_neg h]
            simp [h, WO]
        | _ => rfl
    | _ => rfl
theorem has_wo {i : Nat} {r : Out} : WO (if hasV i s = true then r else .bad) N R B C X = WH (s[i]?) (fun _ => WO r N R B C X) := by
  unfold hasV WH
  split <;> simp_all [WO]
theorem wo_setIx {i : Nat} {fe fv : M D} : WO (gSetIx i fe fv s) N R B C X = WQ (fv s) (fun v s1 => WH (s1[i]?) (fun _ => WQ (fe s1) (fun k s2 => WL ((s2[i]?).bind fun x => setV x k v) fun y => N (s2.set i y)) X)) X := by
  unfold gSetIx
  rw [wo_out]
  refine wx_ext fun v s1 => ?_
  rw [has_wo]
  refine wh_ext ?_
  rw [wo_out]
  refine wx_ext fun k s2 => ?_
  cases s2[i]? with
  | none => rfl
  | some x =>
    simp only [Option.bind_some]
    cases setV x k v <;> rfl
end
/-! data -/
theorem ix_t0 {a : D} {r : List D} : dIx (.tuple (a :: r)) (.int 0) = some a := by
  show atI (a :: r) 0 = _
  exact atI_of (n := 0) rfl rfl
theorem ix_t1 {a b : D} {r : List D} : dIx (.tuple (a :: b :: r)) (.int 1) = some b := by
  show atI (a :: b :: r) 1 = _
  exact atI_of (n := 1) rfl rfl
theorem ix_t2 {a b c : D} {r : List D} : dIx (.tuple (a :: b :: c :: r)) (.int 2) = some c := by
  show atI (a :: b :: c :: r) 2 = _
  exact atI_of (n := 2) rfl rfl
theorem ix_l0 {a : D} {r : List D} : dIx (.list (a :: r)) (.int 0) = some a := by
  show atI (a :: r) 0 = _
  exact atI_of (n := 0) rfl rfl
theorem ix_l1 {a b : D} {r : List D} : dIx (.list (a :: b :: r)) (.int 1) = some b := by
  show atI (a :: b :: r) 1 = _
  exact atI_of (n := 1) rfl rfl
theorem ix_l2 {a b c : D} {r : List D} : dIx (.list (a :: b :: c :: r)) (.int 2) = some c := by
  show atI (a :: b :: c :: r) 2 = _
  exact atI_of (n := 2) rfl rfl
theorem d_ok0 : (([] : List D).length ≤ lim) = True := by simp
theorem d_ok1 {a : D} : ([a].length ≤ lim) = True := eq_true (show 1 ≤ lim by decide)
theorem d_ok2 {a b : D} : ([a, b].length ≤ lim) = True := eq_true (show 2 ≤ lim by decide)
theorem d_ok3 {a b c : D} : ([a, b, c].length ≤ lim) = True := eq_true (show 3 ≤ lim by decide)
theorem d_ok4 {a b c d : D} : ([a, b, c, d].length ≤ lim) = True := eq_true (show 4 ≤ lim by decide)
theorem dat_d {d : D} : (SV.d d).dat = some d := rfl
theorem dat_ol {r : Bool} {xs : List D} : (SV.ol r xs).dat = some (.list xs) := rfl
theorem dat_od {r : Bool} {ks : List Key} {xs : List D} : (SV.od r ks xs).dat = some (.dict ((ks.map kD).zip xs)) := rfl
theorem ixv_l {xs : List D} {k : D} : ixV (.d (.list xs)) k = dIx (.list xs) k := rfl
theorem ixv_t {xs : List D} {k : D} : ixV (.d (.tuple xs)) k = dIx (.tuple xs) k := rfl
theorem ixv_s {x : Str} {k : D} : ixV (.d (.str x)) k = dIx (.str x) k := rfl
theorem ixv_dd {kvs : List (D × D)} {k : D} : ixV (.d (.dict kvs)) k = (lookV (.d (.dict kvs)) k).join := rfl
theorem ixv_ol {r : Bool} {xs : List D} {k : D} : ixV (.ol r xs) k = dIx (.list xs) k := rfl
theorem ixv_od {r : Bool} {ks : List Key} {xs : List D} {k : D} : ixV (.od r ks xs) k = (lookV (.od r ks xs) k).join := rfl
theorem ixv_fd {r : Bool} {ks : List (List Key)} {xs : List D} {k : D} : ixV (.fd r ks xs) k = (lookV (.fd r ks xs) k).join := rfl
theorem lk_od {r : Bool} {ks : List Key} {xs : List D} {x : Str} : lookV (.od r ks xs) (.str x) = some (lookK ks xs (.inr x)) := rfl
theorem lk_odi {r : Bool} {ks : List Key} {xs : List D} {x : Int} : lookV (.od r ks xs) (.int x) = some (lookK ks xs (.inl x)) := rfl
theorem isD_od {r : Bool} {ks : List Key} {xs : List D} : SV.isD (.od r ks xs) = true := rfl
theorem isD_fd {r : Bool} {ks : List (List Key)} {xs : List D} : SV.isD (.fd r ks xs) = true := rfl
theorem isD_d {kvs : List (D × D)} : SV.isD (.d (.dict kvs)) = true := rfl
theorem if_tt {α : Type} {a b : α} : (if true = true then a else b) = a := rfl
theorem dat_fd {r : Bool} {ks : List (List Key)} {xs : List D} : (SV.fd r ks xs).dat = some (.dict ((ks.map kT).zip xs)) := rfl
theorem key_s {x : Str} : keyD (.str x) = some (.inr x) := rfl
theorem key_i {x : Int} : keyD (.int x) = some (.inl x) := rfl
theorem tg_name {i : Nat} {d : D} {s : S} : tName i d s = some (s.set i (.d d)) := rfl
theorem tg_tup2 {t r : D → S → Option S} {a b : D} {s : S} : tTupT (tConss t (tConss r tNils)) 2 (.tuple [a, b]) s = (t a s).bind fun s1 => (r b s1).bind some := rfl
theorem tg_tup3 {t r q : D → S → Option S} {a b c : D} {s : S} : tTupT (tConss t (tConss r (tConss q tNils))) 3 (.tuple [a, b, c]) s = (t a s).bind fun s1 => (r b s1).bind fun s2 => (q c s2).bind some := rfl
theorem d_asB {b : Bool} : asB (.bool b) = some b := rfl
theorem len_ol {r : Bool} {xs : List D} : lenV (.ol r xs) = some (.int xs.length) := rfl
theorem len_l {xs : List D} : dLen [.list xs] = some (.int xs.length) := rfl
theorem len_t {xs : List D} : dLen [.tuple xs] = some (.int xs.length) := rfl
theorem it_l {xs : List D} : items (.list xs) = some xs := rfl
theorem it_t {xs : List D} : items (.tuple xs) = some xs := rfl
theorem seq_l {xs : List D} : dSeq (.list xs) = some xs := rfl
theorem seq_t {xs : List D} : dSeq (.tuple xs) = some xs := rfl
theorem tru_i {i : Int} : dTru (.int i) = some (i != 0) := rfl
theorem tru_l {xs : List D} : dTru (.list xs) = some (!xs.isEmpty) := rfl
theorem tru_n : dTru .none = some false := rfl
theorem pick_nil {α : Type} {l : List α} : pickL [] l = [] := rfl
theorem pick_cons {α : Type} {i : Nat} {ix : List Nat} {l : List α} : pickL (i :: ix) l = (l[i]?).toList ++ pickL ix l := by
  unfold pickL
  rw [List.filterMap_cons]
  cases l[i]? <;> rfl
/-! from what is wanted to what is so -/
theorem WO.rt_of {o : Out} {v : SV} (h : WO o (fun _ => False) (fun u _ => u = v) (fun _ => False) (fun _ => False) (fun _ _ => False)) : ∃ s, o = .rt v s := by
  cases o with
  | rt u s => exact ⟨s, by rw [show u = v from h]⟩
  | _ => exact h.elim
def unS : List D → S := fun ds => ds.map fun _ => SV.un
theorem keepS_d : ∀ (ds : List D) (s : S), keepS (ds.map .d) s = unS ds
  | [], _ => rfl
  | _ :: ds, [] => congrArg (SV.un :: ·) (keepS_d ds [])
  | _ :: ds, _ :: s => congrArg (SV.un :: ·) (keepS_d ds s)
/-- a def of data that gives v -/
theorem fn_gives {n : Nat} {g : S → Out} {ds : List D} {v : SV} (h : WO (g (ds.map .d ++ List.replicate (n - ds.length) .un)) (fun _ => v = .d .none) (fun u _ => u = v) (fun _ => False) (fun _ => False) (fun _ _ => False)) : fnR n g (ds.map .d) = .ok v (unS ds) := by
  unfold fnR
  rw [List.length_map]
  cases e : g (ds.map .d ++ List.replicate (n - ds.length) .un) with
  | nx s => rw [e] at h; rw [show v = .d .none from h]; exact congrArg _ (keepS_d ds s)
  | rt u s => rw [e] at h; rw [← show u = v from h]; exact congrArg _ (keepS_d ds s)
  | _ => rw [e] at h; exact h.elim
/-- a def of data that refuses -/
theorem fn_refuses {n : Nat} {g : S → Out} {ds : List D} {c : Exc} (h : WO (g (ds.map .d ++ List.replicate (n - ds.length) .un)) (fun _ => False) (fun _ _ => False) (fun _ => False) (fun _ => False) (fun x _ => x = c)) : fnR n g (ds.map .d) = .ex c (unS ds) := by
  unfold fnR
  rw [List.length_map]
  cases e : g (ds.map .d ++ List.replicate (n - ds.length) .un) with
  | ex x s => rw [e] at h; rw [show x = c from h]; exact congrArg _ (keepS_d ds s)
  | _ => rw [e] at h; exact h.elim
end DL
set_option Elab.async false
set_option linter.all false
set_option maxRecDepth 100000
set_option maxHeartbeats 4000000
/-! DL27: parts are Rats -/
namespace DL
open PySem PySem.Spec L2
open PyProof.Rows hiding St
abbrev pR (q : Rat) : D := pt q.num q.den
structure Ok (q : Rat) : Prop where
  num : Lg 4000 q.num
  den : Lg 4000 (q.den : Int)
theorem Ok.pt {q : Rat} (h : Ok q) : Pt 4000 q.num q.den := ⟨h.num, h.den, by have := q.den_nz; omega⟩
theorem low_normalize {n : Int} {u : Nat} (h : u ≠ 0) : low n u = pR (Rat.normalize n u h) := by
  rw [Rat.normalize_eq]
  unfold low lowN lowU
  simp
theorem low_add (a b : Rat) : low (a.num * b.den + b.num * a.den) (a.den * b.den) = pR (a + b) := by
  have h : a.den * b.den ≠ 0 := Nat.mul_ne_zero a.den_nz b.den_nz
  rw [Rat.add_def, ← low_normalize h]
  push_cast
  rfl
theorem low_mul (a b : Rat) : low (a.num * b.num) (a.den * b.den) = pR (a * b) := by
  have h : a.den * b.den ≠ 0 := Nat.mul_ne_zero a.den_nz b.den_nz
  rw [Rat.mul_def, ← low_normalize h]
  push_cast
  rfl
theorem low_sub (a b : Rat) : low (a.num * b.den + -b.num * a.den) (a.den * b.den) = pR (a - b) := by
  have := low_add a (-b)
  rw [Rat.neg_num, Rat.neg_den] at this
  rw [this, Rat.sub_eq_add_neg]
section
variable {a b : Rat}
theorem plus_R (ha : Ok a) (hb : Ok b) : f_plus [.d (pR a), .d (pR b)] = .ok (.d (pR (a + b))) [.un, .un] := by rw [← low_add]; exact plus_spec ha.pt hb.pt (by decide)
theorem lawadd_R (ha : Ok a) (hb : Ok b) : fl_add [.d (pR a), .d (pR b)] = .ok (.d (pR (a + b))) [.un, .un] := by rw [← low_add]; exact lawadd_spec ha.pt hb.pt (by decide)
theorem times_R (ha : Ok a) (hb : Ok b) : f_times [.d (pR a), .d (pR b)] = .ok (.d (pR (a * b))) [.un, .un] := by rw [← low_mul]; exact times_spec ha.pt hb.pt (by decide)
theorem lawmul_R (ha : Ok a) (hb : Ok b) : fl_mul [.d (pR a), .d (pR b)] = .ok (.d (pR (a * b))) [.un, .un] := by rw [← low_mul]; exact lawmul_spec ha.pt hb.pt (by decide)
theorem less_R (ha : Ok a) (hb : Ok b) : f_less [.d (pR a), .d (pR b)] = .ok (.d (pR (a - b))) [.un, .un] := by rw [← low_sub]; exact less_spec ha.pt hb.pt (by decide)
theorem num_ne (h : b ≠ 0) : b.num ≠ 0 := fun e => h (Rat.num_eq_zero.mp e)
end
/-! ### sizes: a number over D, M at most -/
def Bd (D M : Nat) (q : Rat) : Prop := ∃ n : Int, n.natAbs ≤ M ∧ q = Rat.divInt n D
theorem divInt_le {n : Int} {D : Nat} (hD : D ≠ 0) : (Rat.divInt n D).num.natAbs ≤ n.natAbs ∧ (Rat.divInt n D).den ≤ D := by
  rw [Rat.divInt_ofNat, ← Rat.normalize_eq_mkRat hD, Rat.normalize_eq]
  exact ⟨Int.natAbs_ediv_le_natAbs _ _, Nat.div_le_self _ _⟩
theorem Bd.ok {D M : Nat} {q : Rat} (h : Bd D M q) (hD : D ≠ 0) (h1 : M < 2 ^ 4000) (h2 : D < 2 ^ 4000) : Ok q := by
  obtain ⟨n, hn, rfl⟩ := h
  obtain ⟨k1, k2⟩ := divInt_le (n := n) hD
  exact ⟨Nat.lt_of_le_of_lt k1 (Nat.lt_of_le_of_lt hn h1), Nat.lt_of_le_of_lt k2 h2⟩
theorem Bd.mono {D M M' : Nat} {q : Rat} (h : Bd D M q) (l : M ≤ M') : Bd D M' q := by
  obtain ⟨n, hn, e⟩ := h
  exact ⟨n, Nat.le_trans hn l, e⟩
theorem divInt_def (n : Int) (D : Nat) : Rat.divInt n D = (n : Rat) / (D : Rat) := by rw [Rat.divInt_eq_div]; rfl
theorem Bd.add {D M M' : Nat} {p q : Rat} (h : Bd D M p) (k : Bd D M' q) : Bd D (M + M') (p + q) := by
  obtain ⟨n, hn, rfl⟩ := h
  obtain ⟨m, hm, rfl⟩ := k
  refine ⟨n + m, by omega, ?_⟩
  rw [divInt_def, divInt_def, divInt_def, Rat.intCast_add]
  grind
theorem Bd.neg {D M : Nat} {p : Rat} (h : Bd D M p) : Bd D M (-p) := by
  obtain ⟨n, hn, rfl⟩ := h
  refine ⟨-n, by omega, ?_⟩
  rw [divInt_def, divInt_def, Rat.intCast_neg]
  grind
theorem Bd.sub {D M M' : Nat} {p q : Rat} (h : Bd D M p) (k : Bd D M' q) : Bd D (M + M') (p - q) := by
  rw [Rat.sub_eq_add_neg]
  exact h.add k.neg
theorem Bd.mul {D D' M M' : Nat} {p q : Rat} (h : Bd D M p) (k : Bd D' M' q) : Bd (D * D') (M * M') (p * q) := by
  obtain ⟨n, hn, rfl⟩ := h
  obtain ⟨m, hm, rfl⟩ := k
  refine ⟨n * m, by rw [Int.natAbs_mul]; exact Nat.mul_le_mul hn hm, ?_⟩
  rw [Rat.divInt_mul_divInt]
  push_cast
  rfl
theorem Bd.zero {D M : Nat} : Bd D M 0 := ⟨0, by omega, by rw [divInt_def]; grind⟩
theorem Bd.wide {D M k : Nat} {p : Rat} (h : Bd D M p) (hk : k ≠ 0) : Bd (D * k) (M * k) p := by
  obtain ⟨n, hn, rfl⟩ := h
  refine ⟨n * k, by rw [Int.natAbs_mul]; exact Nat.mul_le_mul hn (by omega), ?_⟩
  push_cast
  rw [Rat.divInt_mul_right (by omega)]
theorem Bd.self (q : Rat) : Bd q.den q.num.natAbs q := ⟨q.num, Nat.le_refl _, (Rat.num_divInt_den q).symm⟩
end DL
set_option Elab.async false
set_option linter.all false
set_option maxRecDepth 100000
set_option maxHeartbeats 4000000
/-! DL28: sorted, by an own def too -/
namespace DL
open PySem PySem.Spec L2
open PyProof.Rows hiding St
open Evl (Ex ex_l ex_t ex_rd)
open PySem.W (EachIs AllAlike Sortable dataLe KeepsBut)

section
variable {P : Program} {w : World} {H H' : Hp} {h h1 h2 : Heap} {fs ex : List Addr}
/-- what is not tracked may turn -/
theorem hok_off (x : HOk P w H h) (k : ∀ b, H b ≠ none → h1.get? b = h.get? b) : HOk P w H h1 := fun a o e =>
  (x a o e).stay (fun b u c q => by
    rw [k b ?_]
    · exact q
    · rcases c with c | c
      · rw [c, e]; exact fun z => nomatch z
      · rw [c]; exact fun z => nomatch z) (fun _ q => q) fun _ _ q => q
theorem un_off (u : Un fs ex H H' h h1) (k : ∀ b o, h.get? b = some o → h2.get? b = h1.get? b) : Un fs ex H H' h h2 where
  keep := fun b o q n hf hx => (k b o q).trans (u.keep b o q n hf hx)
  slot := fun b o q n hf hx => by
    obtain ⟨sl, e⟩ := u.slot b o q n hf hx
    exact ⟨sl, (k b o q).trans e⟩
  free := u.free
  there := fun b o q hx => by
    obtain ⟨o', e⟩ := u.there b o q hx
    exact ⟨o', (k b o q).trans e⟩
  tups := u.tups
  frzs := u.frzs
  tbls := u.tbls
end
/-- the heap without what stands at a -/
def noAt (h : Heap) (a : Addr) : Heap := { h with objs := h.objs.modify a fun o => ⟨o.cls, o.dict, .freed, o.slots⟩ }
section
variable {X : Cx} {pins : List (Addr × Obj)} {σ : St} {H : Hp} {s : Shared}
/-- the state between two turns of the keys' making -/
structure KSt (X : Cx) (H : Hp) (s : Shared) (H' : Hp) (s' : Shared) : Prop where
  os : s'.os = s.os
  bare : AllBare s'.gens
  un : Un (frs X.stack) [] H H' s.heap s'.heap
  hok : HOk X.prog X.w H' s'.heap
  ext : Ex H H'
theorem KSt.off {H' : Hp} {s' : Shared} {h2 : Heap} {tk : Nat} (k : KSt X H s H' s') {c : Addr} (hc : s.heap.objs.size ≤ c) (hn : H' c = none) (e : ∀ b, b ≠ c → h2.get? b = s'.heap.get? b) : KSt X H s H' { s' with heap := h2, toks := tk } :=
  ⟨k.os, k.bare, un_off k.un fun b o q => e b (Nat.ne_of_lt (Nat.lt_of_lt_of_le (Heap.lt_size q) hc)), hok_off k.hok fun b q => e b fun z => q (by rw [z]; exact hn), k.ext⟩
/-- a turn: the key of v, of what is known to be k -/
def KTurn (X : Cx) (pins : List (Addr × Obj)) (σ : St) (H : Hp) (s : Shared) (f : Value) (v : Value) (k : D) : Prop :=
  ∀ H' s', KSt X H s H' s' → wpAny (model X.prog X.w) X.A.in1.in1 (call f [v]) (fun u s2 => ∃ x H2, KSt X H' s' H2 s2 ∧ RelV x u ∧ Dp X.K H2 x k) (fun _ _ => False) s'
theorem KSt.trans {H1 H2 : Hp} {s1 s2 : Shared} (a : KSt X H s H1 s1) (b : KSt X H1 s1 H2 s2) : KSt X H s H2 s2 :=
  ⟨b.os.trans a.os, b.bare, a.un.trans b.un, b.hok, a.ext.trans b.ext⟩
theorem nofs_of (I : Inv X pins σ H s) {b : Addr} (hb : s.heap.objs.size ≤ b) : b ∉ frs X.stack := by
  intro hm
  rcases I.ok.stk with e | ⟨e, ef⟩
  · rw [e] at hm
    exact I.nofs hb hm
  · rw [e] at hm
    have hm2 : b = X.env.locals ∨ b ∈ frs X.outer := by
      unfold frs at hm
      rw [List.filterMap_cons, ef] at hm
      exact (List.mem_cons.mp hm)
    rcases hm2 with z | z
    · exact absurd (Nat.lt_of_lt_of_le I.lt hb) (by rw [z]; exact Nat.lt_irrefl _)
    · exact I.nofs hb z
/-- what is not tracked and new stands as it stood -/
theorem KSt.keeps (I : Inv X pins σ H s) {H1 H2 : Hp} {s1 s2 : Shared} (b : KSt X H1 s1 H2 s2) {c : Addr} {o : Obj} (hc : s.heap.objs.size ≤ c) (hn : H1 c = none) (e : s1.heap.get? c = some o) : s2.heap.get? c = some o ∧ H2 c = none :=
  ⟨b.un.keep c o e hn (nofs_of I hc) (by simp), b.un.free c o e hn (by simp)⟩
end
end DL
set_option Elab.async false
set_option linter.all false
set_option maxRecDepth 100000
set_option maxHeartbeats 4000000
/-! DL29: sorted(xs), sorted(xs, key=f) -/
namespace DL
open PySem PySem.Spec L2
open PyProof.Rows hiding St
open Evl (Ex ex_l ex_t ex_rd)
open PySem.W (EachIs AllAlike Sortable dataLe alike)

def tup1 : D → Bool
  | .tuple (_ :: _) => true
  | _ => false
def noTup : D → Bool
  | .none => false
  | .tuple _ => false
  | _ => true
def sortOk (ks : List D) : Bool := (ks.all fun d => ks.all fun e => alike d e) && ((ks.all tup1 || ks.all noTup) && ((ks.all fun d => decide (d.depth ≤ 40)) && PyData.canLayAll0 ks))
/-- the keys that a def gives -/
def keysOf (f : S → Res SV) : List D → Option (List D)
  | [] => some []
  | x :: r => match f [.d x] with
    | .ok (.d k) _ => (keysOf f r).map (k :: ·)
    | _ => none
def sortBy (xs ks : List D) : List D := ((xs.zip ks).mergeSort (dataLe false (·.2))).map (·.1)
def oSortK (f : S → Res SV) (fe : M D) : M SV := fe.bind fun d s => match d with
  | .list xs => match keysOf f xs with
    | some ks => if sortOk ks = true ∧ xs.length ≤ lim then .ok (.ol false (sortBy xs ks)) s else .bad
    | none => .bad
  | _ => .bad
def dSort : D → Option (List D)
  | .list xs => if sortOk xs = true ∧ xs.length ≤ lim then some (xs.mergeSort (dataLe false id)) else none
  | _ => none
def oSort (fe : M D) : M SV := mUn (fun d => (dSort d).map (.ol false ·)) fe

def tupX (G H : Hp) : Hp := fun a => match H a with
  | some (.tup xs) => some (.tup xs)
  | _ => G a
theorem tupX_cases (G H : Hp) (a : Addr) : (∃ xs, H a = some (.tup xs) ∧ tupX G H a = some (.tup xs)) ∨ ((∀ xs, H a ≠ some (.tup xs)) ∧ tupX G H a = G a) := by
  unfold tupX
  split
  · rename_i xs h
    exact .inl ⟨xs, h, rfl⟩
  · rename_i h
    exact .inr ⟨h, rfl⟩
theorem tupX_ex {G H : Hp} (gh : Ex G H) : Ex G (tupX G H) := fun a u e => by
  rcases tupX_cases G H a with ⟨xs, h1, h2⟩ | ⟨_, h2⟩
  · rw [gh a u e] at h1
    rw [h2, ← h1]
  · rw [h2]
    exact e
theorem tupX_gh {G H : Hp} (gh : Ex G H) : Ex (tupX G H) H := fun a u e => by
  rcases tupX_cases G H a with ⟨xs, h1, h2⟩ | ⟨_, h2⟩
  · rw [h2] at e
    rw [h1, e]
  · rw [h2] at e
    exact gh a u e
theorem tupX_tc {G H : Hp} : TupC (tupX G H) H := fun a xs e => by
  unfold tupX
  rw [e]
theorem IS.args {K : PySem.W.Frag} {G H : Hp} (gh : Ex G H) (tc : TupC G H) {vs : List V} {ds : List D} (r : RpA K G vs ds) : IS K [] 0 (restH G H none) G H (vs.map some) (ds.map .d) := by
  refine ⟨by simp [r.len], fun a u h => (rest_some h).2.2, gh, fun a u h => (rest_some h).1, (fun p hp => nomatch hp), fun i y hy => ?_, fun i j y z p ne hy hz oy => ?_, tc⟩
  · obtain ⟨d, h1, rfl⟩ := data_get hy
    obtain ⟨v, h2, h3⟩ := r.get h1
    refine ⟨v, ?_, h3⟩
    unfold slA
    rw [List.getElem?_map, h2]
    rfl
  · obtain ⟨d, h1, rfl⟩ := data_get hy
    cases oy
section
variable {X : Cx} {pins : List (Addr × Obj)} {σ : St} {H : Hp} {s : Shared}
/-- sorted(xs, key=f) -/
def rSortK (X : Cx) (f : S → Res SV) (fa : Addr) : List V → List V → Hp → VK → Prop := fun vs zs H Q => ∃ (a : Addr) (xs : List V) (ds ks : List D) (G : Hp), vs = [.ref a] ∧ zs = [.ref fa] ∧ Ex G H ∧ SqL X.K G a xs ∧ RpA X.K G xs ds ∧ keysOf f ds = some ks ∧ sortOk ks = true ∧ ds.length ≤ lim ∧
  ∀ H' p ys, Ex H H' → H' p = none → RpA X.K G ys (sortBy ds ks) → Q (.ref p) (upd H' p (.lst ys))
/-- sorted(xs) -/
def rSortD (K : PySem.W.Frag) : List V → Hp → VK → Prop := fun vs H Q => ∃ (a : Addr) (xs : List V) (ds : List D) (G : Hp), vs = [.ref a] ∧ Ex G H ∧ SqL K G a xs ∧ RpA K G xs ds ∧ sortOk ds = true ∧
  ∀ p ys, H p = none → RpA K G ys (ds.mergeSort (dataLe false id)) → Q (.ref p) (upd H p (.lst ys))
end
section
variable {X : Cx} {T : List (Addr × Str)} {B : Addr} {W : WX}
theorem IS.more {K : PySem.W.Frag} {F G H H' : Hp} {σ : St} {s : S} (I : IS K T B F G H σ s) (e : Ex H H') : Ex G (tupX G H') ∧ IS K T B F (tupX G H') H' σ s := by
  have gh : Ex G H' := I.gh.trans e
  have no : ∀ {a u}, H a = some u → G a = none → tupX G H' a = none := fun {a u} h1 h2 => by
    rcases tupX_cases G H' a with ⟨xs, k1, k2⟩ | ⟨_, k2⟩
    · rw [e a u h1] at k1
      cases k1
      rw [I.tc a xs h1] at h2
      cases h2
    · rw [k2]
      exact h2
  exact ⟨tupX_ex gh, I.len, fun a u h => e a u (I.fr a u h), tupX_gh gh, fun a u h => no (I.fr a u h) (I.dj a u h), I.tb, fun i y hy => (I.sl i y hy).mono (tupX_ex gh) fun p u h1 h2 => ⟨no h1 h2, e p u h1, fun h3 => h3⟩, I.ap, tupX_tc⟩
end
end DL
set_option Elab.async false
set_option linter.all false
set_option maxRecDepth 100000
set_option maxHeartbeats 4000000
/-! DL30: dicts walked by keys, constants that are tuples, {k: v}, own lists cleared and popped -/
namespace DL
open PySem PySem.Spec L2
open PyProof.Rows hiding St
open Evl (Ex ex_l ex_t ex_rd)

/-! ### a dict of data, by keys -/
def dKeys : D → Option (List D)
  | .dict kvs => if kindD kvs = false then some (kvs.map (·.1)) else none
  | _ => none
section
variable {X : Cx} {T : List (Addr × Str)} {B : Addr} {W : WX} {tg : Expr}
/-! ### constants of the module that are tuples of ints -/
def tupB (K : PySem.W.Frag) (a : Addr) (is : List Int) : Bool := match K.lookup a with
  | some o => decide (o.cls = .type "tuple") && (match o.data with
    | .seq its _ => decide (its.toList.map (fun v => match v with | .int i _ => some i | _ => none) = is.map some) && decide (is.length ≤ 1000)
    | _ => false)
  | none => false
/-! ### {k: v} -/
def oDisp1 (fk fv : M D) : M SV := fk.bind fun k => fv.bind fun v => lift (fun v => (keyD k).map fun kk => SV.od false [kk] [v]) v
theorem IS.lessF {K : PySem.W.Frag} {F G H : Hp} {σ : St} {s : S} {p : Addr} {u : HO} (I : IS K [] B (upd F p u) G H σ s) (hp : F p = none) : IS K [] B F G H σ s := by
  have up : ∀ {a w}, F a = some w → upd F p u a = some w := fun {a w} e => by rw [upd_ne (ne_of_none e hp)]; exact e
  exact ⟨I.len, fun a w e => I.fr a w (up e), I.gh, fun a w e => I.dj a w (up e), (fun q hq => nomatch hq), fun i y hy => (I.sl i y hy).mono (Ex.refl G) fun q w h1 h2 => ⟨h2, h1, fun h3 => by
    have nq : q ≠ p := fun z => by
      rw [z, upd_same] at h3
      cases h3
    rw [upd_ne nq] at h3
    exact h3⟩, I.ap, I.tc⟩
theorem PoX.addF {F G : Hp} {σ : St} {c : Exc} {s : S} {p : Addr} {u : HO} (h : PoX X [] B W F G σ c s) (hp : F p = none) : PoX X [] B W (upd F p u) G σ c s := fun F' G' H' C dd fs g e I => by
  have e2 := g.same rfl
  subst e2
  exact h F G' H' C dd fs Gr.refl e (I.lessF hp)
/-! ### own lists: clear, pop -/
def gClear (i : Nat) : S → Out := fun s => match s[i]? with
  | some (.ol r _) => .nx (s.set i (.ol r []))
  | _ => .bad
/-- x.pop() -/
def mPop (i : Nat) : M D := fun s => match s[i]? with
  | some (.ol r xs) => match xs.getLast? with
    | some d => .ok d (s.set i (.ol r xs.dropLast))
    | none => .bad
  | _ => .bad
theorem RpA.dropLast {K : PySem.W.Frag} {G : Hp} {vs : List V} {ds : List D} (r : RpA K G vs ds) : RpA K G vs.dropLast ds.dropLast := by
  rw [List.dropLast_eq_take, List.dropLast_eq_take, r.len]
  exact r.take _
end
end DL
set_option Elab.async false
set_option linter.all false
set_option maxRecDepth 100000
set_option maxHeartbeats 4000000
local macro_rules | `(tactic| walk_at "run") => `(tactic| simp only [DL.wo_seq, DL.wo_nil, DL.wo_set, DL.wo_setO, DL.wo_ret, DL.wo_if, DL.wo_drop, DL.wo_asg, DL.wo_par, DL.wo_aug, DL.wo_for, DL.wo_raise, DL.wo_app, DL.wo_setIx, DL.wo_nx, DL.wo_rt, DL.wo_bk, DL.wo_ct, DL.wo_ex, DL.wx_ok, DL.wx_ex, DL.wx_op, DL.wx_un, DL.wx_C, DL.wx_ret, DL.wx_var, DL.wx_nil, DL.wx_cons, DL.wx_tru, DL.wx_not, DL.wx_and, DL.wx_or, DL.wx_andV, DL.wx_orV, DL.wx_notV, DL.wx_if, DL.wx_chain, DL.wx_tup, DL.wx_lst, DL.wx_olst, DL.wx_oD, DL.wx_F, DL.wx_list, DL.wx_nop, DL.wx_p, DL.wx_sl, DL.wx_call, DL.wx_callW, DL.wx_callR, DL.wx_pix, DL.wx_plen, DL.wx_din, DL.wx_dget2, DL.wx_move, DL.wx_why, DL.wl_some, DL.wf_okD, DL.wf_okL, DL.wf_okM, DL.wf_okT, DL.wf_ex, DL.wv_d, DL.wv_ol, DL.wv_od, DL.wv_fd, DL.wb_t, DL.wb_f, DL.wt_b, DL.wh_d, DL.wh_ol, DL.wh_od, DL.wh_fd, DL.wm_d, DL.wm_ol, DL.wm_od, DL.wm_fd, DL.dat_d, DL.dat_ol, DL.dat_od, DL.dat_fd, DL.d_add, DL.d_sub, DL.d_lt, DL.d_le, DL.d_gt, DL.d_ge, DL.d_tru, DL.d_eqInt, DL.d_neg, DL.tg_name, DL.tg_tup2, DL.tg_tup3, DL.ixv_l, DL.ixv_t, DL.ixv_s, DL.ixv_dd, DL.ixv_ol, DL.ixv_od, DL.ixv_fd, DL.ix_t0, DL.ix_t1, DL.ix_t2, DL.ix_l0, DL.ix_l1, DL.ix_l2, DL.d_asB, DL.d_ok0, DL.d_ok1, DL.d_ok2, DL.d_ok3, DL.d_ok4, DL.key_s, DL.key_i, DL.len_ol, DL.len_l, DL.len_t, DL.it_l, DL.it_t, DL.seq_l, DL.seq_t, DL.tru_i, DL.tru_l, DL.tru_n, DL.lk_od, DL.lk_odi, DL.isD_od, DL.isD_fd, DL.isD_d, DL.if_tt, DL.pick_nil, DL.pick_cons, List.set_cons_zero, List.set_cons_succ, List.getElem?_cons_zero, List.getElem?_cons_succ, Option.bind_some, Option.map_some, List.nil_append, List.cons_append, List.append_nil, List.map_cons, List.map_nil, and_true, true_and, reduceIte, Bool.false_eq_true, Bool.not_true, Bool.not_false])
namespace DL
open PySem PySem.Spec L2
open PyProof.Rows hiding St
open PySem.W (dataLe dataLt alike)
/-! DL31: loops by what holds between turns; tables of weights -/
section
variable {N : S → Prop} {R : SV → S → Prop} {B C : S → Prop} {X : Exc → S → Prop}
/-- a for: I of what is left and the slots -/
theorem wo_loop {α : Type} {enc : α → D} {tgt : D → S → Option S} {g : S → Out} (I : List α → S → Prop) : ∀ (xs : List α) (s : S), I xs s → (∀ x r s, I (x :: r) s → WL (tgt (enc x) s) fun s1 => WO (g s1) (I r) R N (I r) X) → (∀ s, I [] s → N s) → WO (forL tgt g (xs.map enc) s) N R B C X
  | [], s, h, _, q => q s h
  | x :: r, s, h, st, q => by
    have h1 := st x r s h
    show WO (match tgt (enc x) s with
      | none => .bad
      | some s1 => match g s1 with
        | .nx s2 => forL tgt g (r.map enc) s2
        | .ct s2 => forL tgt g (r.map enc) s2
        | .bk s2 => .nx s2
        | .rt v s2 => .rt v s2
        | .ex c s2 => .ex c s2
        | .bad => .bad) N R B C X
    cases e : tgt (enc x) s with
    | none => rw [e] at h1; exact h1.elim
    | some s1 =>
      rw [e] at h1
      have h2 : WO (g s1) (I r) R N (I r) X := h1
      simp only
      cases e2 : g s1 with
      | nx s2 => rw [e2] at h2; exact wo_loop I r s2 h2 st q
      | ct s2 => rw [e2] at h2; exact wo_loop I r s2 h2 st q
      | bk s2 => rw [e2] at h2; exact h2
      | rt v s2 => rw [e2] at h2; exact h2
      | ex c s2 => rw [e2] at h2; exact h2
      | bad => rw [e2] at h2; exact h2.elim
theorem WO.mono {o : Out} {N' : S → Prop} {R' : SV → S → Prop} {B' C' : S → Prop} {X' : Exc → S → Prop} (h : WO o N R B C X) (n : ∀ s, N s → N' s) (r : ∀ v s, R v s → R' v s) (b : ∀ s, B s → B' s) (c : ∀ s, C s → C' s) (x : ∀ e s, X e s → X' e s) : WO o N' R' B' C' X' := by
  cases o with
  | nx s => exact n s h
  | rt v s => exact r v s h
  | bk s => exact b s h
  | ct s => exact c s h
  | ex e s => exact x e s h
  | bad => exact h.elim
/-- a range walked -/
theorem wo_range {tgt : D → S → Option S} {g : S → Out} {k : Int} {n : Nat} {s : S} (I : Nat → S → Prop) (h0 : I 0 s) (st : ∀ i s, i < n → I i s → WL (tgt (.int (k + (i : Int))) s) fun s1 => WO (g s1) (I (i + 1)) R N (I (i + 1)) X) (q : ∀ s, I n s → N s) : WO (forL tgt g (rangeD k n) s) N R B C X := by
  refine wo_loop (enc := fun (i : Nat) => .int (k + (i : Int))) (fun r s => ∃ i, r = (List.range n).drop i ∧ i ≤ n ∧ I i s) (List.range n) s ⟨0, rfl, Nat.zero_le _, h0⟩ (fun x r s ⟨i, e, hi, hI⟩ => ?_) fun s ⟨i, e, hi, hI⟩ => ?_
  · have lt : i < n := by
      have := congrArg List.length e
      simp at this
      omega
    have e2 : (List.range n).drop i = i :: (List.range n).drop (i + 1) := by
      rw [List.drop_eq_getElem_cons (by simpa using lt)]
      simp
    rw [e2] at e
    obtain ⟨rfl, rfl⟩ := List.cons.inj e
    have h := st x s lt hI
    cases et : tgt (.int (k + (x : Int))) s with
    | none => rw [et] at h; exact h.elim
    | some s1 =>
      rw [et] at h
      have h2 : WO (g s1) (I (x + 1)) R N (I (x + 1)) X := h
      exact h2.mono (fun s z => ⟨x + 1, rfl, lt, z⟩) (fun _ _ z => z) (fun _ z => z) (fun s z => ⟨x + 1, rfl, lt, z⟩) fun _ _ z => z
  · have : i = n := by
      have := congrArg List.length e
      simp at this
      omega
    subst this
    exact q s hI
theorem wf_eq {r : Res SV} {v : SV} {t : S} {Q : SV → S → Prop} {X : Exc → S → Prop} (h : r = .ok v t) (hr : v.rf = false) (q : Q v t) : WF r Q X := by
  rw [h]
  exact ⟨hr, q⟩
theorem wf_bad {r : Res SV} {c : Exc} {t : S} {Q : SV → S → Prop} {X : Exc → S → Prop} (h : r = .ex c t) (q : X c t) : WF r Q X := by
  rw [h]
  exact q
/-- what is handed in to be changed: a list, a dict -/
theorem wr_ol {f : S → Res SV} {as : S} {r : Bool} {b b' : List D} {v : SV} {t : S} {Q : SV → SV → Prop} {X : Exc → SV → Prop} (h : f (.ol true b :: as) = .ok v (.ol true b' :: t)) (hr : v.rf = false) (q : Q v (.ol r b')) : WR (some (.ol r b)) f as Q X := by
  show match f (.ol true b :: as) with
      | .ok rv (y :: _) => rv.rf = false ∧ Q rv ((SV.ol r b).back y)
      | .ex c (y :: _) => X c ((SV.ol r b).back y)
      | _ => False
  rw [h]
  exact ⟨hr, q⟩
theorem wr_od {f : S → Res SV} {as : S} {r : Bool} {ks ks' : List Key} {b b' : List D} {v : SV} {t : S} {Q : SV → SV → Prop} {X : Exc → SV → Prop} (h : f (.od true ks b :: as) = .ok v (.od true ks' b' :: t)) (hr : v.rf = false) (q : Q v (.od r ks' b')) : WR (some (.od r ks b)) f as Q X := by
  show match f (.od true ks b :: as) with
      | .ok rv (y :: _) => rv.rf = false ∧ Q rv ((SV.od r ks b).back y)
      | .ex c (y :: _) => X c ((SV.od r ks b).back y)
      | _ => False
  rw [h]
  exact ⟨hr, q⟩
theorem wr_draw {n : Nat} {b : List D} {m : Int} {r : Bool} {Q : SV → SV → Prop} {X : Exc → SV → Prop} (hb : BoxOk n b) (hn : n < 2 ^ 50) (h0 : 0 < m) (h1 : m < 2 ^ 50) (q : ∀ v b', 0 ≤ v → v < m → BoxOk (n + 1) b' → Q (.d (.int v)) (.ol r b')) : WR (some (.ol r b)) f_draw [.d (.int m)] Q X := by
  obtain ⟨v, b', e, k1, k2, k3⟩ := draw_spec hb hn h0 h1
  exact wr_ol e rfl (q v b' k1 k2 k3)
end
/-- a def that changes the first thing handed in -/
theorem fn_changes {n : Nat} {g : S → Out} {x y : SV} {ds : List D} {v : SV} (hx : x.rf = true) (hy : y.rf = true) (h : WO (g (x :: ds.map .d ++ List.replicate (n - (ds.length + 1)) .un)) (fun s => v = .d .none ∧ ∃ t, s = y :: t) (fun u s => u = v ∧ ∃ t, s = y :: t) (fun _ => False) (fun _ => False) (fun _ _ => False)) : fnR n g (x :: ds.map .d) = .ok v (y :: unS ds) := by
  unfold fnR
  rw [List.length_cons, List.length_map]
  have ks : ∀ t, keepS (x :: ds.map .d) (y :: t) = y :: unS ds := fun t => by
    show (if (x.rf && y.rf) = true then y else .un) :: keepS (ds.map .d) t = _
    rw [hx, hy, keepS_d]
    rfl
  cases e : g (x :: ds.map .d ++ List.replicate (n - (ds.length + 1)) .un) with
  | nx s =>
    rw [e] at h
    obtain ⟨rfl, t, rfl⟩ := h
    exact congrArg _ (ks t)
  | rt u s =>
    rw [e] at h
    obtain ⟨rfl, t, rfl⟩ := h
    exact congrArg _ (ks t)
  | _ => rw [e] at h; exact h.elim
/-! ### displays by for -/
section
variable {Q : SV → S → Prop} {X : Exc → S → Prop} {s : S}
theorem ok_of {α : Type} {r : Res α} {a : α} {t : S} (h : WQ r (fun x s => x = a ∧ s = t) (fun _ _ => False)) : r = .ok a t := by
  cases r with
  | ok x s =>
    obtain ⟨rfl, rfl⟩ := h
    rfl
  | ex c s => exact h.elim
  | bad => exact h.elim
/-- [f x for x in xs], the slots as they were -/
theorem wq_lc {α : Type} {fi : M (List D)} {tgt : D → S → Option S} {f : M D} {vs : List Nat} {w : S} {enc : α → D} {h : α → D} {xs : List α} (hl : xs.length ≤ lim) (hi : WQ (fi s) (fun l s1 => l = xs.map enc ∧ wipeS s1 vs = w ∧ Q (.ol false (xs.map h)) (restS s1 w vs)) X)
    (hx : ∀ x ∈ xs, WL (tgt (enc x) w) fun s2 => WQ (f s2) (fun y s3 => y = h x ∧ wipeS s3 vs = w) (fun _ _ => False)) : WQ (oLc fi tgt (M.ret true) f vs s) Q X := by
  cases ef : fi s with
  | bad => rw [ef] at hi; exact hi.elim
  | ex c s1 =>
    rw [ef] at hi
    unfold oLc
    rw [ef]
    exact hi
  | ok l s1 =>
    rw [ef] at hi
    obtain ⟨rfl, hw, q⟩ := hi
    unfold oLc
    rw [ef, rb_ok, if_pos (by rw [List.length_map]; exact hl), hw]
    have key : ∀ (r : List α) (acc : List D), (∀ x ∈ r, x ∈ xs) → compL tgt (M.ret true) f vs (r.map enc) acc w = .ok (acc ++ r.map h) w := fun r => by
      induction r with
      | nil => intro acc _; simp [compL]
      | cons x r ih =>
        intro acc hm
        have h1 := hx x (hm x List.mem_cons_self)
        show (match tgt (enc x) w with
          | none => (Res.bad : Res (List D))
          | some s1 => match M.ret true s1 with
            | .ok true s2 => (match f s2 with
              | .ok y s3 => compL tgt (M.ret true) f vs (r.map enc) (acc ++ [y]) (wipeS s3 vs)
              | _ => .bad)
            | .ok false s2 => compL tgt (M.ret true) f vs (r.map enc) acc (wipeS s2 vs)
            | _ => .bad) = _
        cases et : tgt (enc x) w with
        | none => rw [et] at h1; exact h1.elim
        | some s2 =>
          rw [et] at h1
          have h2 : WQ (f s2) (fun y s3 => y = h x ∧ wipeS s3 vs = w) (fun _ _ => False) := h1
          show (match f s2 with
              | .ok y s3 => compL tgt (M.ret true) f vs (r.map enc) (acc ++ [y]) (wipeS s3 vs)
              | _ => .bad) = _
          cases e3 : f s2 with
          | bad => rw [e3] at h2; exact h2.elim
          | ex c s3 => rw [e3] at h2; exact h2.elim
          | ok y s3 =>
            rw [e3] at h2
            obtain ⟨rfl, h4⟩ := h2
            show compL tgt (M.ret true) f vs (r.map enc) (acc ++ [h x]) (wipeS s3 vs) = _
            rw [h4, ih _ fun z hz => hm z (List.mem_cons_of_mem _ hz)]
            simp
    rw [key xs [] fun _ z => z]
    exact q
/-- .. with a test -/
theorem wq_lcf {α : Type} {fi : M (List D)} {tgt : D → S → Option S} {tt : M Bool} {f : M D} {vs : List Nat} {w : S} {enc : α → D} {p : α → Bool} {h : α → D} {xs : List α} (hl : xs.length ≤ lim) (hi : WQ (fi s) (fun l s1 => l = xs.map enc ∧ wipeS s1 vs = w ∧ Q (.ol false ((xs.filter p).map h)) (restS s1 w vs)) X)
    (hx : ∀ x ∈ xs, WL (tgt (enc x) w) fun s2 => WQ (tt s2) (fun b s3 => b = p x ∧ if p x = true then WQ (f s3) (fun y s4 => y = h x ∧ wipeS s4 vs = w) (fun _ _ => False) else wipeS s3 vs = w) (fun _ _ => False)) : WQ (oLc fi tgt tt f vs s) Q X := by
  cases ef : fi s with
  | bad => rw [ef] at hi; exact hi.elim
  | ex c s1 =>
    rw [ef] at hi
    unfold oLc
    rw [ef]
    exact hi
  | ok l s1 =>
    rw [ef] at hi
    obtain ⟨rfl, hw, q⟩ := hi
    unfold oLc
    rw [ef, rb_ok, if_pos (by rw [List.length_map]; exact hl), hw]
    have key : ∀ (r : List α) (acc : List D), (∀ x ∈ r, x ∈ xs) → compL tgt tt f vs (r.map enc) acc w = .ok (acc ++ (r.filter p).map h) w := fun r => by
      induction r with
      | nil => intro acc _; simp [compL]
      | cons x r ih =>
        intro acc hm
        have ih2 := fun a => ih a fun z hz => hm z (List.mem_cons_of_mem _ hz)
        have h1 := hx x (hm x List.mem_cons_self)
        show (match tgt (enc x) w with
          | none => (Res.bad : Res (List D))
          | some s1 => match tt s1 with
            | .ok true s2 => (match f s2 with
              | .ok y s3 => compL tgt tt f vs (r.map enc) (acc ++ [y]) (wipeS s3 vs)
              | _ => .bad)
            | .ok false s2 => compL tgt tt f vs (r.map enc) acc (wipeS s2 vs)
            | _ => .bad) = _
        cases et : tgt (enc x) w with
        | none => rw [et] at h1; exact h1.elim
        | some s2 =>
          rw [et] at h1
          have h2 : WQ (tt s2) (fun b s3 => b = p x ∧ if p x = true then WQ (f s3) (fun y s4 => y = h x ∧ wipeS s4 vs = w) (fun _ _ => False) else wipeS s3 vs = w) (fun _ _ => False) := h1
          simp only
          cases e3 : tt s2 with
          | bad => rw [e3] at h2; exact h2.elim
          | ex c s3 => rw [e3] at h2; exact h2.elim
          | ok b s3 =>
            rw [e3] at h2
            obtain ⟨rfl, h4⟩ := h2
            cases hp : p x with
            | false =>
              rw [hp] at h4
              have h5 : wipeS s3 vs = w := h4
              simp only [h5]
              rw [ih2, List.filter_cons_of_neg (by rw [hp]; decide)]
            | true =>
              rw [hp] at h4
              have h5 : WQ (f s3) (fun y s4 => y = h x ∧ wipeS s4 vs = w) (fun _ _ => False) := h4
              simp only
              cases e4 : f s3 with
              | bad => rw [e4] at h5; exact h5.elim
              | ex c s4 => rw [e4] at h5; exact h5.elim
              | ok y s4 =>
                rw [e4] at h5
                obtain ⟨rfl, h6⟩ := h5
                simp only [h6]
                rw [ih2, List.filter_cons_of_pos hp]
                simp
    rw [key xs [] fun _ z => z]
    exact q
end
end DL
set_option Elab.async false
set_option linter.all false
set_option maxRecDepth 100000
set_option maxHeartbeats 4000000
namespace DL
open PySem PySem.Spec L2
open PyProof.Rows hiding St
open PySem.W (dataLe dataLt alike)
/-! DL32: words, tables, sums: put_to, order_of, rows_of and the laws own -/
def tp_BadDepth : Tpl := [("word", .inl "baddepth")]
noncomputable def g_need_depth : S → Out :=
  gIf (mNot (mTru (mChain dLe dLe (mVar 1) (mVar 0) (mVar 2)))) (gRaise "BadDepth" 0 tp_BadDepth mNil) gNil
noncomputable def f_need_depth : S → Res SV := fnR 3 g_need_depth
noncomputable def g_put_to : S → Out :=
  gSetIx 0 (mVar 1) (mF (oCall f_plus [] (mCons (mDget2 0 (mVar 1) (mC (.tuple [.int 0, .int 1]))) (mCons (mVar 2) mNil))))
noncomputable def f_put_to : S → Res SV := fnR 3 g_put_to
noncomputable def g_order_of : S → Out :=
  gRet (oD (mTup (mCons (mUn dLen (mCons (mVar 0) mNil)) (mCons (mVar 0) mNil))))
noncomputable def f_order_of : S → Res SV := fnR 1 g_order_of
noncomputable def g_rows_of : S → Out :=
  gSeq (gSet 1 (mF (oSortK f_order_of (mF (oLc (mUn dKeys (mVar 0)) (tName 2) (mTru (mOp dNe (mOp dIx (mPix 0 (mVar 2)) (mC (.int 0))) (mC (.int 0)))) (mVar 2) [2])))))
  (gRet (oLc (mUn dSeq (mVar 1)) (tName 2) (M.ret true) (mTup (mCons (mVar 2) (mCons (mPix 0 (mVar 2)) mNil))) [2]))
noncomputable def f_rows_of : S → Res SV := fnR 3 g_rows_of
noncomputable def g_joined : S → Out :=
  gSeq (gDrop (mF (oCallW f_need_depth [0, 1, 2] [.int (0), .int (6)] (mCons (mVar 2) mNil) mNil)))
  (gSeq (gSetO 3 (fun s => .ok (.od false [] []) s))
  (gSeq (gFor (mUn dSeq (mVar 0)) (tTupT (tConss (tName 4) (tConss (tName 5) tNils)) 2) (gFor (mUn dSeq (mVar 1)) (tTupT (tConss (tName 6) (tConss (tName 7) tNils)) 2) (gIf (mTru (mOp dLe (mOp dAdd (mUn dLen (mCons (mVar 4) mNil)) (mUn dLen (mCons (mVar 6) mNil))) (mVar 2))) (gDrop (mF (oCallR 3 f_put_to [] (mCons (mOp dAdd (mVar 4) (mVar 6)) (mCons (mF (oCall f_times [] (mCons (mVar 5) (mCons (mVar 7) mNil)))) mNil))))) gNil)))
  (gRet (oCall f_rows_of [] (mCons (mVar 3) mNil)))))
noncomputable def f_joined : S → Res SV := fnR 8 g_joined
noncomputable def gl_rows : S → Out :=
  gSeq (gSet 1 (mF (oSort (mF (oLc (mUn dKeys (mVar 0)) (tName 2) (mTru (mOp dNe (mOp dIx (mPix 0 (mVar 2)) (mC (.int 0))) (mC (.int 0)))) (mTup (mCons (mUn dLen (mCons (mVar 2) mNil)) (mCons (mVar 2) mNil))) [2])))))
  (gRet (oLc (mUn dSeq (mVar 1)) (tTupT (tConss (tName 3) (tConss (tName 2) tNils)) 2) (M.ret true) (mTup (mCons (mVar 2) (mCons (mPix 0 (mVar 2)) mNil))) [3, 2]))
noncomputable def fl_rows : S → Res SV := fnR 4 gl_rows
noncomputable def gl_sum : S → Out :=
  gSeq (gSetO 4 (fun s => .ok (.od false [] []) s))
  (gSeq (gFor (mUn dRng1 (mF (oCallR 0 f_draw [] (mCons (mOp dAdd (mVar 3) (mC (.int 1))) mNil)))) (tName 5) (gSeq (gSet 6 (mF (oCallR 0 fl_word [] (mCons (mVar 1) (mCons (mF (oCallR 0 f_draw [] (mCons (mOp dAdd (mVar 2) (mC (.int 1))) mNil))) mNil)))))
  (gSetIx 4 (mVar 6) (mF (oCallR 0 fl_bit [] mNil)))))
  (gRet (oCall fl_rows [] (mCons (mVar 4) mNil))))
noncomputable def fl_sum : S → Res SV := fnR 7 gl_sum
noncomputable def gl_put : S → Out :=
  gSetIx 0 (mVar 1) (mF (oCall fl_add [] (mCons (mDget2 0 (mVar 1) (mTup (mCons (mC (.int 0)) (mCons (mC (.int 1)) mNil)))) (mCons (mVar 2) mNil))))
noncomputable def fl_put : S → Res SV := fnR 3 gl_put
noncomputable def gl_join : S → Out :=
  gSeq (gSetO 3 (fun s => .ok (.od false [] []) s))
  (gSeq (gFor (mUn dSeq (mVar 0)) (tTupT (tConss (tName 4) (tConss (tName 5) tNils)) 2) (gFor (mUn dSeq (mVar 1)) (tTupT (tConss (tName 6) (tConss (tName 7) tNils)) 2) (gIf (mTru (mOp dLe (mUn dLen (mCons (mOp dAdd (mVar 4) (mVar 6)) mNil)) (mVar 2))) (gDrop (mF (oCallR 3 fl_put [] (mCons (mOp dAdd (mVar 4) (mVar 6)) (mCons (mF (oCall fl_mul [] (mCons (mVar 5) (mCons (mVar 7) mNil)))) mNil))))) gNil)))
  (gRet (oCall fl_rows [] (mCons (mVar 3) mNil))))
noncomputable def fl_join : S → Res SV := fnR 8 gl_join
noncomputable def gl_far : S → Out :=
  gRet (oCallR 0 fl_of [] (mCons (mLst (mCons (mUn dNeg (mC (.int 1))) (mCons (mC (.int 7)) (mCons (mOp dPow (mC (.int 10)) (mC (.int 20))) (mCons (mOp dSub (mOp dSub (mC (.int 0)) (mC (.int 1))) (mF (oCallR 0 f_draw [] (mCons (mOp dPow (mC (.int 10)) (mC (.int 9))) mNil)))) (mCons (mOp dAdd (mC (.int 8)) (mF (oCallR 0 f_draw [] (mCons (mOp dPow (mC (.int 10)) (mC (.int 9))) mNil)))) mNil)))))) mNil))
noncomputable def fl_far : S → Res SV := fnR 1 gl_far
abbrev Wd := List Nat
abbrev Tb := List (Wd × Rat)
def eW (w : Wd) : D := .str (tx w)
def eP (p : Wd × Rat) : D := .tuple [eW p.1, pR p.2]
def eS (l : Tb) : D := .list (l.map eP)
def kW (w : Wd) : Key := .inr (tx w)
def tK (l : Tb) : List Key := l.map fun p => kW p.1
def tX (l : Tb) : List D := l.map fun p => pR p.2
def eT (r : Bool) (l : Tb) : SV := .od r (tK l) (tX l)
def eDict (l : Tb) : D := .dict (l.map fun p => (eW p.1, pR p.2))
def keys (l : Tb) : List Wd := l.map (·.1)
/-- a word's weight -/
def wt (l : Tb) (w : Wd) : Rat := (l.lookup w).getD 0
/-- a weight put at a word -/
def aput : Tb → Wd → Rat → Tb
  | [], w, q => [(w, q)]
  | (a, p) :: r, w, q => if a = w then (a, q) :: r else (a, p) :: aput r w q
theorem tx_inj {a b : Wd} (h : tx a = tx b) : a = b := by
  have := congrArg (fun s : Str => s.cps.toList) h
  exact this
theorem kW_inj {a b : Wd} (h : kW a = kW b) : a = b := tx_inj (Sum.inr.inj h)
theorem eW_inj {a b : Wd} (h : eW a = eW b) : a = b := by
  injection h with h
  exact tx_inj h
theorem look_t : ∀ (l : Tb) (w : Wd), lookK (tK l) (tX l) (kW w) = (l.lookup w).map pR
  | [], w => rfl
  | (a, p) :: r, w => by
    show (if kW a = kW w then some (pR p) else lookK (tK r) (tX r) (kW w)) = _
    rw [List.lookup_cons]
    by_cases h : a = w
    · subst h
      simp
    · rw [if_neg fun z => h (kW_inj z), look_t r w]
      have : (w == a) = false := by simpa using fun z => h z.symm
      rw [this]
theorem put_x : ∀ (l : Tb) (w : Wd) (q : Rat), putD (tK l) (tX l) (kW w) (pR q) = tX (aput l w q)
  | [], w, q => rfl
  | (a, p) :: r, w, q => by
    show (if kW a = kW w then pR q :: tX r else pR p :: putD (tK r) (tX r) (kW w) (pR q)) = tX (if a = w then (a, q) :: r else (a, p) :: aput r w q)
    by_cases h : a = w
    · rw [if_pos (by rw [h]), if_pos h]
      rfl
    · rw [if_neg fun z => h (kW_inj z), if_neg h, put_x r w q]
      rfl
theorem put_k : ∀ (l : Tb) (w : Wd) (q : Rat), putKs (tK l) (kW w) = tK (aput l w q)
  | [], w, q => rfl
  | (a, p) :: r, w, q => by
    have ih := put_k r w q
    unfold putKs hasK at ih ⊢
    show (if (decide (kW a = kW w) || (tK r).any fun x => decide (x = kW w)) = true then kW a :: tK r else (kW a :: tK r) ++ [kW w]) = tK (if a = w then (a, q) :: r else (a, p) :: aput r w q)
    by_cases h : a = w
    · rw [if_pos h, if_pos (by rw [h]; simp)]
      rfl
    · rw [if_neg h]
      have h2 : decide (kW a = kW w) = false := decide_eq_false fun z => h (kW_inj z)
      rw [h2, Bool.false_or]
      show _ = kW a :: tK (aput r w q)
      rw [← ih]
      split <;> rfl
theorem wt_nil (w : Wd) : wt [] w = 0 := rfl
theorem wt_cons (a : Wd) (p : Rat) (r : Tb) (w : Wd) : wt ((a, p) :: r) w = if w = a then p else wt r w := by
  unfold wt
  rw [List.lookup_cons]
  by_cases h : w = a
  · subst h
    simp
  · have : (w == a) = false := by simpa using h
    rw [this, if_neg h]
theorem wt_aput : ∀ (l : Tb) (w : Wd) (q : Rat) (v : Wd), wt (aput l w q) v = if v = w then q else wt l v
  | [], w, q, v => by
    show wt [(w, q)] v = _
    rw [wt_cons]
  | (a, p) :: r, w, q, v => by
    show wt (if a = w then (a, q) :: r else (a, p) :: aput r w q) v = _
    by_cases h : a = w
    · subst h
      rw [if_pos rfl, wt_cons, wt_cons]
      by_cases h2 : v = a
      · rw [if_pos h2, if_pos h2]
      · rw [if_neg h2, if_neg h2, if_neg h2]
    · rw [if_neg h, wt_cons, wt_cons, wt_aput r w q v]
      by_cases h2 : v = a
      · subst h2
        rw [if_pos rfl, if_neg h, if_pos rfl]
      · rw [if_neg h2, if_neg h2]
theorem keys_aput : ∀ (l : Tb) (w : Wd) (q : Rat), keys (aput l w q) = if w ∈ keys l then keys l else keys l ++ [w]
  | [], w, q => by simp [keys, aput]
  | (a, p) :: r, w, q => by
    show keys (if a = w then (a, q) :: r else (a, p) :: aput r w q) = _
    by_cases h : a = w
    · subst h
      rw [if_pos rfl]
      simp [keys]
    · rw [if_neg h]
      show a :: keys (aput r w q) = _
      rw [keys_aput r w q]
      have h2 : w ∈ keys ((a, p) :: r) ↔ w ∈ keys r := by
        simp [keys, Ne.symm h]
      by_cases h3 : w ∈ keys r
      · rw [if_pos h3, if_pos (h2.mpr h3)]
        rfl
      · rw [if_neg h3, if_neg (fun z => h3 (h2.mp z))]
        rfl
theorem nodup_aput {l : Tb} {w : Wd} {q : Rat} (h : (keys l).Nodup) : (keys (aput l w q)).Nodup := by
  rw [keys_aput]
  split
  · exact h
  · rename_i hn
    rw [List.nodup_append]
    refine ⟨h, List.nodup_cons.mpr ⟨(fun z => nomatch z), List.nodup_nil⟩, fun a ha b hb => ?_⟩
    rw [List.mem_singleton.mp hb]
    intro e
    exact hn (e ▸ ha)
theorem len_aput (l : Tb) (w : Wd) (q : Rat) : (aput l w q).length ≤ l.length + 1 := by
  have h := congrArg List.length (keys_aput l w q)
  have e : ∀ m : Tb, (keys m).length = m.length := fun m => by simp [keys]
  rw [e] at h
  split at h
  · rw [e] at h; omega
  · simp [e] at h; omega
theorem tK_nodup {l : Tb} (h : (keys l).Nodup) : (tK l).Nodup := by
  have e : tK l = (keys l).map kW := by simp [tK, keys]
  rw [e]
  exact List.Pairwise.map kW (fun a b hab => fun z => hab (kW_inj z)) h
theorem dict_zip (l : Tb) : PyData.dict (((tK l).map kD).zip (tX l)) = eDict l := by
  have e : ((tK l).map kD).zip (tX l) = l.map fun p => (eW p.1, pR p.2) := by
    induction l with
    | nil => rfl
    | cons p l ih => exact congrArg ((eW p.1, pR p.2) :: ·) ih
  unfold eDict
  rw [e]
theorem pR0 : PyData.tuple [.int 0, .int 1] = pR 0 := rfl
theorem getD_R (l : Tb) (w : Wd) : (Option.map pR (List.lookup w l)).getD (pR 0) = pR (wt l w) := by
  unfold wt
  cases List.lookup w l <;> rfl
theorem put_to_R {l : Tb} {w : Wd} {q : Rat} (hn : (keys l).Nodup) (hl : l.length < lim) (h1 : Ok (wt l w)) (h2 : Ok q) : f_put_to [eT true l, .d (eW w), .d (pR q)] = .ok (.d .none) [eT true (aput l w (wt l w + q)), .un, .un] := by
  refine fn_changes (x := eT true l) (y := eT true (aput l w (wt l w + q))) (ds := [eW w, pR q]) rfl rfl ?_
  show WO (g_put_to [eT true l, .d (eW w), .d (pR q)]) _ _ _ _ _
  unfold g_put_to eT eW
  walk_at "run"
  rw [show (Sum.inr (tx w) : Key) = kW w from rfl, look_t, pR0, getD_R]
  refine wf_eq (plus_R h1 h2) rfl ?_
  walk_at "run"
  have e : setV (.od true (tK l) (tX l)) (.str (tx w)) (pR (wt l w + q)) = some (.od true (putKs (tK l) (kW w)) (putD (tK l) (tX l) (kW w) (pR (wt l w + q)))) := by
    show (if (tK l).length < lim ∧ (tK l).Nodup then _ else _) = _
    rw [if_pos ⟨by simp [tK]; exact hl, tK_nodup hn⟩]
    rfl
  rw [e, put_k, put_x]
  exact ⟨rfl, _, rfl⟩
end DL
set_option Elab.async false
set_option linter.all false
set_option maxRecDepth 100000
set_option maxHeartbeats 4000000
namespace DL
open PySem PySem.Spec L2
open PyProof.Rows hiding St
open PySem.W (dataLe dataLt alike)
/-! DL33: rows of tables: sorted by length, then as texts -/
def wlt (a b : Wd) : Bool := decide (a.length < b.length ∨ (a.length = b.length ∧ a < b))
def wle (a b : Wd) : Bool := !wlt b a
def nz (p : Wd × Rat) : Bool := decide (p.2 ≠ 0)
/-- the sum of a table -/
def canon (l : Tb) : Tb := (l.filter nz).mergeSort fun p q => wle p.1 q.1
def kyW (w : Wd) : D := .tuple [.int w.length, eW w]
theorem lt_key (a b : Wd) : dataLt (kyW a) (kyW b) = wlt a b := by
  unfold kyW eW wlt
  rw [PySem.W.dataLt_pair (by simp [alike]) (by simp [alike]), PySem.W.dataLt_int, PySem.W.dataLt_str]
  have e1 : PyData.eqv (.int a.length) (.int b.length) = decide (a.length = b.length) := by
    show decide ((a.length : Int) = b.length) = _
    by_cases h : a.length = b.length
    · rw [decide_eq_true h, decide_eq_true (by omega)]
    · rw [decide_eq_false h, decide_eq_false (by omega)]
  have e2 : PyData.eqv (.str (tx a)) (.str (tx b)) = decide (a = b) := by
    show (tx a == tx b) = _
    by_cases h : a = b
    · subst h
      simp
    · rw [decide_eq_false h]
      simpa using fun z => h (tx_inj z)
  rw [e1, e2]
  by_cases h : a.length = b.length
  · rw [decide_eq_true h, if_pos rfl]
    by_cases h2 : a = b
    · subst h2
      rw [decide_eq_true rfl, if_pos rfl]
      symm
      apply decide_eq_false
      rintro (z | ⟨_, z⟩)
      · omega
      · exact lt_irr a z
    · rw [decide_eq_false h2, if_neg (by decide)]
      by_cases h3 : a < b
      · rw [decide_eq_true h3, decide_eq_true (.inr ⟨h, h3⟩)]
      · rw [decide_eq_false h3]
        symm
        apply decide_eq_false
        rintro (z | ⟨_, z⟩)
        · omega
        · exact h3 z
  · rw [decide_eq_false h, if_neg (by decide)]
    by_cases h3 : a.length < b.length
    · rw [decide_eq_true (by omega), decide_eq_true (.inl h3)]
    · rw [decide_eq_false (by omega)]
      symm
      apply decide_eq_false
      rintro (z | ⟨z, _⟩)
      · omega
      · omega
theorem le_key (a b : Wd) : dataLe false (id : D → D) (kyW a) (kyW b) = wle a b := by
  show (!dataLt (kyW b) (kyW a)) = _
  rw [lt_key]
  rfl
/-- letters alone, not too many -/
def Wo (w : Wd) : Prop := isL w = true ∧ w.length ≤ 1000
theorem depth_key (w : Wd) : (kyW w).depth ≤ 40 := by simp [kyW, eW, PyData.depth, PyData.depthAll]
theorem lay_key {w : Wd} (h : Wo w) : (kyW w).canLay0 = true := by
  have := strOk_of h.1
  simp only [kyW, eW, PyData.canLay0, PyData.canLayAll0, Bool.and_true, Bool.true_and]
  exact this
theorem layAll_map {α : Type} {f : α → D} : ∀ {l : List α}, (∀ x ∈ l, (f x).canLay0 = true) → PyData.canLayAll0 (l.map f) = true
  | [], _ => rfl
  | x :: l, h => by
    rw [List.map_cons]
    simp only [PyData.canLayAll0, h x List.mem_cons_self, layAll_map fun y hy => h y (List.mem_cons_of_mem _ hy), Bool.and_self]
theorem sort_keys {ws : List Wd} (h : ∀ w ∈ ws, Wo w) : sortOk (ws.map kyW) = true := by
  unfold sortOk
  rw [Bool.and_eq_true, Bool.and_eq_true, Bool.and_eq_true, Bool.or_eq_true]
  refine ⟨?_, .inl ?_, ?_, layAll_map fun w hw => lay_key (h w hw)⟩
  · rw [List.all_eq_true]
    intro d hd
    rw [List.all_eq_true]
    intro e he
    obtain ⟨a, _, rfl⟩ := List.mem_map.mp hd
    obtain ⟨b, _, rfl⟩ := List.mem_map.mp he
    simp [kyW, eW, alike, PySem.W.alikeAll]
  · rw [List.all_eq_true]
    intro d hd
    obtain ⟨a, _, rfl⟩ := List.mem_map.mp hd
    rfl
  · rw [List.all_eq_true]
    intro d hd
    obtain ⟨a, _, rfl⟩ := List.mem_map.mp hd
    exact decide_eq_true (depth_key a)
theorem order_R {w : Wd} (h : Wo w) : f_order_of [.d (eW w)] = .ok (.d (kyW w)) [.un] := by
  refine fn_gives (ds := [eW w]) ?_
  show WO (g_order_of [.d (eW w)]) _ _ _ _ _
  unfold g_order_of kyW eW
  walk_at "run"
  rw [dlen_tx h.2]
  walk_at "run"
theorem keys_order {ws : List Wd} (h : ∀ w ∈ ws, Wo w) : keysOf f_order_of (ws.map eW) = some (ws.map kyW) := by
  induction ws with
  | nil => rfl
  | cons w ws ih =>
    rw [List.map_cons]
    unfold keysOf
    rw [order_R (h w List.mem_cons_self)]
    show (keysOf f_order_of (ws.map eW)).map _ = _
    rw [ih fun x hx => h x (List.mem_cons_of_mem _ hx)]
    rfl
theorem sortBy_R (ws : List Wd) : sortBy (ws.map eW) (ws.map kyW) = (ws.mergeSort wle).map eW := by
  have e : (ws.map eW).zip (ws.map kyW) = ws.map fun w => (eW w, kyW w) := by
    induction ws with
    | nil => rfl
    | cons w ws ih => exact congrArg ((eW w, kyW w) :: ·) ih
  unfold sortBy
  rw [e, ← List.map_mergeSort (f := fun w => (eW w, kyW w)) (r := wle) (fun a _ b _ => (le_key a b).symm), List.map_map]
  rfl
theorem sort_R (ws : List Wd) : (ws.map kyW).mergeSort (dataLe false id) = (ws.mergeSort wle).map kyW := by
  rw [← List.map_mergeSort (f := kyW) (r := wle) (fun a _ b _ => (le_key a b).symm)]
open Classical in
/-- weights by words, of data -/
theorem lookD_R : ∀ (l : Tb) (w : Wd), lookD (l.map fun p => (eW p.1, pR p.2)) (eW w) = (l.lookup w).map pR
  | [], w => rfl
  | (a, p) :: r, w => by
    show (if eW a = eW w then some (pR p) else lookD (r.map fun p => (eW p.1, pR p.2)) (eW w)) = _
    rw [List.lookup_cons]
    by_cases h : a = w
    · subst h
      simp
    · rw [if_neg fun z => h (eW_inj z), lookD_R r w]
      have : (w == a) = false := by simpa using fun z => h z.symm
      rw [this]
theorem kind_R (l : Tb) : kindD (l.map fun p => (eW p.1, pR p.2)) = false := by
  cases l <;> rfl
theorem lookV_R (l : Tb) (w : Wd) : lookV (.d (eDict l)) (eW w) = some ((l.lookup w).map pR) := by
  show (if keyOk (kindD (l.map fun p => (eW p.1, pR p.2))) (eW w) = true then some (lookD _ _) else none) = _
  rw [kind_R, if_pos (show keyOk false (eW w) = true from rfl), lookD_R]
theorem dkeys_R (l : Tb) : dKeys (eDict l) = some ((keys l).map eW) := by
  show (if kindD (l.map fun p => (eW p.1, pR p.2)) = false then some _ else none) = _
  rw [kind_R, if_pos rfl]
  simp [keys]
theorem look_mem : ∀ {l : Tb} {w : Wd}, w ∈ keys l → l.lookup w = some (wt l w)
  | (a, p) :: r, w, h => by
    rw [wt_cons, List.lookup_cons]
    by_cases e : w = a
    · subst e
      simp
    · have : (w == a) = false := by simpa using e
      rw [this, if_neg e]
      refine look_mem ?_
      rcases List.mem_cons.mp h with z | z
      · exact absurd z e
      · exact z
theorem wt_mem : ∀ {l : Tb} {p : Wd × Rat}, (keys l).Nodup → p ∈ l → wt l p.1 = p.2
  | (a, q) :: r, p, hn, h => by
    obtain ⟨h1, h2⟩ := List.nodup_cons.mp hn
    rw [wt_cons]
    rcases List.mem_cons.mp h with rfl | h
    · rw [if_pos rfl]
    · rw [if_neg fun z => h1 (by rw [← z]; exact List.mem_map.mpr ⟨p, h, rfl⟩)]
      exact wt_mem h2 h
/-- the words that weigh something, in order -/
def nzw (l : Tb) : List Wd := (keys l).filter fun w => decide (wt l w ≠ 0)
theorem nzw_eq {l : Tb} (hn : (keys l).Nodup) : nzw l = (l.filter nz).map (·.1) := by
  unfold nzw keys
  rw [List.filter_map]
  congr 1
  apply List.filter_congr
  intro p hp
  show decide (wt l p.1 ≠ 0) = decide (p.2 ≠ 0)
  rw [wt_mem hn hp]
theorem canon_eq {l : Tb} (hn : (keys l).Nodup) : ((nzw l).mergeSort wle).map (fun w => (w, wt l w)) = canon l := by
  unfold canon
  rw [nzw_eq hn, ← List.map_mergeSort (f := fun p : Wd × Rat => p.1) (r := fun p q : Wd × Rat => wle p.1 q.1) (fun a _ b _ => rfl), List.map_map]
  conv => rhs; rw [← List.map_id ((l.filter nz).mergeSort fun p q => wle p.1 q.1)]
  apply List.map_congr_left
  intro p hp
  have hm : p ∈ l := (List.mem_filter.mp ((List.mergeSort_perm _ _).mem_iff.mp hp)).1
  show (p.1, wt l p.1) = p
  rw [wt_mem hn hm]
/-- what tables are asked for -/
structure TbOk (l : Tb) : Prop where
  nd : (keys l).Nodup
  wo : ∀ w ∈ keys l, Wo w
  len : l.length ≤ 10000
theorem TbOk.lim {l : Tb} (h : TbOk l) : l.length ≤ lim := Nat.le_trans h.len (by decide)
theorem TbOk.lt {l : Tb} (h : TbOk l) : l.length < DL.lim := Nat.lt_of_le_of_lt h.len (by decide)
theorem ne_int {a b : Int} : dNe (.int a) (.int b) = some (.bool (!decide (a = b))) := by
  unfold dNe
  rw [if_pos ⟨rfl, rfl⟩]
  rfl
theorem rows_R {l : Tb} (h : TbOk l) : f_rows_of [.d (eDict l)] = .ok (.ol false ((canon l).map eP)) [.un] := by
  refine fn_gives (ds := [eDict l]) ?_
  show WO (g_rows_of [.d (eDict l), .un, .un]) _ _ _ _ _
  unfold g_rows_of
  walk_at "run"
  have wo : ∀ w ∈ nzw l, Wo w := fun w hw => h.wo w (List.mem_filter.mp hw).1
  have lk : (keys l).length ≤ lim := by simp [keys]; exact h.lim
  have e1 : mF (oLc (mUn dKeys (mVar 0)) (tName 2) (mTru (mOp dNe (mOp dIx (mPix 0 (mVar 2)) (mC (.int 0))) (mC (.int 0)))) (mVar 2) [2]) [.d (eDict l), .un, .un] = .ok (.list ((nzw l).map eW)) [.d (eDict l), .un, .un] := by
    refine ok_of ?_
    walk_at "run"
    refine wq_lcf (xs := keys l) (enc := eW) (p := fun w => decide (wt l w ≠ 0)) (h := eW) (w := [.d (eDict l), .un, .un]) lk ?_ fun w hw => ?_
    · walk_at "run"
      rw [dkeys_R]
      walk_at "run"
      and_intros <;> rfl
    · walk_at "run"
      rw [show ixV (.d (eDict l)) (eW w) = (lookV (.d (eDict l)) (eW w)).join from rfl, lookV_R, look_mem hw]
      show WL (some (pR (wt l w))) _
      walk_at "run"
      rw [ne_int]
      walk_at "run"
      refine ⟨?_, ?_⟩
      · by_cases z : wt l w = 0
        · rw [z]; rfl
        · have : (wt l w).num ≠ 0 := num_ne z
          rw [decide_eq_false this, decide_eq_true z]
          rfl
      · split
        · and_intros <;> rfl
        · rfl
  unfold oSortK
  rw [wx_mbind, e1]
  walk_at "run"
  rw [keys_order wo]
  have l2 : ((nzw l).map eW).length ≤ lim := by
    rw [List.length_map]
    exact Nat.le_trans (List.length_filter_le _ _) lk
  simp only [sort_keys wo, l2, and_self, if_true]
  walk_at "run"
  rw [sortBy_R]
  refine wq_lc (xs := (nzw l).mergeSort wle) (enc := eW) (h := fun w => eP (w, wt l w)) (w := [.d (eDict l), .d (.list (((nzw l).mergeSort wle).map eW)), .un]) (by rw [List.length_mergeSort]; exact Nat.le_trans (List.length_filter_le _ _) lk) ?_ fun w hw => ?_
  · walk_at "run"
    refine ⟨rfl, ?_⟩
    rw [← canon_eq h.nd, List.map_map]
    rfl
  · walk_at "run"
    have hm : w ∈ keys l := (List.mem_filter.mp ((List.mergeSort_perm _ _).mem_iff.mp hw)).1
    rw [show ixV (.d (eDict l)) (eW w) = (lookV (.d (eDict l)) (eW w)).join from rfl, lookV_R, look_mem hm]
    show WL (some (pR (wt l w))) _
    walk_at "run"
    and_intros <;> rfl
theorem lawrows_R {l : Tb} (h : TbOk l) : fl_rows [.d (eDict l)] = .ok (.ol false ((canon l).map eP)) [.un] := by
  refine fn_gives (ds := [eDict l]) ?_
  show WO (gl_rows [.d (eDict l), .un, .un, .un]) _ _ _ _ _
  unfold gl_rows
  walk_at "run"
  have wo : ∀ w ∈ nzw l, Wo w := fun w hw => h.wo w (List.mem_filter.mp hw).1
  have lk : (keys l).length ≤ lim := by simp [keys]; exact h.lim
  have e1 : mF (oLc (mUn dKeys (mVar 0)) (tName 2) (mTru (mOp dNe (mOp dIx (mPix 0 (mVar 2)) (mC (.int 0))) (mC (.int 0)))) (mTup (mCons (mUn dLen (mCons (mVar 2) mNil)) (mCons (mVar 2) mNil))) [2]) [.d (eDict l), .un, .un, .un] = .ok (.list ((nzw l).map kyW)) [.d (eDict l), .un, .un, .un] := by
    refine ok_of ?_
    walk_at "run"
    refine wq_lcf (xs := keys l) (enc := eW) (p := fun w => decide (wt l w ≠ 0)) (h := kyW) (w := [.d (eDict l), .un, .un, .un]) lk ?_ fun w hw => ?_
    · walk_at "run"
      rw [dkeys_R]
      walk_at "run"
      and_intros <;> rfl
    · walk_at "run"
      rw [show ixV (.d (eDict l)) (eW w) = (lookV (.d (eDict l)) (eW w)).join from rfl, lookV_R, look_mem hw]
      show WL (some (pR (wt l w))) _
      walk_at "run"
      rw [ne_int]
      walk_at "run"
      refine ⟨?_, ?_⟩
      · by_cases z : wt l w = 0
        · rw [z]; rfl
        · have : (wt l w).num ≠ 0 := num_ne z
          rw [decide_eq_false this, decide_eq_true z]
          rfl
      · split
        · unfold eW
          rw [dlen_tx (h.wo w hw).2]
          walk_at "run"
          and_intros <;> rfl
        · rfl
  unfold oSort
  rw [wx_un, e1]
  walk_at "run"
  have l2 : ((nzw l).map kyW).length ≤ lim := by
    rw [List.length_map]
    exact Nat.le_trans (List.length_filter_le _ _) lk
  rw [show dSort (.list ((nzw l).map kyW)) = some (((nzw l).map kyW).mergeSort (dataLe false id)) from if_pos ⟨sort_keys wo, l2⟩, sort_R]
  walk_at "run"
  refine wq_lc (xs := (nzw l).mergeSort wle) (enc := kyW) (h := fun w => eP (w, wt l w)) (w := [.d (eDict l), .d (.list (((nzw l).mergeSort wle).map kyW)), .un, .un]) (by rw [List.length_mergeSort]; exact Nat.le_trans (List.length_filter_le _ _) lk) ?_ fun w hw => ?_
  · walk_at "run"
    refine ⟨rfl, ?_⟩
    rw [← canon_eq h.nd, List.map_map]
    rfl
  · unfold kyW
    walk_at "run"
    have hm : w ∈ keys l := (List.mem_filter.mp ((List.mergeSort_perm _ _).mem_iff.mp hw)).1
    rw [show ixV (.d (eDict l)) (eW w) = (lookV (.d (eDict l)) (eW w)).join from rfl, lookV_R, look_mem hm]
    show WL (some (pR (wt l w))) _
    walk_at "run"
    and_intros <;> rfl
theorem lawput_R {l : Tb} {w : Wd} {q : Rat} (hn : (keys l).Nodup) (hl : l.length < lim) (h1 : Ok (wt l w)) (h2 : Ok q) : fl_put [eT true l, .d (eW w), .d (pR q)] = .ok (.d .none) [eT true (aput l w (wt l w + q)), .un, .un] := by
  refine fn_changes (x := eT true l) (y := eT true (aput l w (wt l w + q))) (ds := [eW w, pR q]) rfl rfl ?_
  show WO (gl_put [eT true l, .d (eW w), .d (pR q)]) _ _ _ _ _
  unfold gl_put eT eW
  walk_at "run"
  rw [show (Sum.inr (tx w) : Key) = kW w from rfl, look_t, pR0, getD_R]
  refine wf_eq (lawadd_R h1 h2) rfl ?_
  walk_at "run"
  have e : setV (.od true (tK l) (tX l)) (.str (tx w)) (pR (wt l w + q)) = some (.od true (putKs (tK l) (kW w)) (putD (tK l) (tX l) (kW w) (pR (wt l w + q)))) := by
    show (if (tK l).length < lim ∧ (tK l).Nodup then _ else _) = _
    rw [if_pos ⟨by simp [tK]; exact hl, tK_nodup hn⟩]
    rfl
  rw [e, put_k, put_x]
  exact ⟨rfl, _, rfl⟩
end DL
set_option Elab.async false
set_option linter.all false
set_option maxRecDepth 100000
set_option maxHeartbeats 4000000
namespace DL
open PySem PySem.Spec L2
open PyProof.Rows hiding St
open PySem.W (dataLe dataLt alike)
/-! DL34: sums: joined; sizes of what is put together -/
theorem wl_addS {a b : Wd} {Q : D → Prop} : WL (dAdd (eW a) (eW b)) Q = (a.length + b.length ≤ lim ∧ Q (eW (a ++ b))) := by
  show WL (if (tx a).length + (tx b).length ≤ lim then some (PyData.str (tx a ++ tx b)) else none) Q = _
  rw [wl_if, tx_len, tx_len, tx_app]
  rfl
theorem wl_lenS {a : Wd} {Q : D → Prop} : WL (dLen [eW a]) Q = (a.length ≤ lim ∧ Q (.int a.length)) := by
  show WL (if (tx a).length ≤ lim then some (PyData.int (tx a).length) else none) Q = _
  rw [wl_if, tx_len]
theorem seq_S {l : Tb} : dSeq (eS l) = some (l.map eP) := rfl
theorem it_S {l : Tb} : items (eS l) = some (l.map eP) := rfl
theorem tg_eP {t r : D → S → Option S} {p : Wd × Rat} {s : S} : tTupT (tConss t (tConss r tNils)) 2 (eP p) s = (t (eW p.1) s).bind fun s1 => (r (pR p.2) s1).bind some := rfl
theorem wl_mod {a b : Int} {Q : D → Prop} : WL (dMod (.int a) (.int b)) Q = (0 < b ∧ Q (.int (a % b))) := by
  show WL (if decide (0 < b) = true then some (PyData.int (a % b)) else none) Q = _
  rw [wl_if, decide_eq_true_eq]
theorem wl_mulI {a b : Int} {Q : D → Prop} : WL (dMulA (.int a) (.int b)) Q = (mulOk a b = true ∧ Q (.int (a * b))) := wl_if
theorem wl_divI {a b : Int} {Q : D → Prop} : WL (dDiv (.int a) (.int b)) Q = (divOk a b = true ∧ Q (.int (a / b))) := wl_if
theorem wl_powI {a b : Int} {Q : D → Prop} : WL (dPow (.int a) (.int b)) Q = (powOk a b = true ∧ Q (.int (a ^ b.toNat))) := wl_if
theorem wl_rng1 {j : Int} {Q : List D → Prop} : WL (dRng1 (.int j)) Q = (rngOk j = true ∧ Q (rangeD 0 j.toNat)) := wl_if
theorem wl_rng2 {i j : Int} {Q : List D → Prop} : WL (dRng2 (.int i) (.int j)) Q = ((rngOk i = true ∧ rngOk j = true) ∧ Q (rangeD i (j - i).toNat)) := wl_if
def badDepth : Exc := ⟨"BadDepth", [("word", .str "baddepth")]⟩
theorem depth_yes {d l m : Int} (h1 : l ≤ d) (h2 : d ≤ m) : f_need_depth [.d (.int d), .d (.int l), .d (.int m)] = .ok (.d .none) [.un, .un, .un] := by
  refine fn_gives (ds := [.int d, .int l, .int m]) ?_
  show WO (g_need_depth [.d (.int d), .d (.int l), .d (.int m)]) _ _ _ _ _
  unfold g_need_depth
  walk_at "run"
  rw [decide_eq_true h1]
  walk_at "run"
  rw [decide_eq_true h2]
  walk_at "run"
theorem depth_no {d l m : Int} (h : ¬ (l ≤ d ∧ d ≤ m)) : f_need_depth [.d (.int d), .d (.int l), .d (.int m)] = .ex badDepth [.un, .un, .un] := by
  refine fn_refuses (ds := [.int d, .int l, .int m]) ?_
  show WO (g_need_depth [.d (.int d), .d (.int l), .d (.int m)]) _ _ _ _ _
  unfold g_need_depth
  walk_at "run"
  by_cases h1 : l ≤ d
  · rw [decide_eq_true h1]
    walk_at "run"
    rw [decide_eq_false fun z => h ⟨h1, z⟩]
    walk_at "run"
    and_intros <;> rfl
  · rw [decide_eq_false h1]
    walk_at "run"
    and_intros <;> rfl
/-- what has been put together of c things, each M at most over D -/
structure GT (D M c : Nat) (t : Tb) : Prop where
  nd : (keys t).Nodup
  wo : ∀ w ∈ keys t, Wo w
  len : t.length ≤ c
  bd : ∀ w, Bd D (c * M) (wt t w)
theorem GT.nil (D M c : Nat) : GT D M c [] := ⟨List.nodup_nil, (fun w h => nomatch h), Nat.zero_le _, fun w => by rw [wt_nil]; exact Bd.zero⟩
theorem GT.mono {D M c c' : Nat} {t : Tb} (h : GT D M c t) (l : c ≤ c') : GT D M c' t := ⟨h.nd, h.wo, Nat.le_trans h.len l, fun w => (h.bd w).mono (Nat.mul_le_mul_right _ l)⟩
theorem GT.put {D M c : Nat} {t : Tb} (h : GT D M c t) {w : Wd} {q : Rat} (hw : Wo w) (hq : Bd D M q) : GT D M (c + 1) (aput t w (wt t w + q)) := by
  refine ⟨nodup_aput h.nd, fun v hv => ?_, Nat.le_trans (len_aput t w _) (Nat.succ_le_succ h.len), fun v => ?_⟩
  · rw [keys_aput] at hv
    split at hv
    · exact h.wo v hv
    · rcases List.mem_append.mp hv with z | z
      · exact h.wo v z
      · rw [List.mem_singleton.mp z]; exact hw
  · rw [wt_aput, Nat.succ_mul]
    split
    · exact (h.bd w).add hq
    · exact (h.bd v).mono (Nat.le_add_right _ _)
theorem GT.ok {D M c : Nat} {t : Tb} (h : GT D M c t) (hD : D ≠ 0) (h1 : D < 2 ^ 4000) (h2 : c * M < 2 ^ 4000) (w : Wd) : Ok (wt t w) := (h.bd w).ok hD h2 h1
theorem GT.tb {D M c : Nat} {t : Tb} (h : GT D M c t) (hc : c ≤ 10000) : TbOk t := ⟨h.nd, h.wo, Nat.le_trans h.len hc⟩
/-- a sum: its words good, its weights M at most over D -/
structure SB (D M : Nat) (l : Tb) : Prop where
  wo : ∀ p ∈ l, isL p.1 = true ∧ p.1.length ≤ 400
  bd : ∀ p ∈ l, Bd D M p.2
theorem isL_app {a b : Wd} (h1 : isL a = true) (h2 : isL b = true) : isL (a ++ b) = true := by
  unfold isL at *
  rw [List.all_append, h1, h2]
  rfl
/-- a turn of joining -/
def joinS (deep : Int) (p : Wd × Rat) (t : Tb) (q : Wd × Rat) : Tb := if (p.1.length : Int) + (q.1.length : Int) ≤ deep then aput t (p.1 ++ q.1) (wt t (p.1 ++ q.1) + p.2 * q.2) else t
def joinT (deep : Int) (a b : Tb) : Tb := a.foldl (fun t p => b.foldl (joinS deep p) t) []
theorem wr_put {l : Tb} {w : Wd} {q : Rat} {r : Bool} {Q : SV → SV → Prop} {X : Exc → SV → Prop} (hn : (keys l).Nodup) (hl : l.length < lim) (h1 : Ok (wt l w)) (h2 : Ok q) (hq : Q (.d .none) (.od r (tK (aput l w (wt l w + q))) (tX (aput l w (wt l w + q))))) : WR (some (.od r (tK l) (tX l))) f_put_to [.d (eW w), .d (pR q)] Q X := wr_od (put_to_R hn hl h1 h2) rfl hq
theorem wr_lput {l : Tb} {w : Wd} {q : Rat} {r : Bool} {Q : SV → SV → Prop} {X : Exc → SV → Prop} (hn : (keys l).Nodup) (hl : l.length < lim) (h1 : Ok (wt l w)) (h2 : Ok q) (hq : Q (.d .none) (.od r (tK (aput l w (wt l w + q))) (tX (aput l w (wt l w + q))))) : WR (some (.od r (tK l) (tX l))) fl_put [.d (eW w), .d (pR q)] Q X := wr_od (lawput_R hn hl h1 h2) rfl hq
end DL
set_option Elab.async false
set_option linter.all false
set_option maxRecDepth 100000
set_option maxHeartbeats 4000000
local macro_rules | `(tactic| walk_at "run") => `(tactic| try simp only [DL.wo_seq, DL.wo_nil, DL.wo_set, DL.wo_setO, DL.wo_ret, DL.wo_if, DL.wo_drop, DL.wo_asg, DL.wo_par, DL.wo_aug, DL.wo_for, DL.wo_raise, DL.wo_app, DL.wo_setIx, DL.wo_nx, DL.wo_rt, DL.wo_bk, DL.wo_ct, DL.wo_ex, DL.wx_ok, DL.wx_ex, DL.wx_op, DL.wx_un, DL.wx_C, DL.wx_ret, DL.wx_var, DL.wx_nil, DL.wx_cons, DL.wx_tru, DL.wx_not, DL.wx_and, DL.wx_or, DL.wx_andV, DL.wx_orV, DL.wx_notV, DL.wx_if, DL.wx_chain, DL.wx_tup, DL.wx_lst, DL.wx_olst, DL.wx_oD, DL.wx_F, DL.wx_list, DL.wx_nop, DL.wx_p, DL.wx_sl, DL.wx_call, DL.wx_callW, DL.wx_callR, DL.wx_pix, DL.wx_plen, DL.wx_din, DL.wx_dget2, DL.wx_move, DL.wx_why, DL.wl_some, DL.wf_okD, DL.wf_okL, DL.wf_okM, DL.wf_okT, DL.wf_ex, DL.wv_d, DL.wv_ol, DL.wv_od, DL.wv_fd, DL.wb_t, DL.wb_f, DL.wt_b, DL.wh_d, DL.wh_ol, DL.wh_od, DL.wh_fd, DL.wm_d, DL.wm_ol, DL.wm_od, DL.wm_fd, DL.dat_d, DL.dat_ol, DL.dat_od, DL.dat_fd, DL.d_add, DL.d_sub, DL.d_lt, DL.d_le, DL.d_gt, DL.d_ge, DL.d_tru, DL.d_eqInt, DL.d_neg, DL.tg_name, DL.tg_tup2, DL.tg_tup3, DL.ixv_l, DL.ixv_t, DL.ixv_s, DL.ixv_dd, DL.ixv_ol, DL.ixv_od, DL.ixv_fd, DL.ix_t0, DL.ix_t1, DL.ix_t2, DL.ix_l0, DL.ix_l1, DL.ix_l2, DL.d_asB, DL.d_ok0, DL.d_ok1, DL.d_ok2, DL.d_ok3, DL.d_ok4, DL.key_s, DL.key_i, DL.len_ol, DL.len_l, DL.len_t, DL.it_l, DL.it_t, DL.seq_l, DL.seq_t, DL.tru_i, DL.tru_l, DL.tru_n, DL.lk_od, DL.lk_odi, DL.isD_od, DL.isD_fd, DL.isD_d, DL.if_tt, DL.pick_nil, DL.pick_cons, DL.wl_addS, DL.wl_lenS, DL.seq_S, DL.tg_eP, DL.wl_mod, DL.wl_mulI, DL.wl_divI, DL.it_S, List.set_cons_zero, List.set_cons_succ, List.getElem?_cons_zero, List.getElem?_cons_succ, Option.bind_some, Option.map_some, List.nil_append, List.cons_append, List.append_nil, List.map_cons, List.map_nil, and_true, true_and, reduceIte, Bool.false_eq_true, Bool.not_true, Bool.not_false])
namespace DL
open PySem PySem.Spec L2
open PyProof.Rows hiding St
open PySem.W (dataLe dataLt alike)
/-! DL35: joined, by the program and by the law -/
structure JOk (D1 M1 D2 M2 : Nat) (a b : Tb) : Prop where
  ha : SB D1 M1 a
  hb : SB D2 M2 b
  d1 : D1 ≠ 0
  d2 : D2 ≠ 0
  d : D1 * D2 < 2 ^ 4000
  m : (a.length * b.length) * (M1 * M2) < 2 ^ 4000
  m1 : M1 < 2 ^ 4000
  m2 : M2 < 2 ^ 4000
  len : a.length * b.length ≤ 10000
theorem JOk.ne {D1 M1 D2 M2 : Nat} {a b : Tb} (h : JOk D1 M1 D2 M2 a b) : D1 * D2 ≠ 0 := Nat.mul_ne_zero h.d1 h.d2
theorem JOk.dd1 {D1 M1 D2 M2 : Nat} {a b : Tb} (h : JOk D1 M1 D2 M2 a b) : D1 < 2 ^ 4000 := Nat.lt_of_le_of_lt (Nat.le_mul_of_pos_right _ (Nat.pos_of_ne_zero h.d2)) h.d
theorem JOk.dd2 {D1 M1 D2 M2 : Nat} {a b : Tb} (h : JOk D1 M1 D2 M2 a b) : D2 < 2 ^ 4000 := Nat.lt_of_le_of_lt (Nat.le_mul_of_pos_left _ (Nat.pos_of_ne_zero h.d1)) h.d
theorem GT.dict {D M c : Nat} {t : Tb} (_ : GT D M c t) : PyData.dict (((tK t).map kD).zip (tX t)) = eDict t := dict_zip t
section
variable {D1 M1 D2 M2 : Nat} {a b : Tb} {deep : Int}
theorem join_inner (h : JOk D1 M1 D2 M2 a b) {p : Wd × Rat} (hp : p ∈ a) {q : Wd × Rat} (hq : q ∈ b) {t : Tb} {c : Nat} (g : GT (D1 * D2) (M1 * M2) c t) (hc : c + 1 ≤ a.length * b.length) : GT (D1 * D2) (M1 * M2) (c + 1) (joinS deep p t q) ∧ Ok (wt t (p.1 ++ q.1)) ∧ Ok p.2 ∧ Ok q.2 ∧ Ok (p.2 * q.2) ∧ t.length < lim := by
  have bq := (h.ha.bd p hp).mul (h.hb.bd q hq)
  have w1 := h.ha.wo p hp
  have w2 := h.hb.wo q hq
  have k : ∀ n, n ≤ a.length * b.length → n * (M1 * M2) < 2 ^ 4000 := fun n hn => Nat.lt_of_le_of_lt (Nat.mul_le_mul_right _ hn) h.m
  refine ⟨?_, g.ok h.ne h.d (k c (by omega)) _, (h.ha.bd p hp).ok h.d1 h.m1 h.dd1, (h.hb.bd q hq).ok h.d2 h.m2 h.dd2, bq.ok h.ne ?_ h.d, ?_⟩
  · unfold joinS
    split
    · exact g.put ⟨isL_app w1.1 w2.1, by rw [List.length_append]; omega⟩ bq
    · exact g.mono (Nat.le_succ _)
  · have := k 1 (by omega)
    omega
  · have h1 := g.len
    have h2 := h.len
    have : (10000 : Nat) < lim := by decide
    omega
theorem joinT_GT (h : JOk D1 M1 D2 M2 a b) : GT (D1 * D2) (M1 * M2) (a.length * b.length) (joinT deep a b) := by
  have inner : ∀ {p : Wd × Rat}, p ∈ a → ∀ (u : Tb) (t : Tb) (c : Nat), (∀ q ∈ u, q ∈ b) → GT (D1 * D2) (M1 * M2) c t → c + u.length ≤ a.length * b.length → GT (D1 * D2) (M1 * M2) (c + u.length) (u.foldl (joinS deep p) t) := by
    intro p hp u
    induction u with
    | nil => intro t c _ g _; exact g
    | cons q u ih =>
      intro t c hu g hc
      have e : c + (q :: u).length = (c + 1) + u.length := by rw [List.length_cons]; omega
      rw [e] at hc ⊢
      exact ih _ (c + 1) (fun z hz => hu z (List.mem_cons_of_mem _ hz)) (join_inner (deep := deep) h hp (hu q List.mem_cons_self) g (by omega)).1 hc
  have outer : ∀ (u : Tb) (t : Tb) (c : Nat), (∀ q ∈ u, q ∈ a) → GT (D1 * D2) (M1 * M2) c t → c + u.length * b.length ≤ a.length * b.length → GT (D1 * D2) (M1 * M2) (c + u.length * b.length) (u.foldl (fun t p => b.foldl (joinS deep p) t) t) := by
    intro u
    induction u with
    | nil => intro t c _ g _; simpa using g
    | cons q u ih =>
      intro t c hu g hc
      have e : c + (q :: u).length * b.length = (c + b.length) + u.length * b.length := by rw [List.length_cons, Nat.succ_mul]; omega
      rw [e] at hc ⊢
      exact ih _ _ (fun z hz => hu z (List.mem_cons_of_mem _ hz)) (inner (hu q List.mem_cons_self) b t c (fun _ z => z) g (by omega)) hc
  have := outer a [] 0 (fun _ z => z) (GT.nil _ _ _) (by omega)
  rw [Nat.zero_add] at this
  exact this
theorem joined_R (h : JOk D1 M1 D2 M2 a b) (h0 : 0 ≤ deep) (h6 : deep ≤ 6) : f_joined [.d (eS a), .d (eS b), .d (.int deep)] = .ok (.ol false ((canon (joinT deep a b)).map eP)) [.un, .un, .un] := by
  refine fn_gives (ds := [eS a, eS b, .int deep]) ?_
  show WO (g_joined [.d (eS a), .d (eS b), .d (.int deep), .un, .un, .un, .un, .un]) _ _ _ _ _
  unfold g_joined
  walk_at "run"
  refine wf_eq (depth_yes h0 h6) rfl ?_
  walk_at "run"
  refine wo_loop (enc := eP) (fun r s => ∃ t c x4 x5 x6 x7, s = [.d (eS a), .d (eS b), .d (.int deep), .od false (tK t) (tX t), x4, x5, x6, x7] ∧ r.foldl (fun t p => b.foldl (joinS deep p) t) t = joinT deep a b ∧ GT (D1 * D2) (M1 * M2) c t ∧ c + r.length * b.length ≤ a.length * b.length ∧ ∀ p ∈ r, p ∈ a) a _ ⟨[], 0, .un, .un, .un, .un, rfl, rfl, GT.nil _ _ _, by omega, fun _ z => z⟩ ?_ ?_
  · rintro p r s ⟨t, c, x4, x5, x6, x7, rfl, ef, g, hc, hm⟩
    walk_at "run"
    have hc' : c + (r.length * b.length + b.length) ≤ a.length * b.length := by
      have e : (p :: r).length * b.length = r.length * b.length + b.length := by rw [List.length_cons, Nat.succ_mul]
      omega
    refine wo_loop (enc := eP) (fun u s => ∃ t' c' y6 y7, s = [.d (eS a), .d (eS b), .d (.int deep), .od false (tK t') (tX t'), .d (eW p.1), .d (pR p.2), y6, y7] ∧ u.foldl (joinS deep p) t' = b.foldl (joinS deep p) t ∧ GT (D1 * D2) (M1 * M2) c' t' ∧ c' + u.length + r.length * b.length ≤ a.length * b.length ∧ ∀ q ∈ u, q ∈ b) b _ ⟨t, c, x6, x7, rfl, rfl, g, by omega, fun _ z => z⟩ ?_ ?_
    · rintro q u s ⟨t', c', y6, y7, rfl, ef', g', hc2, hm'⟩
      have lu : (q :: u).length = u.length + 1 := rfl
      have hp := hm p List.mem_cons_self
      have hq := hm' q List.mem_cons_self
      obtain ⟨g2, o1, o2, o3, o4, o5⟩ := join_inner (deep := deep) h hp hq g' (by omega)
      have w1 := h.ha.wo p hp
      have w2 := h.hb.wo q hq
      have lm : (10000 : Nat) ≤ lim := by decide
      walk_at "run"
      refine ⟨by omega, by omega, ?_⟩
      refine wb_by (fun hd => ?_) fun hd => ?_
      · walk_at "run"
        refine ⟨by omega, wf_eq (times_R o2 o3) rfl ?_⟩
        walk_at "run"
        refine wr_put g'.nd o5 o1 o4 ?_
        walk_at "run"
        have e : joinS deep p t' q = aput t' (p.1 ++ q.1) (wt t' (p.1 ++ q.1) + p.2 * q.2) := if_pos hd
        rw [e] at g2
        exact ⟨_, c' + 1, _, _, rfl, by rw [← ef', List.foldl_cons, e], g2, by omega, fun z hz => hm' z (List.mem_cons_of_mem _ hz)⟩
      · walk_at "run"
        refine ⟨t', c', _, _, rfl, ?_, g', by omega, fun z hz => hm' z (List.mem_cons_of_mem _ hz)⟩
        have e : joinS deep p t' q = t' := if_neg hd
        rw [← ef', List.foldl_cons, e]
    · rintro s ⟨t', c', y6, y7, rfl, ef', g', hc2, _⟩
      exact ⟨t', c', _, _, _, _, rfl, by rw [← ef, List.foldl_cons, ← ef']; rfl, g', by simpa using hc2, fun z hz => hm z (List.mem_cons_of_mem _ hz)⟩
  · rintro s ⟨t, c, x4, x5, x6, x7, rfl, ef, g, hc, _⟩
    walk_at "run"
    rw [dict_zip]
    have e : t = joinT deep a b := ef
    have hl := h.len
    refine wf_eq (rows_R (g.tb (by simp at hc; omega))) rfl ?_
    rw [e]
theorem lawjoin_R (h : JOk D1 M1 D2 M2 a b) : fl_join [.d (eS a), .d (eS b), .d (.int deep)] = .ok (.ol false ((canon (joinT deep a b)).map eP)) [.un, .un, .un] := by
  refine fn_gives (ds := [eS a, eS b, .int deep]) ?_
  show WO (gl_join [.d (eS a), .d (eS b), .d (.int deep), .un, .un, .un, .un, .un]) _ _ _ _ _
  unfold gl_join
  walk_at "run"
  refine wo_loop (enc := eP) (fun r s => ∃ t c x4 x5 x6 x7, s = [.d (eS a), .d (eS b), .d (.int deep), .od false (tK t) (tX t), x4, x5, x6, x7] ∧ r.foldl (fun t p => b.foldl (joinS deep p) t) t = joinT deep a b ∧ GT (D1 * D2) (M1 * M2) c t ∧ c + r.length * b.length ≤ a.length * b.length ∧ ∀ p ∈ r, p ∈ a) a _ ⟨[], 0, .un, .un, .un, .un, rfl, rfl, GT.nil _ _ _, by omega, fun _ z => z⟩ ?_ ?_
  · rintro p r s ⟨t, c, x4, x5, x6, x7, rfl, ef, g, hc, hm⟩
    walk_at "run"
    have hc' : c + (r.length * b.length + b.length) ≤ a.length * b.length := by
      have e : (p :: r).length * b.length = r.length * b.length + b.length := by rw [List.length_cons, Nat.succ_mul]
      omega
    refine wo_loop (enc := eP) (fun u s => ∃ t' c' y6 y7, s = [.d (eS a), .d (eS b), .d (.int deep), .od false (tK t') (tX t'), .d (eW p.1), .d (pR p.2), y6, y7] ∧ u.foldl (joinS deep p) t' = b.foldl (joinS deep p) t ∧ GT (D1 * D2) (M1 * M2) c' t' ∧ c' + u.length + r.length * b.length ≤ a.length * b.length ∧ ∀ q ∈ u, q ∈ b) b _ ⟨t, c, x6, x7, rfl, rfl, g, by omega, fun _ z => z⟩ ?_ ?_
    · rintro q u s ⟨t', c', y6, y7, rfl, ef', g', hc2, hm'⟩
      have lu : (q :: u).length = u.length + 1 := rfl
      have hp := hm p List.mem_cons_self
      have hq := hm' q List.mem_cons_self
      obtain ⟨g2, o1, o2, o3, o4, o5⟩ := join_inner (deep := deep) h hp hq g' (by omega)
      have w1 := h.ha.wo p hp
      have w2 := h.hb.wo q hq
      have lm : (10000 : Nat) ≤ lim := by decide
      walk_at "run"
      refine ⟨by omega, by rw [List.length_append]; omega, ?_⟩
      have el : ((p.1 ++ q.1).length : Int) = (p.1.length : Int) + (q.1.length : Int) := by rw [List.length_append]; omega
      rw [el]
      refine wb_by (fun hd => ?_) fun hd => ?_
      · walk_at "run"
        refine ⟨by omega, wf_eq (lawmul_R o2 o3) rfl ?_⟩
        walk_at "run"
        refine wr_lput g'.nd o5 o1 o4 ?_
        walk_at "run"
        have e : joinS deep p t' q = aput t' (p.1 ++ q.1) (wt t' (p.1 ++ q.1) + p.2 * q.2) := if_pos hd
        rw [e] at g2
        exact ⟨_, c' + 1, _, _, rfl, by rw [← ef', List.foldl_cons, e], g2, by omega, fun z hz => hm' z (List.mem_cons_of_mem _ hz)⟩
      · walk_at "run"
        refine ⟨t', c', _, _, rfl, ?_, g', by omega, fun z hz => hm' z (List.mem_cons_of_mem _ hz)⟩
        have e : joinS deep p t' q = t' := if_neg hd
        rw [← ef', List.foldl_cons, e]
    · rintro s ⟨t', c', y6, y7, rfl, ef', g', hc2, _⟩
      exact ⟨t', c', _, _, _, _, rfl, by rw [← ef, List.foldl_cons, ← ef']; rfl, g', by simpa using hc2, fun z hz => hm z (List.mem_cons_of_mem _ hz)⟩
  · rintro s ⟨t, c, x4, x5, x6, x7, rfl, ef, g, hc, _⟩
    walk_at "run"
    rw [dict_zip]
    have e : t = joinT deep a b := ef
    have hl := h.len
    refine wf_eq (lawrows_R (g.tb (by simp at hc; omega))) rfl ?_
    rw [e]
end
end DL
set_option Elab.async false
set_option linter.all false
set_option maxRecDepth 100000
set_option maxHeartbeats 4000000
local macro_rules | `(tactic| walk_at "run") => `(tactic| try simp only [DL.wo_seq, DL.wo_nil, DL.wo_set, DL.wo_setO, DL.wo_ret, DL.wo_if, DL.wo_drop, DL.wo_asg, DL.wo_par, DL.wo_aug, DL.wo_for, DL.wo_raise, DL.wo_app, DL.wo_setIx, DL.wo_nx, DL.wo_rt, DL.wo_bk, DL.wo_ct, DL.wo_ex, DL.wx_ok, DL.wx_ex, DL.wx_op, DL.wx_un, DL.wx_C, DL.wx_ret, DL.wx_var, DL.wx_nil, DL.wx_cons, DL.wx_tru, DL.wx_not, DL.wx_and, DL.wx_or, DL.wx_andV, DL.wx_orV, DL.wx_notV, DL.wx_if, DL.wx_chain, DL.wx_tup, DL.wx_lst, DL.wx_olst, DL.wx_oD, DL.wx_F, DL.wx_list, DL.wx_nop, DL.wx_p, DL.wx_sl, DL.wx_call, DL.wx_callW, DL.wx_callR, DL.wx_pix, DL.wx_plen, DL.wx_din, DL.wx_dget2, DL.wx_move, DL.wx_why, DL.wl_some, DL.wf_okD, DL.wf_okL, DL.wf_okM, DL.wf_okT, DL.wf_ex, DL.wv_d, DL.wv_ol, DL.wv_od, DL.wv_fd, DL.wb_t, DL.wb_f, DL.wt_b, DL.wh_d, DL.wh_ol, DL.wh_od, DL.wh_fd, DL.wm_d, DL.wm_ol, DL.wm_od, DL.wm_fd, DL.dat_d, DL.dat_ol, DL.dat_od, DL.dat_fd, DL.d_add, DL.d_sub, DL.d_lt, DL.d_le, DL.d_gt, DL.d_ge, DL.d_tru, DL.d_eqInt, DL.d_neg, DL.tg_name, DL.tg_tup2, DL.tg_tup3, DL.ixv_l, DL.ixv_t, DL.ixv_s, DL.ixv_dd, DL.ixv_ol, DL.ixv_od, DL.ixv_fd, DL.ix_t0, DL.ix_t1, DL.ix_t2, DL.ix_l0, DL.ix_l1, DL.ix_l2, DL.d_asB, DL.d_ok0, DL.d_ok1, DL.d_ok2, DL.d_ok3, DL.d_ok4, DL.key_s, DL.key_i, DL.len_ol, DL.len_l, DL.len_t, DL.it_l, DL.it_t, DL.seq_l, DL.seq_t, DL.tru_i, DL.tru_l, DL.tru_n, DL.lk_od, DL.lk_odi, DL.isD_od, DL.isD_fd, DL.isD_d, DL.if_tt, DL.pick_nil, DL.pick_cons, DL.wl_addS, DL.wl_lenS, DL.seq_S, DL.tg_eP, DL.wl_mod, DL.wl_mulI, DL.wl_divI, DL.it_S, DL.wl_powI, DL.wl_rng1, DL.wl_rng2, List.set_cons_zero, List.set_cons_succ, List.getElem?_cons_zero, List.getElem?_cons_succ, Option.bind_some, Option.map_some, List.nil_append, List.cons_append, List.append_nil, List.map_cons, List.map_nil, and_true, true_and, reduceIte, Bool.false_eq_true, Bool.not_true, Bool.not_false])
namespace DL
open PySem PySem.Spec L2
open PyProof.Rows hiding St
open PySem.W (dataLe dataLt alike)
/-! DL36: drawn parts and sums -/
/-- so many bits at most in both of its numbers -/
structure Sz (n : Nat) (q : Rat) : Prop where
  num : q.num.natAbs < 2 ^ n
  den : q.den < 2 ^ n
theorem Sz.ok {n : Nat} {q : Rat} (h : Sz n q) (hn : n ≤ 4000) : Ok q := ⟨Nat.lt_of_lt_of_le h.num (Nat.pow_le_pow_right (by decide) hn), Nat.lt_of_lt_of_le h.den (Nat.pow_le_pow_right (by decide) hn)⟩
/-! ### sums in form -/
theorem wlt_asy {a b : Wd} (h : wlt a b = true) : wlt b a = false := by
  have h := of_decide_eq_true h
  refine decide_eq_false ?_
  rintro (z | ⟨z1, z2⟩)
  · rcases h with y | ⟨y, _⟩ <;> omega
  · rcases h with y | ⟨_, y⟩
    · omega
    · exact lt_asy y z2
theorem wle_tot (a b : Wd) : (wle a b || wle b a) = true := by
  unfold wle
  cases h : wlt b a with
  | false => rfl
  | true => rw [wlt_asy h]; rfl
theorem wlt_tri {a b : Wd} (h1 : wlt a b = false) (h2 : wlt b a = false) : a = b := by
  have h1 := of_decide_eq_false h1
  have h2 := of_decide_eq_false h2
  have hl : a.length = b.length := by
    rcases Nat.lt_trichotomy a.length b.length with z | z | z
    · exact absurd (.inl z) h1
    · exact z
    · exact absurd (.inl z) h2
  rcases lt_tri a b with z | z | z
  · exact absurd (.inr ⟨hl, z⟩) h1
  · exact z
  · exact absurd (.inr ⟨hl.symm, z⟩) h2
theorem lt_tr : ∀ {a b c : Wd}, a < b → b < c → a < c
  | [], _, [], _, h => by cases h
  | [], _, _ :: _, _, _ => .nil
  | a :: l, [], _, h, _ => by cases h
  | a :: l, b :: m, [], _, h => by cases h
  | a :: l, b :: m, c :: n, h, k => by
    cases h with
    | cons h =>
      cases k with
      | cons k => exact .cons (lt_tr h k)
      | rel k => exact .rel k
    | rel h =>
      cases k with
      | cons k => exact .rel h
      | rel k => exact .rel (Nat.lt_trans h k)
theorem wlt_tr {a b c : Wd} (h : wlt a b = true) (k : wlt b c = true) : wlt a c = true := by
  have h := of_decide_eq_true h
  have k := of_decide_eq_true k
  refine decide_eq_true ?_
  rcases h with h | ⟨h, h'⟩
  · rcases k with k | ⟨k, k'⟩
    · exact .inl (by omega)
    · exact .inl (by omega)
  · rcases k with k | ⟨k, k'⟩
    · exact .inl (by omega)
    · exact .inr ⟨by omega, lt_tr h' k'⟩
theorem wle_tr (a b c : Wd) (h : wle a b = true) (k : wle b c = true) : wle a c = true := by
  unfold wle at *
  have h : wlt b a = false := by simpa using h
  have k : wlt c b = false := by simpa using k
  have : wlt c a = false := by
    cases e : wlt c a with
    | false => rfl
    | true =>
      cases e2 : wlt a b with
      | true => rw [wlt_tr e e2] at k; cases k
      | false =>
        have := wlt_tri e2 h
        subst this
        rw [e] at k
        cases k
  simp [this]
/-- a sum in form: rising, no weight nought -/
structure IsSum (l : Tb) : Prop where
  up : (keys l).Pairwise fun a b => wlt a b = true
  nz : ∀ p ∈ l, p.2 ≠ 0
theorem IsSum.nd {l : Tb} (h : IsSum l) : (keys l).Nodup := h.up.imp fun {a b} z e => by
  subst e
  have := wlt_asy z
  rw [z] at this
  cases this
theorem canon_sum {t : Tb} (h : (keys t).Nodup) : IsSum (canon t) := by
  constructor
  · have e : keys (canon t) = (nzw t).mergeSort wle := by
      rw [← canon_eq h]
      unfold keys
      rw [List.map_map]
      exact List.map_id _
    rw [e]
    have nd : ((nzw t).mergeSort wle).Nodup := (List.mergeSort_perm _ _).nodup_iff.mpr (h.filter _)
    have sr := List.pairwise_mergeSort wle_tr wle_tot (nzw t)
    exact List.Pairwise.imp₂ (fun {a b} (z : wle a b = true) (n : a ≠ b) => by
      cases e : wlt a b with
      | true => rfl
      | false =>
        have : wlt b a = false := by simpa [wle] using z
        exact absurd (wlt_tri e this) n) sr nd
  · intro p hp
    have := (List.mem_filter.mp ((List.mergeSort_perm _ _).mem_iff.mp hp)).2
    exact of_decide_eq_true this
theorem canon_mem {t : Tb} {p : Wd × Rat} : p ∈ canon t ↔ p ∈ t ∧ p.2 ≠ 0 := by
  unfold canon
  rw [(List.mergeSort_perm _ _).mem_iff, List.mem_filter]
  constructor
  · exact fun h => ⟨h.1, of_decide_eq_true h.2⟩
  · exact fun h => ⟨h.1, decide_eq_true h.2⟩
theorem wt_not {l : Tb} {w : Wd} (h : w ∉ keys l) : wt l w = 0 := by
  induction l with
  | nil => rfl
  | cons p r ih =>
    obtain ⟨a, q⟩ := p
    rw [wt_cons, if_neg fun z => h (by rw [z]; exact List.mem_cons_self)]
    exact ih fun z => h (List.mem_cons_of_mem _ z)
theorem wt_canon {t : Tb} (h : (keys t).Nodup) (w : Wd) : wt (canon t) w = wt t w := by
  by_cases hw : w ∈ keys (canon t)
  · obtain ⟨p, hp, rfl⟩ := List.mem_map.mp hw
    rw [wt_mem (canon_sum h).nd hp, wt_mem h (canon_mem.mp hp).1]
  · rw [wt_not hw]
    by_cases hw2 : w ∈ keys t
    · obtain ⟨p, hp, rfl⟩ := List.mem_map.mp hw2
      rw [wt_mem h hp]
      by_cases hz : p.2 = 0
      · exact hz.symm
      · exact absurd (List.mem_map.mpr ⟨p, canon_mem.mpr ⟨hp, hz⟩, rfl⟩) hw
    · rw [wt_not hw2]
theorem canon_len (t : Tb) : (canon t).length ≤ t.length := by
  unfold canon
  rw [List.length_mergeSort]
  exact List.length_filter_le _ _
end DL
set_option Elab.async false
set_option linter.all false
set_option maxRecDepth 100000
set_option maxHeartbeats 4000000
namespace DL
open PySem PySem.Spec L2
open PyProof.Rows hiding St
open PySem.W (dataLe dataLt alike)
/-! DL37: an own list lent to a def that hands back nothing of it -/
open Evl (Ex ex_l ex_t ex_rd)
mutual
/-- no list and no dict within -/
def noL : D → Bool
  | .list _ => false
  | .dict _ => false
  | .tuple xs => noLs xs
  | _ => true
def noLs : List D → Bool
  | [] => true
  | d :: r => noL d && noLs r
end
def rvOk : SV → Bool
  | .d d => noL d
  | .ol false xs => noLs xs
  | _ => false
def dele (G : Hp) (p : Addr) : Hp := fun b => if b = p then none else G b
theorem dele_some {G : Hp} {p b : Addr} {o : HO} (h : dele G p b = some o) : b ≠ p ∧ G b = some o := by
  unfold dele at h
  split at h
  · cases h
  · exact ⟨by assumption, h⟩
theorem dele_of {G : Hp} {p b : Addr} {o : HO} (n : b ≠ p) (h : G b = some o) : dele G p b = some o := by
  unfold dele
  rw [if_neg n]
  exact h
theorem dele_none {G : Hp} {p b : Addr} (h : G b = none) : dele G p b = none := by
  unfold dele
  split
  · rfl
  · exact h
mutual
theorem Rp.del {K : PySem.W.Frag} {G : Hp} {p : Addr} {vs0 : List V} (hp : G p = some (.lst vs0)) : ∀ {v : V} {d : D}, Rp K G v d → noL d = true → Rp K (dele G p) v d
  | _, _, .non, _ => .non
  | _, _, .bl b, _ => .bl b
  | _, _, .int i, _ => .int i
  | _, _, .str x, _ => .str x
  | _, _, .lst _ _, h => by simp [noL] at h
  | _, _, .tup hg r, h => .tup (dele_of (fun z => by rw [z, hp] at hg; cases hg) hg) (RpA.del hp r (by simpa [noL] using h))
  | _, _, .tpK hk, _ => .tpK hk
  | _, _, .dct _ _ _, h => by simp [noL] at h
  | _, _, .dcT _ _ _ _, h => by simp [noL] at h
theorem RpA.del {K : PySem.W.Frag} {G : Hp} {p : Addr} {vs0 : List V} (hp : G p = some (.lst vs0)) : ∀ {vs : List V} {ds : List D}, RpA K G vs ds → noLs ds = true → RpA K (dele G p) vs ds
  | _, _, .nil, _ => .nil
  | _, _, .cons h r, hn => by
    obtain ⟨h1, h2⟩ := He.ba (show (noL _ && noLs _) = true from hn)
    exact .cons (Rp.del hp h h1) (RpA.del hp r h2)
end
noncomputable def oCallB (i : Nat) (f : S → Res SV) (dds : List D) (fa : M (List D)) : M SV := fun s => if hasV i s = true then (fa s).bind (fun ds s1 => match s1[i]? with
  | some (.ol _ xs) => match f (.d (.list xs) :: (ds ++ dds).map .d) with
    | .ok rv _ => if rvOk rv = true then .ok rv s1 else .bad
    | _ => .bad
  | some (.d a) => match f (.d a :: (ds ++ dds).map .d) with
    | .ok rv _ => if rv.rf = true then .bad else .ok rv s1
    | .ex c _ => .ex c s1
    | .bad => .bad
  | _ => .bad) else .bad
section
variable {X : Cx} {T : List (Addr × Str)} {B : Addr} {W : WX}
/-- the lender's state behind it -/
theorem IS.lent {K : PySem.W.Frag} {F G G' H H' : Hp} {σ σ' : St} {s s' : S} {B' : Addr} {i : Nat} {r : Bool} {xs : List D} {p : Addr} {vs0 : List V} {v : V} {rv : SV} (I : IS K T B F G H σ s) (hx : s[i]? = some (.ol r xs)) (hp : slA σ i = some (.ref p)) (hH : H p = some (.lst vs0)) (e : Ex (upd G p (.lst vs0)) G')
    (J : IS K [] B' (restH (upd G p (.lst vs0)) H none) G' H' (some v :: σ') (rv :: s')) (ok : rvOk rv = true) : Ex G (dele G' p) ∧ IS K T B F (dele G' p) H' (some v :: σ) (rv :: s) := by
  obtain ⟨p2, vs2, l1, l2, l3, l4, l5, l6⟩ := I.sl i _ hx
  rw [hp] at l1
  cases l1
  rw [hH] at l3
  cases l3
  have gp : G' p = some (.lst vs0) := e p _ upd_same
  have exG : Ex G (dele G' p) := fun a o h => by
    have n := ne_of_none h l5
    exact dele_of n (e a o (by rw [upd_ne n]; exact h))
  have kf : ∀ {a u}, F a = some u → restH (upd G p (.lst vs0)) H none a = some u := fun {a u} h => rest_of (by rw [upd_ne (ne_of_none h l6)]; exact I.dj a u h) (fun z => by cases z) (I.fr a u h)
  have ko : ∀ {q u}, q ≠ p → H q = some u → G q = none → restH (upd G p (.lst vs0)) H none q = some u := fun {q u} n h g => rest_of (by rw [upd_ne n]; exact g) (fun z => by cases z) h
  have main : IS K T B F (dele G' p) H' σ s := by
    refine ⟨I.len, fun a u h => J.fr a u (kf h), fun a u h => J.gh a u (dele_some h).2, fun a u h => dele_none (J.dj a u (kf h)), I.tb, fun j y hy => ?_, I.ap, fun a xs h => dele_of (fun z => by rw [z, J.gh _ _ gp] at h; cases h) (J.tc a xs h)⟩
    have h0 := I.sl j y hy
    by_cases ej : i = j
    · subst ej
      rw [hx] at hy
      cases hy
      exact ⟨p, vs0, hp, l2, J.gh p _ gp, l4.mono exG, by unfold dele; rw [if_pos rfl], l6⟩
    · refine h0.keep exG (fun oy q u f1 f2 fi f3 f4 => ?_) fun q u h1 h2 h3 => ?_
      · have nq : q ≠ p := fun eq => I.ap i j _ _ p ej hx hy rfl oy hp (by rw [f1, eq])
        have z := ko nq f2 f3
        exact ⟨dele_none (J.dj q u z), J.fr q u z, f4⟩
      · have nq : q ≠ p := I.innN hx rfl hp h1 h2
        have z := ko nq h1 h3
        exact ⟨dele_none (J.dj q u z), J.fr q u z, fun z => z⟩
  refine ⟨exG, ?_⟩
  have fF : ∀ {q : Addr}, restH (upd G p (.lst vs0)) H none q = none → F q = none := fun {q} h => by
    cases z : F q with
    | none => rfl
    | some u => rw [kf z] at h; cases h
  have hd := J.head
  cases rv with
  | un => cases ok
  | fd _ _ _ => cases ok
  | od _ _ _ => cases ok
  | fv _ => cases ok
  | sp _ _ => cases ok
  | d d =>
    obtain ⟨w, e1, e2⟩ := hd
    cases e1
    exact main.pushD (Rp.del gp e2 ok)
  | ol r2 ys =>
    cases r2 with
    | true => cases ok
    | false =>
      obtain ⟨q, vs3, m1, m2, m3, m4, m5, m6⟩ := hd
      cases m1
      refine main.push ⟨q, vs3, rfl, (fun z => nomatch z), m3, RpA.del gp m4 ok, dele_none m5, fF m6⟩ fun w q2 j y e1 e2 e3 e4 => ?_
      cases e1
      obtain ⟨q3, u, f1, f2, f3, f4⟩ := (I.sl j y e2).place e3
      rw [e4] at f1
      cases f1
      by_cases eq : q = p
      · rw [eq, gp] at m5
        cases m5
      · rw [ko eq f2 f3] at m6
        cases m6
/-! ### x == e, x != e, x an own list -/
def mEqB (neg : Bool) (i : Nat) (fb : M D) : M D := fun s => if hasV i s = true then (fb s).bind (fun d s1 => match s1[i]? with
  | some (.ol _ xs) => lift (if neg then dNe (.list xs) else dEq (.list xs)) d s1
  | some (.d a) => lift (if neg then dNe a else dEq a) d s1
  | _ => .bad) else .bad
end
/-! what is wanted behind these -/
section
variable {s : S} {Qd : D → S → Prop} {Qv : SV → S → Prop} {X : Exc → S → Prop} {N : S → Prop} {R : SV → S → Prop} {B C : S → Prop}
def WBr (o : Option SV) (f : S → Res SV) (as : S) (Q : SV → Prop) (X : Exc → Prop) (_ : Kt (f, Q, X) := ⟨⟩) : Prop := match o with
  | some (.ol _ xs) => (match f (.d (.list xs) :: as) with
    | .ok rv _ => rvOk rv = true ∧ Q rv
    | _ => False)
  | some (.d a) => WF (f (.d a :: as)) (fun rv _ => Q rv) (fun c _ => X c)
  | _ => False
theorem wx_callB {i : Nat} {f : S → Res SV} {dds : List D} {fa : M (List D)} : WQ (oCallB i f dds fa s) Qv X = WH (s[i]?) (fun _ => WQ (fa s) (fun ds s1 => WBr (s1[i]?) f ((ds ++ dds).map .d) (fun rv => Qv rv s1) (fun c => X c s1)) X) := by
  unfold oCallB
  rw [has_wh]
  refine wh_ext ?_
  rw [wx_bind]
  refine wx_ext fun ds s1 => ?_
  unfold WBr
  cases s1[i]? with
  | none => rfl
  | some z =>
    cases z with
    | ol r xs =>
      simp only
      cases f (.d (.list xs) :: (ds ++ dds).map .d) with
      | ok rv as =>
        simp only
        by_cases h : rvOk rv = true
        · rw [if_pos h]; simp [h, WQ]
        · rw [if_neg h]; simp [h, WQ]
      | ex c as => rfl
      | bad => rfl
    | d a =>
      simp only
      cases f (.d a :: (ds ++ dds).map .d) with
      | ok rv as =>
        simp only [WF]
        cases rv.rf <;> simp [WQ]
      | ex c as => rfl
      | bad => rfl
    | _ => rfl
theorem wbr_d {f : S → Res SV} {as : S} {Q : SV → Prop} {X : Exc → Prop} {a : D} : WBr (some (.d a)) f as Q X = WF (f (.d a :: as)) (fun rv _ => Q rv) (fun c _ => X c) := rfl
theorem wx_eqB {neg : Bool} {i : Nat} {fb : M D} : WQ (mEqB neg i fb s) Qd X = WH (s[i]?) (fun _ => WQ (fb s) (fun d s1 => WL ((s1[i]?).bind fun z => match z with | .ol _ xs => if neg then dNe (.list xs) d else dEq (.list xs) d | .d a => if neg then dNe a d else dEq a d | _ => none) fun b => Qd b s1) X) := by
  unfold mEqB
  rw [has_wh]
  refine wh_ext ?_
  rw [wx_bind]
  refine wx_ext fun d s1 => ?_
  cases s1[i]? with
  | none => rfl
  | some z =>
    cases z with
    | ol r xs =>
      simp only [Option.bind_some]
      rw [wx_lift]
      cases neg <;> rfl
    | d a =>
      simp only [Option.bind_some]
      rw [wx_lift]
      cases neg <;> rfl
    | _ => rfl
theorem wo_clear {i : Nat} : WO (gClear i s) N R B C X = WL ((s[i]?).bind fun z => match z with | .ol r _ => some r | _ => none) fun r => N (s.set i (.ol r [])) := by
  unfold gClear
  cases s[i]? with
  | none => rfl
  | some z => cases z <;> rfl
theorem wx_pop {i : Nat} : WQ (mPop i s) Qd X = WL ((s[i]?).bind fun z => match z with | .ol r xs => (xs.getLast?).map fun d => (r, xs, d) | _ => none) fun p => Qd p.2.2 (s.set i (.ol p.1 p.2.1.dropLast)) := by
  unfold mPop
  cases s[i]? with
  | none => rfl
  | some z =>
    cases z with
    | ol r xs =>
      simp only [Option.bind_some]
      cases xs.getLast? <;> rfl
    | _ => rfl
end
end DL
set_option Elab.async false
set_option linter.all false
set_option maxRecDepth 100000
set_option maxHeartbeats 4000000
local macro_rules | `(tactic| walk_at "run") => `(tactic| try simp only [DL.wo_seq, DL.wo_nil, DL.wo_set, DL.wo_setO, DL.wo_ret, DL.wo_if, DL.wo_drop, DL.wo_asg, DL.wo_par, DL.wo_aug, DL.wo_for, DL.wo_raise, DL.wo_app, DL.wo_setIx, DL.wo_nx, DL.wo_rt, DL.wo_bk, DL.wo_ct, DL.wo_ex, DL.wx_ok, DL.wx_ex, DL.wx_op, DL.wx_un, DL.wx_C, DL.wx_ret, DL.wx_var, DL.wx_nil, DL.wx_cons, DL.wx_tru, DL.wx_not, DL.wx_and, DL.wx_or, DL.wx_andV, DL.wx_orV, DL.wx_notV, DL.wx_if, DL.wx_chain, DL.wx_tup, DL.wx_lst, DL.wx_olst, DL.wx_oD, DL.wx_F, DL.wx_list, DL.wx_nop, DL.wx_p, DL.wx_sl, DL.wx_call, DL.wx_callW, DL.wx_callR, DL.wx_pix, DL.wx_plen, DL.wx_din, DL.wx_dget2, DL.wx_move, DL.wx_why, DL.wl_some, DL.wf_okD, DL.wf_okL, DL.wf_okM, DL.wf_okT, DL.wf_ex, DL.wv_d, DL.wv_ol, DL.wv_od, DL.wv_fd, DL.wb_t, DL.wb_f, DL.wt_b, DL.wh_d, DL.wh_ol, DL.wh_od, DL.wh_fd, DL.wm_d, DL.wm_ol, DL.wm_od, DL.wm_fd, DL.dat_d, DL.dat_ol, DL.dat_od, DL.dat_fd, DL.d_add, DL.d_sub, DL.d_lt, DL.d_le, DL.d_gt, DL.d_ge, DL.d_tru, DL.d_eqInt, DL.d_neg, DL.tg_name, DL.tg_tup2, DL.tg_tup3, DL.ixv_l, DL.ixv_t, DL.ixv_s, DL.ixv_dd, DL.ixv_ol, DL.ixv_od, DL.ixv_fd, DL.ix_t0, DL.ix_t1, DL.ix_t2, DL.ix_l0, DL.ix_l1, DL.ix_l2, DL.d_asB, DL.d_ok0, DL.d_ok1, DL.d_ok2, DL.d_ok3, DL.d_ok4, DL.key_s, DL.key_i, DL.len_ol, DL.len_l, DL.len_t, DL.it_l, DL.it_t, DL.seq_l, DL.seq_t, DL.tru_i, DL.tru_l, DL.tru_n, DL.lk_od, DL.lk_odi, DL.isD_od, DL.isD_fd, DL.isD_d, DL.if_tt, DL.pick_nil, DL.pick_cons, DL.wl_addS, DL.wl_lenS, DL.seq_S, DL.tg_eP, DL.wl_mod, DL.wl_mulI, DL.wl_divI, DL.it_S, DL.wl_powI, DL.wl_rng1, DL.wl_rng2, DL.wx_callB, DL.wx_eqB, DL.wo_clear, DL.wx_pop, DL.wbr_d, List.set_cons_zero, List.set_cons_succ, List.getElem?_cons_zero, List.getElem?_cons_succ, Option.bind_some, Option.map_some, List.nil_append, List.cons_append, List.append_nil, List.map_cons, List.map_nil, and_true, true_and, reduceIte, Bool.false_eq_true, Bool.not_true, Bool.not_false])
namespace DL
open PySem PySem.Spec L2
open PyProof.Rows hiding St
open PySem.W (dataLe dataLt alike)
/-! DL38: drawn sums, far numbers, likes -/
theorem wr_of {n : Nat} {b : List D} {xs : List D} {r : Bool} {Q : SV → SV → Prop} {X : Exc → SV → Prop} (hb : BoxOk n b) (hn : n < 2 ^ 40) (h0 : xs ≠ []) (h1 : xs.length ≤ 100000) (q : ∀ x b', x ∈ xs → BoxOk (n + 1) b' → Q (.d x) (.ol r b')) : WR (some (.ol r b)) fl_of [.d (.list xs)] Q X := by
  obtain ⟨x, b', t, e, hx, hb'⟩ := of_spec hb hn h0 h1
  exact wr_ol e rfl (q x b' hx hb')
/-- what a def told by what is wanted gives, with the box handed in -/
theorem fn_box {n : Nat} {g : S → Out} {b : List D} {ds : List D} {P : SV → List D → Prop} (h : WO (g (.ol true b :: ds.map .d ++ List.replicate (n - (ds.length + 1)) .un)) (fun _ => False) (fun v s => ∃ b' t, s = .ol true b' :: t ∧ P v b') (fun _ => False) (fun _ => False) (fun _ _ => False)) : ∃ v b', fnR n g (.ol true b :: ds.map .d) = .ok v (.ol true b' :: unS ds) ∧ P v b' := by
  unfold fnR
  rw [List.length_cons, List.length_map]
  cases e : g (.ol true b :: ds.map .d ++ List.replicate (n - (ds.length + 1)) .un) with
  | rt u s =>
    rw [e] at h
    obtain ⟨b', t, rfl, hp⟩ := h
    refine ⟨u, b', ?_, hp⟩
    show Res.ok u (keepS (.ol true b :: ds.map .d) (.ol true b' :: t)) = _
    show Res.ok u ((if ((SV.ol true b).rf && (SV.ol true b').rf) = true then SV.ol true b' else .un) :: keepS (ds.map .d) t) = _
    rw [keepS_d]
    rfl
  | _ => rw [e] at h; exact h.elim
theorem far_R {n : Nat} {b : List D} (hb : BoxOk n b) (hn : n < 2 ^ 39) : ∃ v b', fl_far [.ol true b] = .ok v [.ol true b'] ∧ ∃ x : Int, v = .d (.int x) ∧ ¬ (0 ≤ x ∧ x ≤ 6) ∧ BoxOk (n + 3) b' := by
  refine fn_box (ds := []) (n := 1) (g := gl_far) (P := fun v b' => ∃ x : Int, v = .d (.int x) ∧ ¬ (0 ≤ x ∧ x ≤ 6) ∧ BoxOk (n + 3) b') ?_
  show WO (gl_far [.ol true b]) _ _ _ _ _
  unfold gl_far
  walk_at "run"
  refine ⟨by decide, by decide, wr_draw hb (by omega) (by decide) (by decide) fun x b1 h0 h1 hb1 => ?_⟩
  walk_at "run"
  refine ⟨by decide, wr_draw hb1 (by omega) (by decide) (by decide) fun y b2 k0 k1 hb2 => ?_⟩
  walk_at "run"
  refine ⟨(show 5 ≤ lim by decide), wr_of hb2 (by omega) (by simp) (by simp) fun z b3 hz hb3 => ?_⟩
  walk_at "run"
  refine ⟨b3, _, rfl, ?_⟩
  simp only [List.mem_cons, List.not_mem_nil, or_false] at hz
  have big : (10 : Int) ^ (20 : Int).toNat = 100000000000000000000 := by decide
  rcases hz with rfl | rfl | rfl | rfl | rfl
  · exact ⟨_, rfl, by omega, hb3⟩
  · exact ⟨_, rfl, by omega, hb3⟩
  · exact ⟨_, rfl, by rw [big]; omega, hb3⟩
  · exact ⟨_, rfl, by omega, hb3⟩
  · exact ⟨_, rfl, by omega, hb3⟩
theorem wr_far {n : Nat} {b : List D} {r : Bool} {Q : SV → SV → Prop} {X : Exc → SV → Prop} (hb : BoxOk n b) (hn : n < 2 ^ 39) (q : ∀ (x : Int) b', ¬ (0 ≤ x ∧ x ≤ 6) → BoxOk (n + 3) b' → Q (.d (.int x)) (.ol r b')) : WR (some (.ol r b)) fl_far [] Q X := by
  obtain ⟨v, b', e, x, rfl, h1, h2⟩ := far_R hb hn
  exact wr_ol e rfl (q x b' h1 h2)
/-- a drawn sum: long words' length, how many, their weights' bits -/
structure DS0 (deep most : Nat) (l : Tb) : Prop where
  sum : IsSum l
  wo : ∀ p ∈ l, isL p.1 = true ∧ p.1.length ≤ deep
  sz : ∀ p ∈ l, Sz 30 p.2
  len : l.length ≤ most
structure DT0 (deep c : Nat) (t : Tb) : Prop where
  nd : (keys t).Nodup
  wo : ∀ p ∈ t, isL p.1 = true ∧ p.1.length ≤ deep
  sz : ∀ p ∈ t, Sz 30 p.2
  len : t.length ≤ c
theorem aput_mem : ∀ {t : Tb} {w : Wd} {q : Rat} {p : Wd × Rat}, p ∈ aput t w q → p ∈ t ∨ p = (w, q)
  | [], w, q, p, h => by
    rcases List.mem_cons.mp h with z | z
    · exact .inr z
    · cases z
  | (a, x) :: r, w, q, p, h => by
    unfold aput at h
    split at h
    · rename_i e
      rcases List.mem_cons.mp h with z | z
      · exact .inr (by rw [z, e])
      · exact .inl (List.mem_cons_of_mem _ z)
    · rcases List.mem_cons.mp h with z | z
      · exact .inl (by rw [z]; exact List.mem_cons_self)
      · rcases aput_mem z with y | y
        · exact .inl (List.mem_cons_of_mem _ y)
        · exact .inr y
theorem DT0.put {deep c : Nat} {t : Tb} (h : DT0 deep c t) {w : Wd} {q : Rat} (hw : isL w = true) (hl : w.length ≤ deep) (hq : Sz 30 q) : DT0 deep (c + 1) (aput t w q) := by
  refine ⟨nodup_aput h.nd, fun p hp => ?_, fun p hp => ?_, Nat.le_trans (len_aput t w q) (Nat.succ_le_succ h.len)⟩
  · rcases aput_mem hp with z | z
    · exact h.wo p z
    · rw [z]; exact ⟨hw, hl⟩
  · rcases aput_mem hp with z | z
    · exact h.sz p z
    · rw [z]; exact hq
theorem setV_R {t : Tb} {w : Wd} {q : Rat} {r : Bool} (hn : (keys t).Nodup) (hl : t.length < lim) : setV (.od r (tK t) (tX t)) (eW w) (pR q) = some (.od r (tK (aput t w q)) (tX (aput t w q))) := by
  show (if (tK t).length < lim ∧ (tK t).Nodup then some (SV.od r (putKs (tK t) (kW w)) (putD (tK t) (tX t) (kW w) (pR q))) else none) = _
  rw [if_pos ⟨by simp [tK]; exact hl, tK_nodup hn⟩, put_k _ _ q, put_x]
/-! ### sizes of drawn sums -/
theorem den_prod : ∀ {l : Tb}, (∀ p ∈ l, Sz 30 p.2) → ∃ Dn, Dn ≠ 0 ∧ Dn ≤ 2 ^ (30 * l.length) ∧ ∀ p ∈ l, p.2.den ∣ Dn
  | [], _ => ⟨1, by decide, by decide, (fun p hp => nomatch hp)⟩
  | p :: l, h => by
    obtain ⟨Dn, h1, h2, h3⟩ := den_prod (l := l) fun q hq => h q (List.mem_cons_of_mem _ hq)
    have hp := (h p List.mem_cons_self).den
    refine ⟨p.2.den * Dn, Nat.mul_ne_zero p.2.den_nz h1, ?_, fun q hq => ?_⟩
    · rw [List.length_cons, Nat.mul_succ, Nat.pow_add, Nat.mul_comm (2 ^ (30 * l.length))]
      exact Nat.mul_le_mul (Nat.le_of_lt hp) h2
    · rcases List.mem_cons.mp hq with rfl | hq
      · exact Nat.dvd_mul_right _ _
      · exact Nat.dvd_trans (h3 q hq) (Nat.dvd_mul_left _ _)
theorem bd_of {q : Rat} {Dn n : Nat} (h : Sz n q) (hd : q.den ∣ Dn) (h0 : Dn ≠ 0) : Bd Dn (2 ^ n * Dn) q := by
  obtain ⟨k, rfl⟩ := hd
  have hk : k ≠ 0 := fun z => h0 (by rw [z, Nat.mul_zero])
  refine ((Bd.self q).wide hk).mono ?_
  refine Nat.mul_le_mul (Nat.le_of_lt h.num) ?_
  exact Nat.le_mul_of_pos_left _ (Nat.pos_of_ne_zero q.den_nz)
theorem DS0.sb {deep most : Nat} {l : Tb} (h : DS0 deep most l) (hd : deep ≤ 400) : ∃ Dn, Dn ≠ 0 ∧ Dn ≤ 2 ^ (30 * most) ∧ SB Dn (2 ^ 30 * Dn) l := by
  obtain ⟨Dn, h1, h2, h3⟩ := den_prod h.sz
  refine ⟨Dn, h1, Nat.le_trans h2 (Nat.pow_le_pow_right (by decide) (Nat.mul_le_mul_left _ h.len)), fun p hp => ?_, fun p hp => bd_of (h.sz p hp) (h3 p hp) h1⟩
  have := h.wo p hp
  exact ⟨this.1, by omega⟩
/-! ### likes -/
theorem like_l2 {n : Nat} {a b : D} (h1 : likeOk n a = true) (h2 : likeOk n b = true) : likeOk (n + 1) (.list [a, b]) = true := by simp [likeOk, h1, h2]
theorem wbr_like_eq {n : Nat} {xs : List D} {r : Bool} {Q : SV → Prop} {X : Exc → Prop} (h : likeOk n (.list xs) = true) : WBr (some (.ol r xs)) (f_like n) [.d (.list xs)] Q X = Q (.d (.bool true)) := by
  show (match f_like n (.d (.list xs) :: [.d (.list xs)]) with
    | .ok rv _ => rvOk rv = true ∧ Q rv
    | _ => False) = _
  rw [like_refl n _ h]
  exact propext ⟨fun z => z.2, fun z => ⟨rfl, z⟩⟩
/-- x != x -/
theorem ne_same {x : D} (h : SeqAt.shaped x = true) : dNe x x = some (.bool false) := by
  unfold dNe
  rw [if_pos ⟨h, h⟩, SeqAt.eqv_refl x (SeqAt.canLay_of_shaped h)]
  rfl
end DL
set_option Elab.async false
set_option linter.all false
set_option maxRecDepth 100000
set_option maxHeartbeats 4000000
namespace DL
open PySem PySem.Spec L2
open PyProof.Rows hiding St
open PySem.W (dataLe dataLt alike)
/-! DL39: sums as functions of words -/
/-- two rising lists of the same things are one -/
theorem sorted_one {α : Type} {lt : α → α → Prop} (asy : ∀ a b, lt a b → ¬ lt b a) : ∀ {l m : List α}, l.Pairwise lt → m.Pairwise lt → (∀ x, x ∈ l ↔ x ∈ m) → l = m
  | [], [], _, _, _ => rfl
  | [], b :: m, _, _, h => absurd ((h b).mpr List.mem_cons_self) (fun z => nomatch z)
  | a :: l, [], _, _, h => absurd ((h a).mp List.mem_cons_self) (fun z => nomatch z)
  | a :: l, b :: m, hl, hm, h => by
    obtain ⟨l1, l2⟩ := List.pairwise_cons.mp hl
    obtain ⟨m1, m2⟩ := List.pairwise_cons.mp hm
    have irr : ∀ x, ¬ lt x x := fun x z => asy x x z z
    have e : a = b := by
      rcases List.mem_cons.mp ((h a).mp List.mem_cons_self) with z | z
      · exact z
      · rcases List.mem_cons.mp ((h b).mpr List.mem_cons_self) with y | y
        · exact y.symm
        · exact absurd (l1 b y) (asy _ _ (m1 a z))
    subst e
    congr 1
    refine sorted_one asy l2 m2 fun x => ⟨fun hx => ?_, fun hx => ?_⟩
    · rcases List.mem_cons.mp ((h x).mp (List.mem_cons_of_mem _ hx)) with z | z
      · exact absurd (l1 x hx) (by rw [z]; exact irr a)
      · exact z
    · rcases List.mem_cons.mp ((h x).mpr (List.mem_cons_of_mem _ hx)) with z | z
      · exact absurd (m1 x hx) (by rw [z]; exact irr a)
      · exact z
theorem IsSum.mem {l : Tb} (h : IsSum l) (p : Wd × Rat) : p ∈ l ↔ p.2 ≠ 0 ∧ wt l p.1 = p.2 := by
  constructor
  · exact fun hp => ⟨h.nz p hp, wt_mem h.nd hp⟩
  · rintro ⟨h1, h2⟩
    by_cases hk : p.1 ∈ keys l
    · obtain ⟨q, hq, e⟩ := List.mem_map.mp hk
      have := wt_mem h.nd hq
      rw [e, h2] at this
      have : p = q := Prod.ext e.symm this
      rw [this]
      exact hq
    · rw [wt_not hk] at h2
      exact absurd h2.symm h1
theorem sum_ext {a b : Tb} (ha : IsSum a) (hb : IsSum b) (h : ∀ w, wt a w = wt b w) : a = b := by
  have pw : ∀ {l : Tb}, IsSum l → l.Pairwise fun p q => wlt p.1 q.1 = true := fun {l} z => List.pairwise_map.mp z.up
  refine sorted_one (lt := fun p q : Wd × Rat => wlt p.1 q.1 = true) (fun p q z y => by rw [wlt_asy z] at y; cases y) (pw ha) (pw hb) fun p => ?_
  rw [ha.mem, hb.mem, h]
/-! ### joining -/
/-- what joins weigh -/
def conv (f g : Wd → Rat) : Wd → Rat
  | [] => f [] * g []
  | x :: w => f [] * g (x :: w) + conv (fun u => f (x :: u)) g w
theorem conv_congr {f f' g g' : Wd → Rat} : ∀ {w : Wd}, (∀ u, u.length ≤ w.length → f u = f' u) → (∀ u, u.length ≤ w.length → g u = g' u) → conv f g w = conv f' g' w
  | [], h, k => by simp only [conv]; rw [h [] (by simp), k [] (by simp)]
  | x :: w, h, k => by
    simp only [conv]
    rw [h [] (by simp), k _ (Nat.le_refl _), conv_congr (fun u hu => h (x :: u) (by simpa using hu)) (fun u hu => k u (by simp; omega))]
theorem conv_addL (f f' g : Wd → Rat) : ∀ w, conv (fun u => f u + f' u) g w = conv f g w + conv f' g w := by
  intro w
  induction w generalizing f f' with
  | nil => simp only [conv]; grind
  | cons x w ih => simp only [conv]; rw [ih]; grind
theorem conv_zeroL (g : Wd → Rat) : ∀ w, conv (fun _ => 0) g w = 0 := by
  intro w
  induction w with
  | nil => simp only [conv]; grind
  | cons x w ih => simp only [conv]; rw [ih]; grind
/-- one word alone -/
def one1 (w : Wd) (q : Rat) : Wd → Rat := fun v => if v = w then q else 0
theorem conv_one (q : Rat) (g : Wd → Rat) : ∀ (w v : Wd), conv (one1 w q) g v = if w.isPrefixOf v = true then q * g (v.drop w.length) else 0
  | [], [] => by simp [conv, one1]
  | [], x :: v => by
    have e : (fun u => one1 [] q (x :: u)) = fun _ => 0 := by funext u; simp [one1]
    simp only [conv, e, conv_zeroL]
    simp [one1]
    grind
  | y :: w, [] => by simp [conv, one1]
  | y :: w, x :: v => by
    have h0 : one1 (y :: w) q [] = 0 := by simp [one1]
    simp only [conv, h0]
    by_cases h : x = y
    · subst h
      have e : (fun u => one1 (x :: w) q (x :: u)) = one1 w q := by funext u; simp [one1]
      rw [e, conv_one q g w v]
      simp [List.isPrefixOf]
      grind
    · have e : (fun u => one1 (y :: w) q (x :: u)) = fun _ => 0 := by funext u; simp [one1, h]
      rw [e, conv_zeroL]
      have h2 : (y == x) = false := by simpa using fun z => h z.symm
      simp [List.isPrefixOf, h2]
      grind
theorem wt_fun_cons {a : Wd} {q : Rat} {r : Tb} (h : a ∉ keys r) : wt ((a, q) :: r) = fun v => one1 a q v + wt r v := by
  funext v
  rw [wt_cons]
  unfold one1
  by_cases e : v = a
  · subst e
    rw [if_pos rfl, if_pos rfl, wt_not h]
    grind
  · rw [if_neg e, if_neg e]
    grind
/-- all weights of pairs that come together to a word -/
def pairSum (deep : Int) (a b : Tb) (v : Wd) : Rat := (a.map fun p => (b.map fun q => if (p.1.length : Int) + (q.1.length : Int) ≤ deep ∧ p.1 ++ q.1 = v then p.2 * q.2 else 0).sum).sum
theorem wt_inner (deep : Int) (p : Wd × Rat) : ∀ (u t : Tb) (v : Wd), wt (u.foldl (joinS deep p) t) v = wt t v + (u.map fun q => if (p.1.length : Int) + (q.1.length : Int) ≤ deep ∧ p.1 ++ q.1 = v then p.2 * q.2 else 0).sum
  | [], t, v => by simp; grind
  | q :: u, t, v => by
    rw [List.foldl_cons, wt_inner deep p u, List.map_cons, List.sum_cons]
    have e : wt (joinS deep p t q) v = wt t v + if (p.1.length : Int) + (q.1.length : Int) ≤ deep ∧ p.1 ++ q.1 = v then p.2 * q.2 else 0 := by
      unfold joinS
      by_cases h : (p.1.length : Int) + (q.1.length : Int) ≤ deep
      · rw [if_pos h, wt_aput]
        by_cases h2 : v = p.1 ++ q.1
        · subst h2
          rw [if_pos rfl, if_pos ⟨h, rfl⟩]
        · rw [if_neg h2, if_neg fun z => h2 z.2.symm]
          grind
      · rw [if_neg h, if_neg fun z => h z.1]
        grind
    rw [e]
    grind
theorem wt_outer (deep : Int) (b : Tb) : ∀ (a t : Tb) (v : Wd), wt (a.foldl (fun t p => b.foldl (joinS deep p) t) t) v = wt t v + pairSum deep a b v
  | [], t, v => by simp [pairSum]; grind
  | p :: a, t, v => by
    rw [List.foldl_cons, wt_outer deep b a, wt_inner]
    unfold pairSum
    rw [List.map_cons, List.sum_cons]
    grind
theorem sum_pick (c : Rat) (u v : Wd) : ∀ {b : Tb}, (keys b).Nodup → (b.map fun q => if u ++ q.1 = v then c * q.2 else 0).sum = if u.isPrefixOf v = true then c * wt b (v.drop u.length) else 0
  | [], _ => by
    simp [wt_nil]
  | (w, q) :: b, h => by
    obtain ⟨h1, h2⟩ := List.nodup_cons.mp h
    rw [List.map_cons, List.sum_cons, sum_pick c u v h2, wt_cons]
    by_cases hp : u.isPrefixOf v = true
    · obtain ⟨r, rfl⟩ := List.isPrefixOf_iff_prefix.mp hp
      rw [if_pos hp, if_pos hp, List.drop_left]
      by_cases e : r = w
      · subst e
        rw [if_pos rfl, if_pos rfl, wt_not h1]
        grind
      · rw [if_neg e, if_neg fun z => e (List.append_cancel_left z).symm]
        grind
    · rw [if_neg hp, if_neg hp, if_neg fun z => hp (List.isPrefixOf_iff_prefix.mpr ⟨w, z⟩)]
      grind
theorem pairSum_conv {deep : Int} {b : Tb} (hb : (keys b).Nodup) (v : Wd) (hv : (v.length : Int) ≤ deep) : ∀ {a : Tb}, (keys a).Nodup → pairSum deep a b v = conv (wt a) (wt b) v
  | [], _ => by
    have : wt [] = fun _ => 0 := by funext w; rfl
    rw [this, conv_zeroL]
    rfl
  | (w, q) :: a, h => by
    obtain ⟨h1, h2⟩ := List.nodup_cons.mp h
    rw [wt_fun_cons h1, conv_addL, conv_one, ← pairSum_conv hb v hv h2]
    unfold pairSum
    rw [List.map_cons, List.sum_cons]
    congr 1
    rw [← sum_pick q w v hb]
    congr 1
    apply List.map_congr_left
    intro p _
    by_cases e : w ++ p.1 = v
    · have : (w.length : Int) + (p.1.length : Int) ≤ deep := by
        rw [← e, List.length_append] at hv
        omega
      rw [if_pos e, if_pos ⟨this, e⟩]
    · rw [if_neg e, if_neg fun z => e z.2]
theorem pairSum_far {deep : Int} {a b : Tb} {v : Wd} (hv : ¬ (v.length : Int) ≤ deep) : pairSum deep a b v = 0 := by
  have z : ∀ l : List Rat, (∀ x ∈ l, x = 0) → l.sum = 0 := fun l => by
    induction l with
    | nil => intro _; rfl
    | cons x l ih =>
      intro h
      rw [List.sum_cons, h x List.mem_cons_self, ih fun y hy => h y (List.mem_cons_of_mem _ hy)]
      grind
  refine z _ fun x hx => ?_
  obtain ⟨p, _, rfl⟩ := List.mem_map.mp hx
  refine z _ fun y hy => ?_
  obtain ⟨q, _, rfl⟩ := List.mem_map.mp hy
  refine if_neg ?_
  rintro ⟨h1, h2⟩
  rw [← h2, List.length_append] at hv
  omega
theorem wt_joinT {deep : Int} {a b : Tb} (ha : (keys a).Nodup) (hb : (keys b).Nodup) (v : Wd) : wt (joinT deep a b) v = if (v.length : Int) ≤ deep then conv (wt a) (wt b) v else 0 := by
  unfold joinT
  rw [wt_outer, wt_nil]
  by_cases h : (v.length : Int) ≤ deep
  · rw [if_pos h, pairSum_conv hb v h ha]
    grind
  · rw [if_neg h, pairSum_far h]
    grind
end DL
set_option Elab.async false
set_option linter.all false
set_option maxRecDepth 100000
set_option maxHeartbeats 4000000
namespace DL
open PySem PySem.Spec L2
open PyProof.Rows hiding St
open PySem.W (dataLe dataLt alike)
/-! DL40: < of tuples; displays by for that draw -/
open Evl (Ex ex_l ex_t ex_rd)
def ltOk (x y : D) : Bool := alike x y && (tup1 x && (decide (x.depth ≤ 40) && (x.canLay0 && y.canLay0)))
def dLtT (x y : D) : Option D := if ltOk x y = true then some (.bool (dataLt x y)) else none
def rLtD (K : PySem.W.Frag) : R2 := fun x y H Q => ∃ d e, Dp K H x d ∧ Dp K H y e ∧ alike d e = true ∧ d ≠ .none ∧ d.depth ≤ 40 ∧ Q (.bl (dataLt d e)) H
section
variable {X : Cx} {T : List (Addr × Str)} {B : Addr} {W : WX}
end
section
variable {s : S} {Q : SV → S → Prop} {X : Exc → S → Prop}
end
theorem tg_list3 {t r q : D → S → Option S} {a b c : D} {s : S} : tTupT (tConss t (tConss r (tConss q tNils))) 3 (.list [a, b, c]) s = (t a s).bind fun s1 => (r b s1).bind fun s2 => (q c s2).bind some := rfl
theorem tg_list2 {t r : D → S → Option S} {a b : D} {s : S} : tTupT (tConss t (tConss r tNils)) 2 (.list [a, b]) s = (t a s).bind fun s1 => (r b s1).bind some := rfl
/-- dict(pairs) of a sum -/
theorem pairs_R : ∀ (l : Tb), pairsD (l.map eP) = some (l.map fun p => (kW p.1, pR p.2))
  | [] => rfl
  | p :: l => by
    show (keyD (eW p.1)).bind (fun kk => (pairsD (l.map eP)).map ((kk, pR p.2) :: ·)) = _
    rw [pairs_R l]
    rfl
theorem aput_new : ∀ {t : Tb} {w : Wd} {q : Rat}, w ∉ keys t → aput t w q = t ++ [(w, q)]
  | [], _, _, _ => rfl
  | (a, p) :: r, w, q, h => by
    show (if a = w then (a, q) :: r else (a, p) :: aput r w q) = _
    rw [if_neg fun z => h (by rw [← z]; exact List.mem_cons_self), aput_new fun z => h (List.mem_cons_of_mem _ z)]
    rfl
theorem merge_R : ∀ (l t : Tb), (keys (t ++ l)).Nodup → mergeD (tK t) (tX t) (l.map fun p => (kW p.1, pR p.2)) = (tK (t ++ l), tX (t ++ l))
  | [], t, _ => by simp [mergeD]
  | p :: l, t, h => by
    show mergeD (putKs (tK t) (kW p.1)) (putD (tK t) (tX t) (kW p.1) (pR p.2)) (l.map fun p => (kW p.1, pR p.2)) = _
    have hn : p.1 ∉ keys t := by
      intro hm
      unfold keys at h
      rw [List.map_append, List.nodup_append] at h
      exact h.2.2 p.1 hm p.1 (by simp) rfl
    rw [put_k _ _ p.2, put_x, aput_new hn]
    have e : t ++ [(p.1, p.2)] ++ l = t ++ p :: l := by simp
    rw [merge_R l (t ++ [(p.1, p.2)]) (by rw [e]; exact h), e]
theorem wx_dictR {f : M D} {s : S} {Qv : SV → S → Prop} {X : Exc → S → Prop} : WQ (oDict f s) Qv X = WQ (f s) (fun d s1 => WL (match d with
  | .list ps => (pairsD ps).map fun kds => SV.od false (mergeD [] [] kds).1 (mergeD [] [] kds).2
  | _ => none) fun v => Qv v s1) X := wx_un
theorem dict_S {l : Tb} (h : (keys l).Nodup) : (match eS l with
  | .list ps => (pairsD ps).map fun kds => SV.od false (mergeD [] [] kds).1 (mergeD [] [] kds).2
  | _ => none) = some (.od false (tK l) (tX l)) := by
  show (pairsD (l.map eP)).map _ = _
  rw [pairs_R]
  show some (SV.od false (mergeD [] [] (l.map fun p => (kW p.1, pR p.2))).1 (mergeD [] [] (l.map fun p => (kW p.1, pR p.2))).2) = _
  have := merge_R l [] h
  rw [show mergeD [] [] (l.map fun p => (kW p.1, pR p.2)) = (tK l, tX l) from this]
end DL
set_option Elab.async false
set_option linter.all false
set_option maxRecDepth 100000
set_option maxHeartbeats 4000000
local macro_rules | `(tactic| walk_at "run") => `(tactic| try simp only [DL.wo_seq, DL.wo_nil, DL.wo_set, DL.wo_setO, DL.wo_ret, DL.wo_if, DL.wo_drop, DL.wo_asg, DL.wo_par, DL.wo_aug, DL.wo_for, DL.wo_raise, DL.wo_app, DL.wo_setIx, DL.wo_nx, DL.wo_rt, DL.wo_bk, DL.wo_ct, DL.wo_ex, DL.wx_ok, DL.wx_ex, DL.wx_op, DL.wx_un, DL.wx_C, DL.wx_ret, DL.wx_var, DL.wx_nil, DL.wx_cons, DL.wx_tru, DL.wx_not, DL.wx_and, DL.wx_or, DL.wx_andV, DL.wx_orV, DL.wx_notV, DL.wx_if, DL.wx_chain, DL.wx_tup, DL.wx_lst, DL.wx_olst, DL.wx_oD, DL.wx_F, DL.wx_list, DL.wx_nop, DL.wx_p, DL.wx_sl, DL.wx_call, DL.wx_callW, DL.wx_callR, DL.wx_pix, DL.wx_plen, DL.wx_din, DL.wx_dget2, DL.wx_move, DL.wx_why, DL.wl_some, DL.wf_okD, DL.wf_okL, DL.wf_okM, DL.wf_okT, DL.wf_ex, DL.wv_d, DL.wv_ol, DL.wv_od, DL.wv_fd, DL.wb_t, DL.wb_f, DL.wt_b, DL.wh_d, DL.wh_ol, DL.wh_od, DL.wh_fd, DL.wm_d, DL.wm_ol, DL.wm_od, DL.wm_fd, DL.dat_d, DL.dat_ol, DL.dat_od, DL.dat_fd, DL.d_add, DL.d_sub, DL.d_lt, DL.d_le, DL.d_gt, DL.d_ge, DL.d_tru, DL.d_eqInt, DL.d_neg, DL.tg_name, DL.tg_tup2, DL.tg_tup3, DL.ixv_l, DL.ixv_t, DL.ixv_s, DL.ixv_dd, DL.ixv_ol, DL.ixv_od, DL.ixv_fd, DL.ix_t0, DL.ix_t1, DL.ix_t2, DL.ix_l0, DL.ix_l1, DL.ix_l2, DL.d_asB, DL.d_ok0, DL.d_ok1, DL.d_ok2, DL.d_ok3, DL.d_ok4, DL.key_s, DL.key_i, DL.len_ol, DL.len_l, DL.len_t, DL.it_l, DL.it_t, DL.seq_l, DL.seq_t, DL.tru_i, DL.tru_l, DL.tru_n, DL.lk_od, DL.lk_odi, DL.isD_od, DL.isD_fd, DL.isD_d, DL.if_tt, DL.pick_nil, DL.pick_cons, DL.wl_addS, DL.wl_lenS, DL.seq_S, DL.tg_eP, DL.wl_mod, DL.wl_mulI, DL.wl_divI, DL.it_S, DL.wl_powI, DL.wl_rng1, DL.wl_rng2, DL.wx_callB, DL.wx_eqB, DL.wo_clear, DL.wx_pop, DL.wbr_d, DL.tg_list2, DL.tg_list3, DL.wx_dictR, List.set_cons_zero, List.set_cons_succ, List.getElem?_cons_zero, List.getElem?_cons_succ, Option.bind_some, Option.map_some, List.nil_append, List.cons_append, List.append_nil, List.map_cons, List.map_nil, and_true, true_and, reduceIte, Bool.false_eq_true, Bool.not_true, Bool.not_false])
namespace DL
open PySem PySem.Spec L2
open PyProof.Rows hiding St
open PySem.W (dataLe dataLt alike)
/-! DL41: sums added, taken, scaled, cut, weighed -/
noncomputable def g_is_part : S → Out :=
  gSeq (gIf (mTru (mOp dNe (mUn dLen (mCons (mVar 0) mNil)) (mC (.int 2)))) (gRet (oD (mC (.bool false)))) gNil)
  (gSeq (gAsg (mVar 0) (tTupT (tConss (tName 1) (tConss (tName 2) tNils)) 2))
  (gRet (oD (mAndV (mOp dGt (mVar 2) (mC (.int 0))) (mOp dEq (mF (oCall f_common [] (mCons (mUn dAbs (mCons (mVar 1) mNil)) (mCons (mVar 2) mNil)))) (mC (.int 1)))))))
noncomputable def f_is_part : S → Res SV := fnR 3 g_is_part
noncomputable def g_is_sum : S → Out :=
  gSeq (gSetO 1 (oLc (mUn dSeq (mVar 0)) (tTupT (tConss (tName 2) (tConss (tName 3) tNils)) 2) (M.ret true) (mVar 2) [2, 3]))
  (gSeq (gIf (mNot (mTru (mUn dAll (mCons (mF (oLc (mUn dSeq (mVar 0)) (tTupT (tConss (tName 2) (tConss (tName 3) tNils)) 2) (M.ret true) (mAndV (mF (oCall f_is_word [] (mCons (mVar 2) mNil))) (mAndV (mF (oCall f_is_part [] (mCons (mVar 3) mNil))) (mOp dNe (mOp dIx (mVar 3) (mC (.int 0))) (mC (.int 0))))) [2, 3])) mNil)))) (gRet (oD (mC (.bool false)))) gNil)
  (gRet (oD (mUn dAll (mCons (mF (oLc (mOp dZip (mVar 1) (mF (oSl (mVar 1) (mP (mC (.int 1))) mNoP))) (tTupT (tConss (tName 4) (tConss (tName 5) tNils)) 2) (M.ret true) (mOp dLtT (mF (oCall f_order_of [] (mCons (mVar 4) mNil))) (mF (oCall f_order_of [] (mCons (mVar 5) mNil)))) [4, 5])) mNil)))))
noncomputable def f_is_sum : S → Res SV := fnR 6 g_is_sum
noncomputable def g_added : S → Out :=
  gSeq (gSetO 2 (oDict (mVar 0)))
  (gSeq (gFor (mUn dSeq (mVar 1)) (tTupT (tConss (tName 3) (tConss (tName 4) tNils)) 2) (gDrop (mF (oCallR 2 f_put_to [] (mCons (mVar 3) (mCons (mVar 4) mNil))))))
  (gRet (oCall f_rows_of [] (mCons (mVar 2) mNil))))
noncomputable def f_added : S → Res SV := fnR 5 g_added
noncomputable def g_scaled : S → Out :=
  gRet (oD (mIf (mTru (mOp dNe (mOp dIx (mVar 1) (mC (.int 0))) (mC (.int 0)))) (mF (oLc (mUn dSeq (mVar 0)) (tTupT (tConss (tName 2) (tConss (tName 3) tNils)) 2) (M.ret true) (mTup (mCons (mVar 2) (mCons (mF (oCall f_times [] (mCons (mVar 3) (mCons (mVar 1) mNil)))) mNil))) [2, 3])) (mLst mNil)))
noncomputable def f_scaled : S → Res SV := fnR 4 g_scaled
noncomputable def g_taken : S → Out :=
  gSeq (gSetO 2 (oDict (mVar 0)))
  (gSeq (gFor (mUn dSeq (mVar 1)) (tTupT (tConss (tName 3) (tConss (tName 4) tNils)) 2) (gSetIx 2 (mVar 3) (mF (oCall f_less [] (mCons (mDget2 2 (mVar 3) (mC (.tuple [.int 0, .int 1]))) (mCons (mVar 4) mNil))))))
  (gRet (oCall f_rows_of [] (mCons (mVar 2) mNil))))
noncomputable def f_taken : S → Res SV := fnR 5 g_taken
noncomputable def g_cut_off : S → Out :=
  gSeq (gDrop (mF (oCallW f_need_depth [0, 1, 2] [.int (0), .int (6)] (mCons (mVar 1) mNil) mNil)))
  (gRet (oLc (mUn dSeq (mVar 0)) (tTupT (tConss (tName 2) (tConss (tName 3) tNils)) 2) (mTru (mOp dLe (mUn dLen (mCons (mVar 2) mNil)) (mVar 1))) (mTup (mCons (mVar 2) (mCons (mVar 3) mNil))) [2, 3]))
noncomputable def f_cut_off : S → Res SV := fnR 4 g_cut_off
noncomputable def g_weighed : S → Out :=
  gSeq (gSetO 2 (oDict (mVar 1)))
  (gSeq (gSet 3 (mC (.tuple [.int 0, .int 1])))
  (gSeq (gFor (mUn dSeq (mVar 0)) (tTupT (tConss (tName 4) (tConss (tName 5) tNils)) 2) (gIf (mTru (mDin false 2 (mVar 4))) (gSet 3 (mF (oCall f_plus [] (mCons (mVar 3) (mCons (mF (oCall f_times [] (mCons (mVar 5) (mCons (mPix 2 (mVar 4)) mNil)))) mNil))))) gNil))
  (gRet (oD (mVar 3)))))
noncomputable def f_weighed : S → Res SV := fnR 6 g_weighed
noncomputable def gl_weigh : S → Out :=
  gSeq (gSetO 2 (oDict (mVar 1)))
  (gSeq (gSet 3 (mTup (mCons (mC (.int 0)) (mCons (mC (.int 1)) mNil))))
  (gSeq (gFor (mUn dSeq (mVar 0)) (tTupT (tConss (tName 4) (tConss (tName 5) tNils)) 2) (gSet 3 (mF (oCall fl_add [] (mCons (mVar 3) (mCons (mF (oCall fl_mul [] (mCons (mVar 5) (mCons (mDget2 2 (mVar 4) (mTup (mCons (mC (.int 0)) (mCons (mC (.int 1)) mNil)))) mNil)))) mNil))))))
  (gRet (oD (mVar 3)))))
noncomputable def fl_weigh : S → Res SV := fnR 6 gl_weigh
/-- words and weights added -/
def addS (t : Tb) (q : Wd × Rat) : Tb := aput t q.1 (wt t q.1 + q.2)
def addT (a b : Tb) : Tb := b.foldl addS a
def subS (t : Tb) (q : Wd × Rat) : Tb := aput t q.1 (wt t q.1 - q.2)
def subT (a b : Tb) : Tb := b.foldl subS a
def scaT (q : Rat) (a : Tb) : Tb := if q ≠ 0 then a.map fun p => (p.1, p.2 * q) else []
def cutT (deep : Int) (a : Tb) : Tb := a.filter fun p => decide ((p.1.length : Int) ≤ deep)
structure AOk (D M M' : Nat) (a b : Tb) : Prop where
  na : (keys a).Nodup
  nb : (keys b).Nodup
  ha : SB D M a
  hb : SB D M' b
  d0 : D ≠ 0
  d : D < 2 ^ 4000
  m : M + b.length * M' < 2 ^ 4000
  len : a.length + b.length ≤ 10000
theorem SB.wt {D M : Nat} {l : Tb} (h : SB D M l) (w : Wd) : Bd D M (wt l w) := by
  by_cases hw : w ∈ keys l
  · have e := look_mem hw
    have : (w, DL.wt l w) ∈ l := by
      clear h
      induction l with
      | nil => cases hw
      | cons p r ih =>
        obtain ⟨x, q⟩ := p
        rw [wt_cons]
        by_cases e : w = x
        · rw [if_pos e, e]; exact List.mem_cons_self
        · rw [if_neg e]
          have hw' : w ∈ keys r := by
            rcases List.mem_cons.mp hw with z | z
            · exact absurd z e
            · exact z
          exact List.mem_cons_of_mem _ (ih hw' (look_mem hw'))
    exact h.bd _ this
  · rw [wt_not hw]; exact Bd.zero
section
variable {D M M' : Nat} {a b : Tb}
structure AT (D M M' c : Nat) (t : Tb) : Prop where
  nd : (keys t).Nodup
  wo : ∀ w ∈ keys t, isL w = true ∧ w.length ≤ 400
  bd : ∀ w, Bd D (M + c * M') (wt t w)
theorem AOk.start (h : AOk D M M' a b) : AT D M M' 0 a := ⟨h.na, fun w hw => by
  obtain ⟨p, hp, rfl⟩ := List.mem_map.mp hw
  exact h.ha.wo p hp, fun w => (h.ha.wt w).mono (by omega)⟩
theorem AT.put {c : Nat} {t : Tb} (g : AT D M M' c t) {w : Wd} {q r : Rat} (hw : isL w = true ∧ w.length ≤ 400) (hq : Bd D M' q) (e : r = wt t w + q ∨ r = wt t w - q) : AT D M M' (c + 1) (aput t w r) := by
  refine ⟨nodup_aput g.nd, fun v hv => ?_, fun v => ?_⟩
  · rw [keys_aput] at hv
    split at hv
    · exact g.wo v hv
    · rcases List.mem_append.mp hv with z | z
      · exact g.wo v z
      · rw [List.mem_singleton.mp z]; exact hw
  · have em : M + (c + 1) * M' = (M + c * M') + M' := by rw [Nat.succ_mul]; omega
    rw [wt_aput, em]
    split
    · rcases e with rfl | rfl
      · exact (g.bd w).add hq
      · exact (g.bd w).sub hq
    · exact (g.bd v).mono (Nat.le_add_right _ _)
theorem AT.ok {c : Nat} {t : Tb} (g : AT D M M' c t) (h : AOk D M M' a b) (hc : c ≤ b.length) (w : Wd) : Ok (wt t w) := (g.bd w).ok h.d0 (Nat.lt_of_le_of_lt (Nat.add_le_add_left (Nat.mul_le_mul_right _ hc) _) h.m) h.d
theorem AOk.okb (h : AOk D M M' a b) {q : Wd × Rat} (hq : q ∈ b) : Ok q.2 := (h.hb.bd q hq).ok h.d0 (by
  have h1 := h.m
  have : 1 ≤ b.length := List.length_pos_of_mem hq
  have : M' ≤ b.length * M' := Nat.le_mul_of_pos_left _ this
  omega) h.d
theorem AT.tb {c : Nat} {t : Tb} (g : AT D M M' c t) (hl : t.length ≤ 10000) : TbOk t := ⟨g.nd, fun w hw => ⟨(g.wo w hw).1, by have := (g.wo w hw).2; omega⟩, hl⟩
theorem taken_R (h : AOk D M M' a b) : f_taken [.d (eS a), .d (eS b)] = .ok (.ol false ((canon (subT a b)).map eP)) [.un, .un] := by
  refine fn_gives (ds := [eS a, eS b]) ?_
  show WO (g_taken [.d (eS a), .d (eS b), .un, .un, .un]) _ _ _ _ _
  unfold g_taken
  walk_at "run"
  rw [dict_S h.na]
  walk_at "run"
  have lm : (10000 : Nat) < lim := by decide
  refine wo_loop (enc := eP) (fun r s => ∃ t c x3 x4, s = [.d (eS a), .d (eS b), .od false (tK t) (tX t), x3, x4] ∧ r.foldl subS t = subT a b ∧ AT D M M' c t ∧ c + r.length = b.length ∧ t.length ≤ a.length + c ∧ ∀ q ∈ r, q ∈ b) b _ ⟨a, 0, .un, .un, rfl, rfl, h.start, by omega, by omega, fun _ z => z⟩ ?_ ?_
  · rintro q r s ⟨t, c, x3, x4, rfl, ef, g, hc, hl, hm⟩
    have lr : (q :: r).length = r.length + 1 := rfl
    have hq := hm q List.mem_cons_self
    have hlen := h.len
    walk_at "run"
    have el : lookV (.od false (tK t) (tX t)) (eW q.1) = some ((t.lookup q.1).map pR) := by
      show (keyD (eW q.1)).map (lookK (tK t) (tX t)) = _
      show some (lookK (tK t) (tX t) (kW q.1)) = _
      rw [look_t]
    rw [el]
    walk_at "run"
    rw [pR0, getD_R]
    refine wf_eq (less_R (g.ok h (by omega) _) (h.okb hq)) rfl ?_
    walk_at "run"
    rw [setV_R g.nd (by omega)]
    walk_at "run"
    have hl2 := len_aput t q.1 (wt t q.1 - q.2)
    exact ⟨_, c + 1, _, _, rfl, ef, g.put (h.hb.wo q hq) (h.hb.bd q hq) (.inr rfl), by omega, by omega, fun z hz => hm z (List.mem_cons_of_mem _ hz)⟩
  · rintro s ⟨t, c, x3, x4, rfl, ef, g, hc, hl, _⟩
    walk_at "run"
    rw [dict_zip]
    have e : t = subT a b := ef
    have hlen := h.len
    refine wf_eq (rows_R (g.tb (by simp at hc; omega))) rfl ?_
    rw [e]
end
end DL
set_option Elab.async false
set_option linter.all false
set_option maxRecDepth 100000
set_option maxHeartbeats 4000000
namespace DL
open PySem PySem.Spec L2
open PyProof.Rows hiding St
open PySem.W (dataLe dataLt alike)
/-! DL42: what these weigh; weighing; sums known -/
theorem wt_foldS {op : Tb → Wd × Rat → Tb} {sg : Rat} (hop : ∀ t q v, wt (op t q) v = if v = q.1 then wt t v + sg * q.2 else wt t v) : ∀ {b : Tb} (t : Tb) (v : Wd), (keys b).Nodup → wt (b.foldl op t) v = wt t v + sg * wt b v
  | [], t, v, _ => by simp [wt_nil]; grind
  | q :: b, t, v, h => by
    obtain ⟨h1, h2⟩ := List.nodup_cons.mp h
    obtain ⟨w, x⟩ := q
    rw [List.foldl_cons, wt_foldS hop _ v h2, hop, wt_cons]
    by_cases e : v = w
    · subst e
      rw [if_pos rfl, if_pos rfl, wt_not h1]
      grind
    · rw [if_neg e, if_neg e]
theorem wt_addT {a b : Tb} (hb : (keys b).Nodup) (v : Wd) : wt (addT a b) v = wt a v + wt b v := by
  unfold addT
  rw [wt_foldS (sg := 1) (fun t q v => ?_) a v hb]
  · grind
  · unfold addS
    rw [wt_aput]
    by_cases e : v = q.1
    · rw [if_pos e, if_pos e, e]; grind
    · rw [if_neg e, if_neg e]
theorem wt_subT {a b : Tb} (hb : (keys b).Nodup) (v : Wd) : wt (subT a b) v = wt a v - wt b v := by
  unfold subT
  rw [wt_foldS (sg := -1) (fun t q v => ?_) a v hb]
  · grind
  · unfold subS
    rw [wt_aput]
    by_cases e : v = q.1
    · rw [if_pos e, if_pos e, e]; grind
    · rw [if_neg e, if_neg e]
theorem nd_foldS {op : Tb → Wd × Rat → Tb} (hop : ∀ t q, (keys t).Nodup → (keys (op t q)).Nodup) : ∀ (b t : Tb), (keys t).Nodup → (keys (b.foldl op t)).Nodup
  | [], _, h => h
  | q :: b, t, h => nd_foldS hop b _ (hop t q h)
theorem nd_addT {a b : Tb} (ha : (keys a).Nodup) : (keys (addT a b)).Nodup := nd_foldS (fun t q h => nodup_aput h) b a ha
theorem nd_subT {a b : Tb} (ha : (keys a).Nodup) : (keys (subT a b)).Nodup := nd_foldS (fun t q h => nodup_aput h) b a ha
theorem sum_cutT {deep : Int} {a : Tb} (h : IsSum a) : IsSum (cutT deep a) := by
  refine ⟨?_, fun p hp => h.nz p (List.mem_filter.mp hp).1⟩
  have e : (keys (cutT deep a)).Sublist (keys a) := (List.filter_sublist (l := a)).map _
  exact h.up.sublist e
theorem sum_nil : IsSum [] := ⟨List.Pairwise.nil, (fun p hp => nomatch hp)⟩
/-- a canonical one has what its table has -/
theorem SB.canon {D M : Nat} {t : Tb} (h : SB D M t) : SB D M (canon t) := ⟨fun p hp => h.wo p (canon_mem.mp hp).1, fun p hp => h.bd p (canon_mem.mp hp).1⟩
theorem SB.of {D M : Nat} {l : Tb} (hs : IsSum l) (hw : ∀ w, DL.wt l w ≠ 0 → isL w = true ∧ w.length ≤ 400) (hb : ∀ w, Bd D M (DL.wt l w)) : SB D M l := by
  refine ⟨fun p hp => ?_, fun p hp => ?_⟩
  · exact hw p.1 (by rw [wt_mem hs.nd hp]; exact hs.nz p hp)
  · have := hb p.1
    rw [wt_mem hs.nd hp] at this
    exact this
theorem SB.wide {D M k : Nat} {l : Tb} (h : SB D M l) (hk : k ≠ 0) : SB (D * k) (M * k) l := ⟨h.wo, fun p hp => (h.bd p hp).wide hk⟩
theorem SB.mono {D M M' : Nat} {l : Tb} (h : SB D M l) (hm : M ≤ M') : SB D M' l := ⟨h.wo, fun p hp => (h.bd p hp).mono hm⟩
theorem SB.ok {D M : Nat} {l : Tb} (h : SB D M l) (h0 : D ≠ 0) (h1 : D < 2 ^ 4000) (h2 : M < 2 ^ 4000) : ∀ p ∈ l, Ok p.2 := fun p hp => (h.bd p hp).ok h0 h2 h1
theorem SB.word {D M : Nat} {l : Tb} (h : SB D M l) (w : Wd) (hw : DL.wt l w ≠ 0) : isL w = true ∧ w.length ≤ 400 := by
  by_cases hk : w ∈ keys l
  · obtain ⟨p, hp, rfl⟩ := List.mem_map.mp hk
    exact h.wo p hp
  · exact absurd (wt_not hk) hw
theorem IsSum.key {l : Tb} (h : IsSum l) {w : Wd} (hw : w ∈ keys l) : wt l w ≠ 0 := by
  obtain ⟨p, hp, rfl⟩ := List.mem_map.mp hw
  rw [wt_mem h.nd hp]
  exact h.nz p hp
theorem sb_addT {D M M' : Nat} {a b : Tb} (na : (keys a).Nodup) (nb : (keys b).Nodup) (ha : SB D M a) (hb : SB D M' b) : SB D (M + M') (canon (addT a b)) := by
  refine SB.of (canon_sum (nd_addT na)) (fun w hw => ?_) fun w => ?_
  · rw [wt_canon (nd_addT na), wt_addT nb] at hw
    by_cases h1 : wt a w = 0
    · refine hb.word w fun z => hw ?_
      rw [h1, z]; grind
    · exact ha.word w h1
  · rw [wt_canon (nd_addT na), wt_addT nb]
    exact (ha.wt w).add (hb.wt w)
theorem sb_subT {D M M' : Nat} {a b : Tb} (na : (keys a).Nodup) (nb : (keys b).Nodup) (ha : SB D M a) (hb : SB D M' b) : SB D (M + M') (canon (subT a b)) := by
  refine SB.of (canon_sum (nd_subT na)) (fun w hw => ?_) fun w => ?_
  · rw [wt_canon (nd_subT na), wt_subT nb] at hw
    by_cases h1 : wt a w = 0
    · refine hb.word w fun z => hw ?_
      rw [h1, z]; grind
    · exact ha.word w h1
  · rw [wt_canon (nd_subT na), wt_subT nb]
    exact (ha.wt w).sub (hb.wt w)
theorem len_addT : ∀ (b a : Tb), (addT a b).length ≤ a.length + b.length
  | [], a => Nat.le_refl _
  | q :: b, a => by
    have h1 := len_addT b (addS a q)
    have h2 := len_aput a q.1 (wt a q.1 + q.2)
    show (addT (addS a q) b).length ≤ _
    have h3 : (addS a q).length ≤ a.length + 1 := h2
    rw [List.length_cons]
    omega
theorem len_subT : ∀ (b a : Tb), (subT a b).length ≤ a.length + b.length
  | [], a => Nat.le_refl _
  | q :: b, a => by
    have h1 := len_subT b (subS a q)
    have h2 := len_aput a q.1 (wt a q.1 - q.2)
    show (subT (subS a q) b).length ≤ _
    have h3 : (subS a q).length ≤ a.length + 1 := h2
    rw [List.length_cons]
    omega
/-! ### weighing -/
def dot (a b : Tb) : Rat := (a.map fun p => p.2 * wt b p.1).sum
theorem sum_add' {α : Type} (f g : α → Rat) : ∀ l : List α, (l.map fun x => f x + g x).sum = (l.map f).sum + (l.map g).sum
  | [] => by simp; grind
  | x :: l => by rw [List.map_cons, List.sum_cons, List.map_cons, List.sum_cons, List.map_cons, List.sum_cons, sum_add' f g l]; grind
theorem sum_mul' {α : Type} (c : Rat) (f : α → Rat) : ∀ l : List α, (l.map fun x => c * f x).sum = c * (l.map f).sum
  | [] => by simp
  | x :: l => by rw [List.map_cons, List.sum_cons, List.map_cons, List.sum_cons, sum_mul' c f l]; grind
theorem sum_zero' {α : Type} : ∀ l : List α, (l.map fun _ => (0 : Rat)).sum = 0
  | [] => rfl
  | x :: l => by rw [List.map_cons, List.sum_cons, sum_zero' l]; grind
structure WOk (D1 M1 D2 M2 : Nat) (a b : Tb) : Prop where
  nb : (keys b).Nodup
  ha : SB D1 M1 a
  hb : SB D2 M2 b
  d1 : D1 ≠ 0
  d2 : D2 ≠ 0
  d : D1 * D2 < 2 ^ 4000
  m : a.length * (M1 * M2) < 2 ^ 4000
  m1 : M1 < 2 ^ 4000
  m2 : M2 < 2 ^ 4000
section
variable {D1 M1 D2 M2 : Nat} {a b : Tb}
theorem WOk.dd1 (h : WOk D1 M1 D2 M2 a b) : D1 < 2 ^ 4000 := Nat.lt_of_le_of_lt (Nat.le_mul_of_pos_right _ (Nat.pos_of_ne_zero h.d2)) h.d
theorem WOk.dd2 (h : WOk D1 M1 D2 M2 a b) : D2 < 2 ^ 4000 := Nat.lt_of_le_of_lt (Nat.le_mul_of_pos_left _ (Nat.pos_of_ne_zero h.d1)) h.d
end
end DL
set_option Elab.async false
set_option linter.all false
set_option maxRecDepth 100000
set_option maxHeartbeats 4000000
namespace DL
open PySem PySem.Spec L2
open PyProof.Rows hiding St
open PySem.W (dataLe dataLt alike)
/-! DL43: sums in form, with their sizes; what the sums' defs answer -/
theorem p2mul {a b k j : Nat} (h1 : a ≤ 2 ^ k) (h2 : b ≤ 2 ^ j) : a * b ≤ 2 ^ (k + j) := by rw [Nat.pow_add]; exact Nat.mul_le_mul h1 h2
theorem p2lt {a k : Nat} (h : a ≤ 2 ^ k) (hk : k < 4000) : a < 2 ^ 4000 := Nat.lt_of_le_of_lt h (Nat.pow_lt_pow_right (by decide) hk)
theorem p2add {a b k : Nat} (h1 : a ≤ 2 ^ k) (h2 : b ≤ 2 ^ k) : a + b ≤ 2 ^ (k + 1) := by rw [Nat.pow_succ]; omega
theorem p2mono {a k j : Nat} (h : a ≤ 2 ^ k) (hk : k ≤ j) : a ≤ 2 ^ j := Nat.le_trans h (Nat.pow_le_pow_right (by decide) hk)
/-- a number of so many bits -/
def Qb (k : Nat) (q : Rat) : Prop := ∃ D M, D ≠ 0 ∧ D ≤ 2 ^ k ∧ M ≤ 2 ^ k ∧ Bd D M q
theorem Qb.ok {k : Nat} {q : Rat} (h : Qb k q) (hk : k < 4000) : Ok q := by
  obtain ⟨D, M, h0, h1, h2, h3⟩ := h
  exact h3.ok h0 (p2lt h2 hk) (p2lt h1 hk)
theorem Qb.mono {k j : Nat} {q : Rat} (h : Qb k q) (hk : k ≤ j) : Qb j q := by
  obtain ⟨D, M, h0, h1, h2, h3⟩ := h
  exact ⟨D, M, h0, p2mono h1 hk, p2mono h2 hk, h3⟩
theorem Sz.qb {k : Nat} {q : Rat} (h : Sz k q) : Qb k q := ⟨_, _, q.den_nz, Nat.le_of_lt h.den, Nat.le_of_lt h.num, Bd.self q⟩
theorem Qb.mul {k j : Nat} {p q : Rat} (h : Qb k p) (g : Qb j q) : Qb (k + j) (p * q) := by
  obtain ⟨D, M, h0, h1, h2, h3⟩ := h
  obtain ⟨E, N, g0, g1, g2, g3⟩ := g
  exact ⟨_, _, Nat.mul_ne_zero h0 g0, p2mul h1 g1, p2mul h2 g2, h3.mul g3⟩
theorem Qb.add {k j : Nat} {p q : Rat} (h : Qb k p) (g : Qb j q) : Qb (k + j + 1) (p + q) := by
  obtain ⟨D, M, h0, h1, h2, h3⟩ := h
  obtain ⟨E, N, g0, g1, g2, g3⟩ := g
  have a := h3.wide g0
  have b := g3.wide h0
  rw [Nat.mul_comm E D] at b
  exact ⟨_, _, Nat.mul_ne_zero h0 g0, p2mono (p2mul h1 g1) (by omega), p2add (p2mul h2 g1) (by rw [Nat.add_comm]; exact p2mul g2 h1), a.add b⟩
theorem Qb.neg {k : Nat} {p : Rat} (h : Qb k p) : Qb k (-p) := by
  obtain ⟨D, M, h0, h1, h2, h3⟩ := h
  exact ⟨D, M, h0, h1, h2, h3.neg⟩
theorem Qb.zero {k : Nat} : Qb k 0 := ⟨1, 0, by decide, Nat.one_le_two_pow, Nat.zero_le _, Bd.zero⟩
/-- a sum in form: k bits in all, n words -/
structure SM (k n : Nat) (l : Tb) : Prop where
  sum : IsSum l
  len : l.length ≤ n
  sb : ∃ D M, D ≠ 0 ∧ D ≤ 2 ^ k ∧ M ≤ 2 ^ k ∧ SB D M l
theorem SM.mono {k n j m : Nat} {l : Tb} (h : SM k n l) (hk : k ≤ j) (hn : n ≤ m) : SM j m l := by
  obtain ⟨D, M, h0, h1, h2, h3⟩ := h.sb
  exact ⟨h.sum, Nat.le_trans h.len hn, D, M, h0, p2mono h1 hk, p2mono h2 hk, h3⟩
theorem SM.isL {k n : Nat} {l : Tb} (h : SM k n l) : ∀ p ∈ l, DL.isL p.1 = true := by
  obtain ⟨D, M, h0, h1, h2, h3⟩ := h.sb
  exact fun p hp => (h3.wo p hp).1
theorem SM.qb {k n : Nat} {l : Tb} (h : SM k n l) (w : Wd) : Qb k (wt l w) := by
  obtain ⟨D, M, h0, h1, h2, h3⟩ := h.sb
  exact ⟨D, M, h0, h1, h2, h3.wt w⟩
theorem SM.qbm {k n : Nat} {l : Tb} (h : SM k n l) : ∀ p ∈ l, Qb k p.2 := by
  obtain ⟨D, M, h0, h1, h2, h3⟩ := h.sb
  exact fun p hp => ⟨D, M, h0, h1, h2, h3.bd p hp⟩
theorem SM.nil {k n : Nat} : SM k n [] := ⟨sum_nil, Nat.zero_le _, 1, 0, by decide, Nat.one_le_two_pow, Nat.zero_le _, (fun p hp => nomatch hp), (fun p hp => nomatch hp)⟩
theorem SM.one {k : Nat} {w : Wd} {q : Rat} (hw : DL.isL w = true) (hl : w.length ≤ 400) (hz : q ≠ 0) (hq : Qb k q) : SM k 1 [(w, q)] := by
  obtain ⟨D, M, h0, h1, h2, h3⟩ := hq
  refine ⟨⟨List.pairwise_singleton _ _, fun p hp => ?_⟩, Nat.le_refl _, D, M, h0, h1, h2, fun p hp => ?_, fun p hp => ?_⟩
  all_goals rw [List.mem_singleton.mp hp]
  · exact hz
  · exact ⟨hw, hl⟩
  · exact h3
theorem DS0.sm {deep most : Nat} {l : Tb} (h : DS0 deep most l) (hd : deep ≤ 400) : SM (30 + 30 * most) most l := by
  obtain ⟨Dn, h1, h2, h3⟩ := h.sb hd
  exact ⟨h.sum, h.len, Dn, _, h1, p2mono h2 (by omega), p2mul (Nat.le_refl _) h2, h3⟩
section
variable {k n j m : Nat} {a b : Tb}
theorem SM.both (ha : SM k n a) (hb : SM j m b) : ∃ D M M', D ≠ 0 ∧ D ≤ 2 ^ (k + j) ∧ M ≤ 2 ^ (k + j) ∧ M' ≤ 2 ^ (k + j) ∧ SB D M a ∧ SB D M' b := by
  obtain ⟨D, M, h0, h1, h2, h3⟩ := ha.sb
  obtain ⟨E, N, g0, g1, g2, g3⟩ := hb.sb
  have b := g3.wide h0
  rw [Nat.mul_comm E D] at b
  exact ⟨_, _, _, Nat.mul_ne_zero h0 g0, p2mul h1 g1, p2mul h2 g1, by rw [Nat.add_comm]; exact p2mul g2 h1, h3.wide g0, b⟩
theorem aok (ha : SM k n a) (hb : SM j m b) (hk : k + j + 15 < 4000) (hn : n + m ≤ 10000) : ∃ D M M', AOk D M M' a b ∧ D ≤ 2 ^ (k + j) ∧ M ≤ 2 ^ (k + j) ∧ M' ≤ 2 ^ (k + j) := by
  obtain ⟨D, M, M', h0, h1, h2, h2', h3, h4⟩ := ha.both hb
  have la := ha.len
  have lb := hb.len
  refine ⟨D, M, M', ⟨ha.sum.nd, hb.sum.nd, h3, h4, h0, p2lt h1 (by omega), ?_, by omega⟩, h1, h2, h2'⟩
  have e1 : b.length ≤ 2 ^ 14 := by omega
  have e2 := p2mul e1 h2'
  exact p2lt (p2add (p2mono h2 (show k + j ≤ 14 + (k + j) by omega)) e2) (by omega)
theorem taken_M (ha : SM k n a) (hb : SM j m b) (hk : k + j + 15 < 4000) (hn : n + m ≤ 10000) : ∃ c, f_taken [.d (eS a), .d (eS b)] = .ok (.ol false (c.map eP)) [.un, .un] ∧ SM (k + j + 1) (n + m) c ∧ ∀ w, wt c w = wt a w - wt b w := by
  obtain ⟨D, M, M', h, h1, h2, h2'⟩ := aok ha hb hk hn
  have nd : (keys (subT a b)).Nodup := nd_subT h.na
  refine ⟨_, taken_R h, ⟨canon_sum nd, ?_, D, M + M', h.d0, p2mono h1 (by omega), p2add h2 h2', sb_subT h.na h.nb h.ha h.hb⟩, fun w => by rw [wt_canon nd, wt_subT h.nb]⟩
  have e1 := canon_len (subT a b)
  have e2 := len_subT b a
  have la := ha.len
  have lb := hb.len
  omega
theorem jok (ha : SM k n a) (hb : SM j m b) (hk : k + j + 14 < 4000) (hn : n * m ≤ 10000) : ∃ D1 M1 D2 M2, JOk D1 M1 D2 M2 a b ∧ D1 * D2 ≤ 2 ^ (k + j) ∧ (a.length * b.length) * (M1 * M2) ≤ 2 ^ (14 + (k + j)) := by
  obtain ⟨D, M, h0, h1, h2, h3⟩ := ha.sb
  obtain ⟨E, N, g0, g1, g2, g3⟩ := hb.sb
  have ll : a.length * b.length ≤ 10000 := Nat.le_trans (Nat.mul_le_mul ha.len hb.len) hn
  have e1 : a.length * b.length ≤ 2 ^ 14 := by omega
  have e2 := p2mul e1 (p2mul h2 g2)
  exact ⟨D, M, E, N, ⟨h3, g3, h0, g0, p2lt (p2mul h1 g1) (by omega), p2lt e2 (by omega), p2lt h2 (by omega), p2lt g2 (by omega), ll⟩, p2mul h1 g1, e2⟩
theorem joinT_SM {deep : Int} (ha : SM k n a) (hb : SM j m b) (h6 : deep ≤ 6) (hk : k + j + 14 < 4000) (hn : n * m ≤ 10000) : SM (14 + (k + j)) (n * m) (canon (joinT deep a b)) ∧ ∀ w, wt (canon (joinT deep a b)) w = if (w.length : Int) ≤ deep then conv (wt a) (wt b) w else 0 := by
  obtain ⟨D1, M1, D2, M2, h, e1, e2⟩ := jok ha hb hk hn
  have g := joinT_GT (deep := deep) h
  have hw : ∀ w, wt (canon (joinT deep a b)) w = if (w.length : Int) ≤ deep then conv (wt a) (wt b) w else 0 := fun w => by rw [wt_canon g.nd, wt_joinT ha.sum.nd hb.sum.nd]
  have cs := canon_sum g.nd
  refine ⟨⟨cs, ?_, D1 * D2, _, h.ne, p2mono e1 (by omega), e2, SB.of cs (fun w z => ?_) fun w => by rw [wt_canon g.nd]; exact g.bd w⟩, hw⟩
  · have := canon_len (joinT deep a b)
    exact Nat.le_trans this (Nat.le_trans g.len (Nat.mul_le_mul ha.len hb.len))
  · have hl : (w.length : Int) ≤ deep := by
      by_cases y : (w.length : Int) ≤ deep
      · exact y
      · rw [hw w, if_neg y] at z; exact absurd rfl z
    refine ⟨?_, by omega⟩
    by_cases hk : w ∈ keys (joinT deep a b)
    · exact (g.wo w hk).1
    · rw [wt_canon g.nd, wt_not hk] at z; exact absurd rfl z
theorem joined_M {deep : Int} (ha : SM k n a) (hb : SM j m b) (h0 : 0 ≤ deep) (h6 : deep ≤ 6) (hk : k + j + 14 < 4000) (hn : n * m ≤ 10000) : ∃ c, f_joined [.d (eS a), .d (eS b), .d (.int deep)] = .ok (.ol false (c.map eP)) [.un, .un, .un] ∧ SM (14 + (k + j)) (n * m) c ∧ ∀ w, wt c w = if (w.length : Int) ≤ deep then conv (wt a) (wt b) w else 0 := by
  obtain ⟨D1, M1, D2, M2, h, e1, e2⟩ := jok ha hb hk hn
  exact ⟨_, joined_R h h0 h6, joinT_SM ha hb h6 hk hn⟩
theorem lawjoin_M {deep : Int} (ha : SM k n a) (hb : SM j m b) (h6 : deep ≤ 6) (hk : k + j + 14 < 4000) (hn : n * m ≤ 10000) : ∃ c, fl_join [.d (eS a), .d (eS b), .d (.int deep)] = .ok (.ol false (c.map eP)) [.un, .un, .un] ∧ SM (14 + (k + j)) (n * m) c ∧ ∀ w, wt c w = if (w.length : Int) ≤ deep then conv (wt a) (wt b) w else 0 := by
  obtain ⟨D1, M1, D2, M2, h, e1, e2⟩ := jok ha hb hk hn
  exact ⟨_, lawjoin_R h, joinT_SM ha hb h6 hk hn⟩
end
/-! ### weighing is of two sides alike -/
def rstV : Option SV → SV
  | some (.d x) => .d x
  | _ => .un
theorem rest_nil {s s' : S} : restS s s' [] = s' := rfl
theorem rest_cons {s s' : S} {v : Nat} {vs : List Nat} : restS s s' (v :: vs) = (restS s s' vs).set v (rstV s[v]?) := by
  show (restS s s' vs).set v _ = _
  congr 1
theorem rst_d {x : D} : rstV (some (.d x)) = .d x := rfl
theorem rst_un : rstV (some .un) = .un := rfl
theorem wipe_nil {s : S} : wipeS s [] = s := rfl
theorem wipe_cons {s : S} {v : Nat} {vs : List Nat} : wipeS s (v :: vs) = (wipeS s vs).set v .un := rfl
end DL
set_option Elab.async false
set_option linter.all false
set_option maxRecDepth 100000
set_option maxHeartbeats 4000000
local macro_rules | `(tactic| walk_at "run") => `(tactic| try simp only [DL.wo_seq, DL.wo_nil, DL.wo_set, DL.wo_setO, DL.wo_ret, DL.wo_if, DL.wo_drop, DL.wo_asg, DL.wo_par, DL.wo_aug, DL.wo_for, DL.wo_raise, DL.wo_app, DL.wo_setIx, DL.wo_nx, DL.wo_rt, DL.wo_bk, DL.wo_ct, DL.wo_ex, DL.wx_ok, DL.wx_ex, DL.wx_op, DL.wx_un, DL.wx_C, DL.wx_ret, DL.wx_var, DL.wx_nil, DL.wx_cons, DL.wx_tru, DL.wx_not, DL.wx_and, DL.wx_or, DL.wx_andV, DL.wx_orV, DL.wx_notV, DL.wx_if, DL.wx_chain, DL.wx_tup, DL.wx_lst, DL.wx_olst, DL.wx_oD, DL.wx_F, DL.wx_list, DL.wx_nop, DL.wx_p, DL.wx_sl, DL.wx_call, DL.wx_callW, DL.wx_callR, DL.wx_pix, DL.wx_plen, DL.wx_din, DL.wx_dget2, DL.wx_move, DL.wx_why, DL.wl_some, DL.wf_okD, DL.wf_okL, DL.wf_okM, DL.wf_okT, DL.wf_ex, DL.wv_d, DL.wv_ol, DL.wv_od, DL.wv_fd, DL.wb_t, DL.wb_f, DL.wt_b, DL.wh_d, DL.wh_ol, DL.wh_od, DL.wh_fd, DL.wm_d, DL.wm_ol, DL.wm_od, DL.wm_fd, DL.dat_d, DL.dat_ol, DL.dat_od, DL.dat_fd, DL.d_add, DL.d_sub, DL.d_lt, DL.d_le, DL.d_gt, DL.d_ge, DL.d_tru, DL.d_eqInt, DL.d_neg, DL.tg_name, DL.tg_tup2, DL.tg_tup3, DL.ixv_l, DL.ixv_t, DL.ixv_s, DL.ixv_dd, DL.ixv_ol, DL.ixv_od, DL.ixv_fd, DL.ix_t0, DL.ix_t1, DL.ix_t2, DL.ix_l0, DL.ix_l1, DL.ix_l2, DL.d_asB, DL.d_ok0, DL.d_ok1, DL.d_ok2, DL.d_ok3, DL.d_ok4, DL.key_s, DL.key_i, DL.len_ol, DL.len_l, DL.len_t, DL.it_l, DL.it_t, DL.seq_l, DL.seq_t, DL.tru_i, DL.tru_l, DL.tru_n, DL.lk_od, DL.lk_odi, DL.isD_od, DL.isD_fd, DL.isD_d, DL.if_tt, DL.pick_nil, DL.pick_cons, DL.wl_addS, DL.wl_lenS, DL.seq_S, DL.tg_eP, DL.wl_mod, DL.wl_mulI, DL.wl_divI, DL.it_S, DL.wl_powI, DL.wl_rng1, DL.wl_rng2, DL.wx_callB, DL.wx_eqB, DL.wo_clear, DL.wx_pop, DL.wbr_d, DL.tg_list2, DL.tg_list3, DL.wx_dictR, DL.rest_nil, DL.rest_cons, DL.rst_d, DL.rst_un, DL.wipe_nil, DL.wipe_cons, List.set_cons_zero, List.set_cons_succ, List.getElem?_cons_zero, List.getElem?_cons_succ, Option.bind_some, Option.map_some, List.nil_append, List.cons_append, List.append_nil, List.map_cons, List.map_nil, and_true, true_and, reduceIte, Bool.false_eq_true, Bool.not_true, Bool.not_false])
namespace DL
open PySem PySem.Spec L2
open PyProof.Rows hiding St
open PySem.W (dataLe dataLt alike)
/-! DL44: sums known; likes -/
theorem wf_like_eq {n : Nat} {x : D} {Q : SV → S → Prop} {X : Exc → S → Prop} (h : likeOk n x = true) : WF (f_like n [.d x, .d x]) Q X = Q (.d (.bool true)) [.un, .un] := by
  show (match f_like n [.d x, .d x] with
    | .ok rv t => (rv.rf = false ∧ Q rv t)
    | .ex c t => X c t
    | .bad => False) = _
  rw [like_refl n _ h]
  exact propext ⟨fun z => z.2, fun z => ⟨rfl, z⟩⟩
theorem wl_ne {x y : D} {Q : D → Prop} (e : x = y) (h : SeqAt.shaped y = true) (q : Q (.bool false)) : WL (dNe x y) Q := by
  rw [e, ne_same h]; exact q
end DL
set_option Elab.async false
set_option linter.all false
set_option maxRecDepth 100000
set_option maxHeartbeats 4000000
namespace DL
open PySem PySem.Spec L2
open PyProof.Rows hiding St
open PySem.W (dataLe dataLt alike)
/-! DL45: list + list; {k: v}; strings' heads and tails -/
section
variable {X : Cx} {T : List (Addr × Str)} {B : Addr} {W : WX}
open Evl (Ex ex_l ex_t ex_rd)
def dCat : D → D → Option SV
  | .list xs, .list ys => if xs.length + ys.length ≤ lim then some (.ol false (xs ++ ys)) else none
  | _, _ => none
def oCat (f g : M D) : M SV := f.bind fun a => g.bind fun b => lift (dCat a) b
def rCatL (K : PySem.W.Frag) : R2 := fun x y H Q => ∃ l b xs zs, x = .ref l ∧ y = .ref b ∧ SqL K H l xs ∧ SqL K H b zs ∧ xs.length + zs.length ≤ sizeLine ∧ ∀ p, H p = none → Q (.ref p) (upd H p (.lst (xs ++ zs)))
theorem op_catL : OpR X (binaryOp .Add) (rCatL X.K) := by
  intro pins s σ H x y v u Q I rx ry h
  obtain ⟨l, b, xs, zs, rfl, rfl, hx, hz, hl, q⟩ := h
  cases rx
  cases ry
  obtain ⟨its, r1, t1, z1⟩ := I.list hx
  obtain ⟨its2, r2, t2, z2⟩ := I.list hz
  obtain ⟨⟨cls, dd, data, sl⟩, ho, hc, n, hd⟩ := id t1.isList
  obtain ⟨⟨cls2, dd2, data2, sl2⟩, ho2, hc2, n2, hd2⟩ := id t2.isList
  simp only at hc hd hc2 hd2
  subst hc hd hc2 hd2
  have h1 := r1.length
  have h2 := r2.length
  refine concat_meets ⟨_, ho, rfl⟩ ⟨_, ho2, rfl⟩ noFill_list_add seq_list_add PySem.F.slot_list_add PySem.F.entry_list_add (PySem.F.args_list_add_2 _ _) (list_addW l b its.toArray its2.toArray n n2 dd dd2 sl sl2 (by rw [List.size_toArray, List.size_toArray]; omega)) ⟨ho, ho2, ?_⟩
  have ea : its.toArray ++ its2.toArray = (its ++ its2).toArray := by simp
  rw [ea]
  refine ⟨.ref s.heap.objs.size, _, I.laid (t' := s.toks) (o := .lst (xs ++ zs)) (fun b ob q => Heap.get?_push_of_some _ q) (Nat.le_refl _) ?_, rfl, q _ (I.hok.fresh (Nat.le_refl _))⟩
  exact ⟨by rw [List.length_append]; exact hl, _, 0, r1.append r2, Heap.get?_push_size _ rfl⟩
theorem do_cat {a b : Expr} {fa fb : M D} {pos : Pos} (ha : DE X T B W a fa) (hb : DE X T B W b fb) : DO X T B W (.BinOp a .Add b pos) (oCat fa fb) :=
  pe_weak (pe_op op_catL ha hb) fun σ H Q ⟨F, G, s, I, p⟩ => runE I p fun F1 G1 H1 s1 v d g1 e1 I1 r1 p1 => runE I1 p1 fun F2 G2 H2 s2 u e g2 e2 I2 r2 p2 => by
    obtain ⟨x, eg, p4⟩ := lift_inv p2
    have r3 := r1.mono e2
    unfold dCat at eg
    split at eg
    · obtain ⟨hl, rfl⟩ := ite_inv eg
      obtain ⟨a, vs, rfl, hs, r⟩ := r3.lst_inv
      obtain ⟨b, ws, rfl, hs2, r'⟩ := r2.lst_inv
      refine ⟨a, b, vs, ws, rfl, rfl, ex_l I2.gh hs, ex_l I2.gh hs2, ?_, fun q hq => ?_⟩
      · have h1 := r.len
        have h2 := r'.len
        have := lim_le hl
        omega
      · exact p4 F2 G2 _ Gr.refl (Ex.refl _) (I2.loose hq) _ (I2.newO hq ⟨q, _, rfl, (fun z => nomatch z), upd_same, r.app r', I2.freshG hq, I2.freshF hq⟩)
    · cases eg
end
section
variable {s : S} {Qv : SV → S → Prop} {X : Exc → S → Prop}
theorem wx_cat {f g : M D} : WQ (oCat f g s) Qv X = WQ (f s) (fun a s1 => WQ (g s1) (fun b s2 => WL (dCat a b) fun v => Qv v s2) X) X := by
  unfold oCat
  rw [wx_mbind]
  refine wx_ext fun d s1 => ?_
  rw [wx_mbind]
  refine wx_ext fun e s2 => ?_
  exact wx_lift
theorem wl_cat {xs ys : List D} {Q : SV → Prop} : WL (dCat (.list xs) (.list ys)) Q = (xs.length + ys.length ≤ lim ∧ Q (.ol false (xs ++ ys))) := wl_if
theorem wx_disp1 {f g : M D} : WQ (oDisp1 f g s) Qv X = WQ (f s) (fun a s1 => WQ (g s1) (fun b s2 => WL ((keyD a).map fun kk => SV.od false [kk] [b]) fun v => Qv v s2) X) X := by
  unfold oDisp1
  rw [wx_mbind]
  refine wx_ext fun d s1 => ?_
  rw [wx_mbind]
  refine wx_ext fun e s2 => ?_
  exact wx_lift
end
theorem key_W {w : Wd} : keyD (eW w) = some (kW w) := rfl
/-! ### tables of other things -/
def tE (e : Rat → D) (l : Tb) : List D := l.map fun p => e p.2
def eDi (e : Rat → D) (l : Tb) : D := .dict (l.map fun p => (eW p.1, e p.2))
section
variable {e : Rat → D}
open Classical in
end
end DL
set_option Elab.async false
set_option linter.all false
set_option maxRecDepth 100000
set_option maxHeartbeats 4000000
local macro_rules | `(tactic| walk_at "run") => `(tactic| try simp only [DL.wo_seq, DL.wo_nil, DL.wo_set, DL.wo_setO, DL.wo_ret, DL.wo_if, DL.wo_drop, DL.wo_asg, DL.wo_par, DL.wo_aug, DL.wo_for, DL.wo_raise, DL.wo_app, DL.wo_setIx, DL.wo_nx, DL.wo_rt, DL.wo_bk, DL.wo_ct, DL.wo_ex, DL.wx_ok, DL.wx_ex, DL.wx_op, DL.wx_un, DL.wx_C, DL.wx_ret, DL.wx_var, DL.wx_nil, DL.wx_cons, DL.wx_tru, DL.wx_not, DL.wx_and, DL.wx_or, DL.wx_andV, DL.wx_orV, DL.wx_notV, DL.wx_if, DL.wx_chain, DL.wx_tup, DL.wx_lst, DL.wx_olst, DL.wx_oD, DL.wx_F, DL.wx_list, DL.wx_nop, DL.wx_p, DL.wx_sl, DL.wx_call, DL.wx_callW, DL.wx_callR, DL.wx_pix, DL.wx_plen, DL.wx_din, DL.wx_dget2, DL.wx_move, DL.wx_why, DL.wl_some, DL.wf_okD, DL.wf_okL, DL.wf_okM, DL.wf_okT, DL.wf_ex, DL.wv_d, DL.wv_ol, DL.wv_od, DL.wv_fd, DL.wb_t, DL.wb_f, DL.wt_b, DL.wh_d, DL.wh_ol, DL.wh_od, DL.wh_fd, DL.wm_d, DL.wm_ol, DL.wm_od, DL.wm_fd, DL.dat_d, DL.dat_ol, DL.dat_od, DL.dat_fd, DL.d_add, DL.d_sub, DL.d_lt, DL.d_le, DL.d_gt, DL.d_ge, DL.d_tru, DL.d_eqInt, DL.d_neg, DL.tg_name, DL.tg_tup2, DL.tg_tup3, DL.ixv_l, DL.ixv_t, DL.ixv_s, DL.ixv_dd, DL.ixv_ol, DL.ixv_od, DL.ixv_fd, DL.ix_t0, DL.ix_t1, DL.ix_t2, DL.ix_l0, DL.ix_l1, DL.ix_l2, DL.d_asB, DL.d_ok0, DL.d_ok1, DL.d_ok2, DL.d_ok3, DL.d_ok4, DL.key_s, DL.key_i, DL.len_ol, DL.len_l, DL.len_t, DL.it_l, DL.it_t, DL.seq_l, DL.seq_t, DL.tru_i, DL.tru_l, DL.tru_n, DL.lk_od, DL.lk_odi, DL.isD_od, DL.isD_fd, DL.isD_d, DL.if_tt, DL.pick_nil, DL.pick_cons, DL.wl_addS, DL.wl_lenS, DL.seq_S, DL.tg_eP, DL.wl_mod, DL.wl_mulI, DL.wl_divI, DL.it_S, DL.wl_powI, DL.wl_rng1, DL.wl_rng2, DL.wx_callB, DL.wx_eqB, DL.wo_clear, DL.wx_pop, DL.wbr_d, DL.tg_list2, DL.tg_list3, DL.wx_dictR, DL.rest_nil, DL.rest_cons, DL.rst_d, DL.rst_un, DL.wx_cat, DL.wl_cat, DL.wx_disp1, DL.key_W, DL.wipe_nil, DL.wipe_cons, List.set_cons_zero, List.set_cons_succ, List.getElem?_cons_zero, List.getElem?_cons_succ, Option.bind_some, Option.map_some, List.nil_append, List.cons_append, List.append_nil, List.map_cons, List.map_nil, and_true, true_and, reduceIte, Bool.false_eq_true, Bool.not_true, Bool.not_false])
namespace DL
open PySem PySem.Spec L2
open PyProof.Rows hiding St
open PySem.W (dataLe dataLt alike)
/-! DL46: words laid into one another, as functions -/
def dv (x : Nat) (f : Wd → Rat) : Wd → Rat := fun u => f (x :: u)
def shW : Wd → (Wd → Rat) → (Wd → Rat) → Rat
  | [], f, g => f [] * g []
  | x :: w, f, g => shW w (dv x f) g + shW w f (dv x g)
def sh (f g : Wd → Rat) (w : Wd) : Rat := shW w f g
theorem sh_nil (f g : Wd → Rat) : sh f g [] = f [] * g [] := rfl
theorem sh_cons (f g : Wd → Rat) (x : Nat) (w : Wd) : sh f g (x :: w) = sh (dv x f) g w + sh f (dv x g) w := rfl
theorem sh_comm : ∀ (w : Wd) (f g : Wd → Rat), sh f g w = sh g f w
  | [], f, g => by rw [sh_nil, sh_nil, Rat.mul_comm]
  | x :: w, f, g => by rw [sh_cons, sh_cons, sh_comm w (dv x f) g, sh_comm w f (dv x g), Rat.add_comm]
theorem sh_zeroL : ∀ (w : Wd) (g : Wd → Rat), sh (fun _ => 0) g w = 0
  | [], g => by rw [sh_nil]; grind
  | x :: w, g => by
    have e : dv x (fun _ => (0 : Rat)) = fun _ => 0 := rfl
    rw [sh_cons, e, sh_zeroL w g, sh_zeroL w (dv x g)]; grind
theorem sh_zeroR (w : Wd) (f : Wd → Rat) : sh f (fun _ => 0) w = 0 := by rw [sh_comm, sh_zeroL]
theorem dv_one (x : Nat) (u : Wd) (p : Rat) : dv x (one1 u p) = match u with
  | [] => fun _ => 0
  | a :: u' => if a = x then one1 u' p else fun _ => 0 := by
  funext w
  cases u with
  | nil => rfl
  | cons a u' =>
    show (if x :: w = a :: u' then p else 0) = _
    by_cases h : a = x
    · subst h
      simp [one1]
    · simp only [if_neg h]
      rw [if_neg]
      intro z
      injection z with z1 z2
      exact h z1.symm
theorem sh_unitL : ∀ (w : Wd) (q : Rat) (g : Wd → Rat), sh (one1 [] q) g w = q * g w
  | [], q, g => by rw [sh_nil]; rfl
  | x :: w, q, g => by
    rw [sh_cons, dv_one, sh_unitL w q (dv x g)]
    show sh (fun _ => 0) g w + q * g (x :: w) = _
    rw [sh_zeroL]; grind
/-! ### the ways of laying -/
def laidL : Wd → Wd → List Wd
  | [], v => [v]
  | a :: u, [] => [a :: u]
  | a :: u, b :: v => (laidL u (b :: v)).map (a :: ·) ++ (laidL (a :: u) v).map (b :: ·)
termination_by u v => u.length + v.length
def sft (a : Nat) (f : Wd → Rat) : Wd → Rat
  | [] => 0
  | x :: w => if x = a then f w else 0
def cntQ (l : List Wd) (w : Wd) : Rat := ((l.count w : Nat) : Rat)
theorem cnt_map (a : Nat) (l : List Wd) (w : Wd) : cntQ (l.map (a :: ·)) w = sft a (cntQ l) w := by
  induction l with
  | nil => cases w <;> simp [cntQ, sft]
  | cons u l ih =>
    unfold cntQ at *
    rw [List.map_cons, List.count_cons]
    cases w with
    | nil => simpa [sft] using ih
    | cons x w =>
      simp only [sft] at ih ⊢
      by_cases h : x = a
      · subst h
        rw [if_pos rfl] at ih ⊢
        rw [List.count_cons, Rat.natCast_add, ih, Rat.natCast_add]
        congr 2
        simp
      · rw [if_neg h] at ih ⊢
        have : (a :: u == x :: w) = false := by simp; intro z; exact absurd z.symm h
        rw [this]
        simpa using ih
theorem cnt_app (l m : List Wd) (w : Wd) : cntQ (l ++ m) w = cntQ l w + cntQ m w := by
  unfold cntQ
  rw [List.count_append, Rat.natCast_add]
theorem cnt_one (u w : Wd) : cntQ [u] w = if w = u then 1 else 0 := by
  unfold cntQ
  by_cases h : w = u
  · subst h; simp
  · rw [if_neg h]
    have : (u == w) = false := by simpa using fun z => h z.symm
    simp [List.count_cons, this]
theorem sh_one : ∀ (w u v : Wd) (p q : Rat), sh (one1 u p) (one1 v q) w = p * q * cntQ (laidL u v) w
  | [], u, v, p, q => by
    rw [sh_nil]
    match u, v with
    | [], v =>
      rw [laidL, cnt_one]
      show p * (if [] = v then q else 0) = _
      split <;> grind
    | a :: u, [] =>
      rw [laidL, cnt_one]
      simp [one1]
    | a :: u, b :: v =>
      rw [laidL, cnt_app, cnt_map, cnt_map]
      simp [one1, sft]
      grind
  | x :: w, u, v, p, q => by
    rw [sh_cons, dv_one, dv_one]
    match u, v with
    | [], [] =>
      rw [laidL, cnt_one]
      simp only [sh_zeroL, sh_zeroR]
      simp
      grind
    | [], b :: v =>
      rw [laidL, cnt_one]
      simp only [sh_zeroL]
      by_cases h : b = x
      · subst h
        simp only [if_pos]
        rw [sh_one w [] v p q, laidL, cnt_one]
        simp
        grind
      · simp only [if_neg h, sh_zeroR]
        rw [if_neg (fun z => h (by injection z with z; exact z.symm))]
        grind
    | a :: u, [] =>
      rw [laidL, cnt_one]
      simp only [sh_zeroR]
      by_cases h : a = x
      · subst h
        simp only [if_pos]
        rw [sh_one w u [] p q]
        cases u with
        | nil => rw [laidL, cnt_one]; simp; grind
        | cons c u => rw [laidL, cnt_one]; simp; grind
      · simp only [if_neg h, sh_zeroL]
        rw [if_neg (fun z => h (by injection z with z; exact z.symm))]
        grind
    | a :: u, b :: v =>
      rw [laidL, cnt_app, cnt_map, cnt_map]
      simp only [sft]
      have e1 : sh (if a = x then one1 u p else fun _ => 0) (one1 (b :: v) q) w = p * q * if x = a then cntQ (laidL u (b :: v)) w else 0 := by
        by_cases h : a = x
        · rw [if_pos h, if_pos h.symm, sh_one w]
        · rw [if_neg h, if_neg fun z => h z.symm, sh_zeroL]; grind
      have e2 : sh (one1 (a :: u) p) (if b = x then one1 v q else fun _ => 0) w = p * q * if x = b then cntQ (laidL (a :: u) v) w else 0 := by
        by_cases h : b = x
        · rw [if_pos h, if_pos h.symm, sh_one w]
        · rw [if_neg h, if_neg fun z => h z.symm, sh_zeroR]; grind
      rw [e1, e2]
      grind
/-! ### the table of ways -/
def lyS (a : Nat) (t : Tb) (p : Wd × Rat) : Tb := aput t (a :: p.1) (wt t (a :: p.1) + p.2)
def laidT : Wd → Wd → Tb
  | [], v => [(v, 1)]
  | a :: u, [] => [(a :: u, 1)]
  | a :: u, b :: v => (laidT (a :: u) v).foldl (lyS b) ((laidT u (b :: v)).foldl (lyS a) [])
termination_by u v => u.length + v.length
end DL
set_option Elab.async false
set_option linter.all false
set_option maxRecDepth 100000
set_option maxHeartbeats 4000000
namespace DL
open PySem PySem.Spec L2
open PyProof.Rows hiding St
open PySem.W (dataLe dataLt alike)
/-! DL47: words and sums mixed -/
noncomputable def g_laid (f : S → Res SV) : S → Out :=
  gSeq (gIf (mOr (mTru (mOp dEq (mVar 0) (mC (.str "")))) (mTru (mOp dEq (mVar 1) (mC (.str ""))))) (gRet (oDisp1 (mOp dAdd (mVar 0) (mVar 1)) (mC (.int 1)))) gNil)
  (gSeq (gSetO 2 (fun s => .ok (.od false [] []) s))
  (gSeq (gFor (mUn dSeq (mLst (mCons (mTup (mCons (mOp dIx (mVar 0) (mC (.int 0))) (mCons (mF (oCall f [] (mCons (mF (oSl (mVar 0) (mP (mC (.int 1))) mNoP)) (mCons (mVar 1) mNil)))) mNil))) (mCons (mTup (mCons (mOp dIx (mVar 1) (mC (.int 0))) (mCons (mF (oCall f [] (mCons (mVar 0) (mCons (mF (oSl (mVar 1) (mP (mC (.int 1))) mNoP)) mNil)))) mNil))) mNil)))) (tTupT (tConss (tName 3) (tConss (tName 4) tNils)) 2) (gFor (mUn dKeys (mVar 4)) (tName 5) (gSetIx 2 (mOp dAdd (mVar 3) (mVar 5)) (mOp dAdd (mDget2 2 (mOp dAdd (mVar 3) (mVar 5)) (mC (.int 0))) (mPix 4 (mVar 5))))))
  (gRet (oMove 2))))
noncomputable def f_laid : Nat → S → Res SV
  | 0 => fun _ => .bad
  | n + 1 => fnR 6 (g_laid (f_laid n))
noncomputable def g_mixed : S → Out :=
  gSeq (gDrop (mF (oCallW f_need_depth [0, 1, 2] [.int (0), .int (6)] (mCons (mVar 2) mNil) mNil)))
  (gSeq (gSetO 3 (fun s => .ok (.od false [] []) s))
  (gSeq (gFor (mUn dSeq (mVar 0)) (tTupT (tConss (tName 4) (tConss (tName 5) tNils)) 2) (gFor (mUn dSeq (mVar 1)) (tTupT (tConss (tName 6) (tConss (tName 7) tNils)) 2) (gIf (mTru (mOp dLe (mOp dAdd (mUn dLen (mCons (mVar 4) mNil)) (mUn dLen (mCons (mVar 6) mNil))) (mVar 2))) (gSeq (gSet 8 (mF (oCall f_times [] (mCons (mVar 5) (mCons (mVar 7) mNil)))))
  (gSeq (gSet 9 (mF (oCall (f_laid 8) [] (mCons (mVar 4) (mCons (mVar 6) mNil)))))
  (gFor (mUn dKeys (mVar 9)) (tName 10) (gDrop (mF (oCallR 3 f_put_to [] (mCons (mVar 10) (mCons (mF (oCall f_times [] (mCons (mVar 8) (mCons (mTup (mCons (mPix 9 (mVar 10)) (mCons (mC (.int 1)) mNil))) mNil)))) mNil)))))))) gNil)))
  (gRet (oCall f_rows_of [] (mCons (mVar 3) mNil)))))
noncomputable def f_mixed : S → Res SV := fnR 11 g_mixed
noncomputable def gl_laid (f : S → Res SV) : S → Out :=
  gSeq (gIf (mOr (mTru (mOp dEq (mVar 0) (mC (.str "")))) (mTru (mOp dEq (mVar 1) (mC (.str ""))))) (gRet (oLst (mCons (mOp dAdd (mVar 0) (mVar 1)) mNil))) gNil)
  (gSeq (gSetO 2 (oLc (mUn dSeq (mF (oCall f [] (mCons (mF (oSl (mVar 0) (mP (mC (.int 1))) mNoP)) (mCons (mVar 1) mNil))))) (tName 3) (M.ret true) (mOp dAdd (mOp dIx (mVar 0) (mC (.int 0))) (mVar 3)) [3]))
  (gRet (oCat (mVar 2) (mF (oLc (mUn dSeq (mF (oCall f [] (mCons (mVar 0) (mCons (mF (oSl (mVar 1) (mP (mC (.int 1))) mNoP)) mNil))))) (tName 3) (M.ret true) (mOp dAdd (mOp dIx (mVar 1) (mC (.int 0))) (mVar 3)) [3])))))
noncomputable def fl_laid : Nat → S → Res SV
  | 0 => fun _ => .bad
  | n + 1 => fnR 4 (gl_laid (fl_laid n))
noncomputable def gl_mix : S → Out :=
  gSeq (gSetO 3 (fun s => .ok (.od false [] []) s))
  (gSeq (gFor (mUn dSeq (mVar 0)) (tTupT (tConss (tName 4) (tConss (tName 5) tNils)) 2) (gFor (mUn dSeq (mVar 1)) (tTupT (tConss (tName 6) (tConss (tName 7) tNils)) 2) (gIf (mTru (mOp dLe (mUn dLen (mCons (mOp dAdd (mVar 4) (mVar 6)) mNil)) (mVar 2))) (gFor (mUn dSeq (mF (oCall (fl_laid 8) [] (mCons (mVar 4) (mCons (mVar 6) mNil))))) (tName 8) (gDrop (mF (oCallR 3 fl_put [] (mCons (mVar 8) (mCons (mF (oCall fl_mul [] (mCons (mVar 5) (mCons (mVar 7) mNil)))) mNil)))))) gNil)))
  (gRet (oCall fl_rows [] (mCons (mVar 3) mNil))))
noncomputable def fl_mix : S → Res SV := fnR 9 gl_mix
def pI (q : Rat) : D := .int q.num
def eLd (x : Nat × Tb) : D := .tuple [eW [x.1], eDi pI x.2]
structure LOk (m : Nat) (l : Tb) : Prop where
  nd : (keys l).Nodup
  den : ∀ w, (wt l w).den = 1
  len : l.length ≤ m
  wl : ∀ p ∈ l, p.1.length ≤ 100
end DL
set_option Elab.async false
set_option linter.all false
set_option maxRecDepth 100000
set_option maxHeartbeats 4000000
namespace DL
open PySem PySem.Spec L2
open PyProof.Rows hiding St
open PySem.W (dataLe dataLt alike)
/-! DL48: sums mixed -/
theorem laidL_len : ∀ (u v w : Wd), w ∈ laidL u v → w.length = u.length + v.length
  | [], v, w, h => by rw [laidL] at h; rw [List.mem_singleton.mp h]; simp
  | a :: u, [], w, h => by rw [laidL] at h; rw [List.mem_singleton.mp h]; simp
  | a :: u, b :: v, w, h => by
    rw [laidL] at h
    rcases List.mem_append.mp h with z | z
    · obtain ⟨y, hy, rfl⟩ := List.mem_map.mp z
      have := laidL_len u (b :: v) y hy
      simp only [List.length_cons] at this ⊢; omega
    · obtain ⟨y, hy, rfl⟩ := List.mem_map.mp z
      have := laidL_len (a :: u) v y hy
      simp only [List.length_cons] at this ⊢; omega
termination_by u v => u.length + v.length
/-- what a turn of mixing adds -/
def mixQ (deep : Int) (p q : Wd × Rat) (v : Wd) : Rat := if (p.1.length : Int) + (q.1.length : Int) ≤ deep then p.2 * q.2 * cntQ (laidL p.1 q.1) v else 0
def mixI (c : Rat) (t : Tb) (r : Wd × Rat) : Tb := aput t r.1 (wt t r.1 + c * r.2)
def mixS (deep : Int) (p : Wd × Rat) (t : Tb) (q : Wd × Rat) : Tb := if (p.1.length : Int) + (q.1.length : Int) ≤ deep then (laidT p.1 q.1).foldl (mixI (p.2 * q.2)) t else t
def mixT (deep : Int) (a b : Tb) : Tb := a.foldl (fun t p => b.foldl (mixS deep p) t) []
def mixLI (c : Rat) (t : Tb) (w : Wd) : Tb := aput t w (wt t w + c)
def mixLS (deep : Int) (p : Wd × Rat) (t : Tb) (q : Wd × Rat) : Tb := if (p.1.length : Int) + (q.1.length : Int) ≤ deep then (laidL p.1 q.1).foldl (mixLI (p.2 * q.2)) t else t
def mixL (deep : Int) (a b : Tb) : Tb := a.foldl (fun t p => b.foldl (mixLS deep p) t) []
section
variable {S2 : Wd × Rat → Tb → Wd × Rat → Tb} {deep : Int}
end
/-! ### few words -/
def code : Wd → Nat
  | [] => 0
  | x :: w => (x - 96) + 4 * code w
theorem isL_cons {x : Nat} {w : Wd} (h : isL (x :: w) = true) : (97 ≤ x ∧ x ≤ 100) ∧ isL w = true := by
  have h' : (decide (x ∈ [97, 98, 99, 100]) && isL w) = true := h
  rw [Bool.and_eq_true] at h'
  have := of_decide_eq_true h'.1
  simp at this
  exact ⟨by omega, h'.2⟩
theorem code_inj : ∀ {u v : Wd}, isL u = true → isL v = true → code u = code v → u = v
  | [], [], _, _, _ => rfl
  | [], y :: v, _, hv, e => by
    have := (isL_cons hv).1
    simp only [code] at e; omega
  | x :: u, [], hu, _, e => by
    have := (isL_cons hu).1
    simp only [code] at e; omega
  | x :: u, y :: v, hu, hv, e => by
    obtain ⟨h1, h2⟩ := isL_cons hu
    obtain ⟨h3, h4⟩ := isL_cons hv
    simp only [code] at e
    have hx : x = y := by omega
    subst hx
    rw [code_inj h2 h4 (by omega)]
theorem code_le : ∀ {w : Wd}, isL w = true → 3 * code w + 4 ≤ 4 ^ (w.length + 1)
  | [], _ => by simp [code]
  | x :: w, h => by
    obtain ⟨h1, h2⟩ := isL_cons h
    have := code_le h2
    rw [List.length_cons, Nat.pow_succ]
    simp only [code]
    omega
theorem nodup_lt : ∀ (N : Nat) {l : List Nat}, l.Nodup → (∀ x ∈ l, x < N) → l.length ≤ N
  | 0, l, _, h => by
    cases l with
    | nil => exact Nat.le_refl _
    | cons x l => exact absurd (h x List.mem_cons_self) (Nat.not_lt_zero _)
  | N + 1, l, hd, h => by
    by_cases hm : N ∈ l
    · have h1 := nodup_lt N (hd.erase N) fun x hx => by
        have h2 := h x (List.mem_of_mem_erase hx)
        have h3 : x ≠ N := (hd.mem_erase_iff.mp hx).1
        omega
      rw [List.length_erase_of_mem hm] at h1
      omega
    · have := nodup_lt N hd fun x hx => by
        have h2 := h x hx
        have h3 : x ≠ N := fun z => hm (z ▸ hx)
        omega
      omega
theorem few {t : Tb} (hd : (keys t).Nodup) (hw : ∀ w ∈ keys t, isL w = true ∧ w.length ≤ 6) : t.length ≤ 5461 := by
  have h1 : ((keys t).map code).Nodup := by
    refine List.Pairwise.map code (R := fun a b => isL a = true ∧ isL b = true ∧ a ≠ b) (fun a b h z => h.2.2 (code_inj h.1 h.2.1 z)) ?_
    exact List.Pairwise.imp_of_mem (fun {a b} ha hb n => ⟨(hw a ha).1, (hw b hb).1, n⟩) hd
  have h2 := nodup_lt 5461 h1 fun x hx => by
    obtain ⟨w, hm, rfl⟩ := List.mem_map.mp hx
    obtain ⟨k1, k2⟩ := hw w hm
    have k3 := code_le k1
    have k4 : 4 ^ (w.length + 1) ≤ 4 ^ 7 := Nat.pow_le_pow_right (by decide) (by omega)
    omega
  simpa [keys] using h2
end DL
set_option Elab.async false
set_option linter.all false
set_option maxRecDepth 100000
set_option maxHeartbeats 4000000
namespace DL
open PySem PySem.Spec L2
open PyProof.Rows hiding St
open PySem.W (dataLe dataLt alike)
/-! DL49: what mixed answers -/
structure MT (D M c : Nat) (t : Tb) : Prop where
  nd : (keys t).Nodup
  wo : ∀ w ∈ keys t, isL w = true ∧ w.length ≤ 6
  bd : ∀ w, Bd D (c * M) (wt t w)
theorem MT.nil (D M c : Nat) : MT D M c [] := ⟨List.nodup_nil, (fun w h => nomatch h), fun w => by rw [wt_nil]; exact Bd.zero⟩
theorem MT.few {D M c : Nat} {t : Tb} (h : MT D M c t) : t.length ≤ 5461 := DL.few h.nd h.wo
theorem MT.put {D M c : Nat} {t : Tb} (h : MT D M c t) {w : Wd} {q : Rat} (hw : isL w = true ∧ w.length ≤ 6) (hq : Bd D M q) : MT D M (c + 1) (aput t w (wt t w + q)) := by
  refine ⟨nodup_aput h.nd, fun v hv => ?_, fun v => ?_⟩
  · rw [keys_aput] at hv
    split at hv
    · exact h.wo v hv
    · rcases List.mem_append.mp hv with z | z
      · exact h.wo v z
      · rw [List.mem_singleton.mp z]; exact hw
  · rw [wt_aput, Nat.succ_mul]
    split
    · exact (h.bd w).add hq
    · exact (h.bd v).mono (Nat.le_add_right _ _)
theorem MT.tb {D M c : Nat} {t : Tb} (h : MT D M c t) : TbOk t := ⟨h.nd, fun w hw => ⟨(h.wo w hw).1, by have := (h.wo w hw).2; omega⟩, by have := h.few; omega⟩
theorem MT.ok {D M c : Nat} {t : Tb} (h : MT D M c t) (hD : D ≠ 0) (h1 : D < 2 ^ 4000) (h2 : c * M < 2 ^ 4000) (w : Wd) : Ok (wt t w) := (h.bd w).ok hD h2 h1
structure MOk (D1 M1 D2 M2 : Nat) (a b : Tb) : Prop where
  ha : SB D1 M1 a
  hb : SB D2 M2 b
  d1 : D1 ≠ 0
  d2 : D2 ≠ 0
  d : D1 * D2 < 2 ^ 4000
  m : (a.length * (b.length * 64) + 1) * (M1 * M2 * 64) < 2 ^ 4000
  m1 : M1 < 2 ^ 4000
  m2 : M2 < 2 ^ 4000
section
variable {D1 M1 D2 M2 : Nat} {a b : Tb} {deep : Int}
theorem MOk.ne (h : MOk D1 M1 D2 M2 a b) : D1 * D2 ≠ 0 := Nat.mul_ne_zero h.d1 h.d2
theorem MOk.dd1 (h : MOk D1 M1 D2 M2 a b) : D1 < 2 ^ 4000 := Nat.lt_of_le_of_lt (Nat.le_mul_of_pos_right _ (Nat.pos_of_ne_zero h.d2)) h.d
theorem MOk.dd2 (h : MOk D1 M1 D2 M2 a b) : D2 < 2 ^ 4000 := Nat.lt_of_le_of_lt (Nat.le_mul_of_pos_left _ (Nat.pos_of_ne_zero h.d1)) h.d
theorem MOk.le (h : MOk D1 M1 D2 M2 a b) {c : Nat} (hc : c ≤ a.length * (b.length * 64)) : c * (M1 * M2 * 64) < 2 ^ 4000 := Nat.lt_of_le_of_lt (Nat.mul_le_mul_right _ (by omega)) h.m
theorem MOk.pq (h : MOk D1 M1 D2 M2 a b) {p q : Wd × Rat} (hp : p ∈ a) (hq : q ∈ b) : Bd (D1 * D2) (M1 * M2) (p.2 * q.2) := (h.ha.bd p hp).mul (h.hb.bd q hq)
end
end DL
set_option Elab.async false
set_option linter.all false
set_option maxRecDepth 100000
set_option maxHeartbeats 4000000
namespace DL
open PySem PySem.Spec L2
open PyProof.Rows hiding St
open PySem.W (dataLe dataLt alike)
/-! DL50: the law's mixing; sums mixed, with sizes -/
section
variable {D1 M1 D2 M2 : Nat} {a b : Tb} {deep : Int}
end
section
variable {k n j m : Nat} {a b : Tb} {deep : Int}
theorem MT.sm {D M c : Nat} {t : Tb} (g : MT D M c t) (h0 : D ≠ 0) (h1 : D ≤ 2 ^ k) (h2 : c * M ≤ 2 ^ k) : SM k 5461 (canon t) := by
  have cs := canon_sum g.nd
  refine ⟨cs, Nat.le_trans (canon_len t) g.few, D, c * M, h0, h1, h2, SB.of cs (fun w z => ?_) fun w => by rw [wt_canon g.nd]; exact g.bd w⟩
  by_cases hk : w ∈ keys t
  · have := g.wo w hk
    exact ⟨this.1, by omega⟩
  · rw [wt_canon g.nd, wt_not hk] at z; exact absurd rfl z
end
end DL
set_option Elab.async false
set_option linter.all false
set_option maxRecDepth 100000
set_option maxHeartbeats 4000000
namespace DL
open PySem PySem.Spec L2
open PyProof.Rows hiding St
open PySem.W (dataLe dataLt alike)
/-! DL51: falling rows -/
theorem pre_not_lt : ∀ (z e : Wd), ¬ (z ++ e) < z
  | [], e, h => by cases h
  | a :: z, e, h => by
    cases h with
    | cons h => exact pre_not_lt z e h
    | rel h => exact Nat.lt_irrefl _ h
theorem pre_lt : ∀ (z : Wd) {e : Wd}, e ≠ [] → z < z ++ e
  | [], [], h => absurd rfl h
  | [], a :: e, _ => .nil
  | a :: z, e, h => .cons (pre_lt z h)
def Fal : List Wd → Prop
  | [] => True
  | [_] => True
  | u :: v :: r => ¬ u < v ∧ Fal (v :: r)
theorem Fal.tail {u : Wd} {r : List Wd} (h : Fal (u :: r)) : Fal r := by
  cases r with
  | nil => trivial
  | cons v r => exact h.2
theorem nlt_tra {a b c : Wd} (h : ¬ a < b) (k : ¬ b < c) : ¬ a < c := fun z => by
  rcases lt_tri a b with y | y | y
  · exact h y
  · exact k (y ▸ z)
  · exact k (lt_tra y z)
theorem Fal.all : ∀ {r : List Wd} {u : Wd}, Fal (u :: r) → ∀ c ∈ r, ¬ u < c
  | [], _, _, c, hc => by cases hc
  | v :: r, u, h, c, hc => by
    rcases List.mem_cons.mp hc with z | z
    · rw [z]; exact h.1
    · exact nlt_tra h.1 (Fal.all h.2 c z)
/-- an end of a piece of a falling row is no greater than what stands ahead -/
theorem piece (u : Wd) : ∀ (r : List Wd) (z t : Wd), (∀ c ∈ r, ¬ u < c) → z ≠ [] → z ++ t = r.flatten → ∃ k, k < z.length ∧ ¬ u < z.drop k
  | [], z, t, _, hz, e => by
    have e : z ++ t = [] := e
    exact absurd (List.append_eq_nil_iff.mp e).1 hz
  | c :: r, z, t, hr, hz, e => by
    have e : z ++ t = c ++ r.flatten := e
    by_cases h : z.length ≤ c.length
    · have hp : z = c.take z.length := by
        have := congrArg (List.take z.length) e
        rw [List.take_left' rfl, List.take_append_of_le_length h] at this
        exact this
      refine ⟨0, List.length_pos_iff.mpr hz, ?_⟩
      rw [List.drop_zero]
      refine nlt_tra (hr c List.mem_cons_self) fun y => ?_
      have hc : c = z ++ c.drop z.length := by
        have := (List.take_append_drop z.length c).symm
        rw [← hp] at this
        exact this
      rw [hc] at y
      exact pre_not_lt _ _ y
    · have hl : c.length < z.length := by omega
      have hz2 : z = c ++ z.drop c.length := by
        have h1 := congrArg (List.take c.length) e
        rw [List.take_append_of_le_length (Nat.le_of_lt hl), List.take_left' rfl] at h1
        have h2 := (List.take_append_drop c.length z).symm
        rw [h1] at h2
        exact h2
      have e2 : z.drop c.length ++ t = r.flatten := by
        have h1 := congrArg (List.drop c.length) e
        rw [List.drop_append_of_le_length (Nat.le_of_lt hl), List.drop_left' rfl] at h1
        exact h1
      obtain ⟨k, k1, k2⟩ := piece u r (z.drop c.length) t (fun d hd => hr d (List.mem_cons_of_mem _ hd)) (fun y => by
        have := congrArg List.length y
        rw [List.length_drop] at this
        simp at this; omega) e2
      rw [List.length_drop] at k1
      refine ⟨c.length + k, by omega, ?_⟩
      rw [List.drop_drop] at k2
      exact k2
theorem longer {u v t : Wd} {r : List Wd} (hf : Fal (u :: r)) (hu : u ≠ []) (hv : Lst v) (e : v ++ t = u ++ r.flatten) (hl : u.length < v.length) : False := by
  have hv2 : v = u ++ v.drop u.length := by
    have h1 := congrArg (List.take u.length) e
    rw [List.take_append_of_le_length (Nat.le_of_lt hl), List.take_left' rfl] at h1
    have h2 := (List.take_append_drop u.length v).symm
    rw [h1] at h2
    exact h2
  have e2 : v.drop u.length ++ t = r.flatten := by
    have h1 := congrArg (List.drop u.length) e
    rw [List.drop_append_of_le_length (Nat.le_of_lt hl), List.drop_left' rfl] at h1
    exact h1
  have hne : v.drop u.length ≠ [] := fun y => by
    have := congrArg List.length y
    rw [List.length_drop] at this
    simp at this; omega
  obtain ⟨k, k1, k2⟩ := piece u r _ t hf.all hne e2
  rw [List.length_drop] at k1
  rw [List.drop_drop] at k2
  have hup := List.length_pos_iff.mpr hu
  have h1 := hv.2 (u.length + k) (by omega) (by omega)
  have h2 : u < v := by
    have := pre_lt u hne
    rw [← hv2] at this
    exact this
  exact k2 (lt_tra h2 h1)
theorem fal_one : ∀ {r s : List Wd}, (∀ u ∈ r, Lst u) → (∀ u ∈ s, Lst u) → Fal r → Fal s → r.flatten = s.flatten → r = s
  | [], [], _, _, _, _, _ => rfl
  | [], v :: s, _, hs, _, _, e => by
    have e : [] = v ++ s.flatten := e
    exact absurd (List.append_eq_nil_iff.mp e.symm).1 (hs v List.mem_cons_self).1
  | u :: r, [], hr, _, _, _, e => by
    have e : u ++ r.flatten = [] := e
    exact absurd (List.append_eq_nil_iff.mp e).1 (hr u List.mem_cons_self).1
  | u :: r, v :: s, hr, hs, fr, fs, e => by
    have e : u ++ r.flatten = v ++ s.flatten := e
    have hu := hr u List.mem_cons_self
    have hv := hs v List.mem_cons_self
    rcases Nat.lt_trichotomy u.length v.length with z | z | z
    · exact (longer fr hu.1 hv e.symm z).elim
    · obtain ⟨e1, e2⟩ := List.append_inj e z
      subst e1
      rw [fal_one (fun x hx => hr x (List.mem_cons_of_mem _ hx)) (fun x hx => hs x (List.mem_cons_of_mem _ hx)) fr.tail fs.tail e2]
    · exact (longer fs hv.1 hu e z).elim
theorem join_least {u v : Wd} (hu : Lst u) (hv : Lst v) (h : u < v) : Lst (u ++ v) := by
  have hup := List.length_pos_iff.mpr hu.1
  have huv : u ++ v < v := by
    rcases lt_pre h with ⟨r, hr⟩ | z
    · have hrl : v.length = u.length + r.length := by rw [hr, List.length_append]
      have hr0 : 0 < r.length := by
        cases r with
        | nil => rw [List.append_nil] at hr; rw [hr] at h; exact absurd h (lt_irr u)
        | cons a r => simp
      have h1 := hv.2 u.length (by omega) (by omega)
      have h2 : v.drop u.length = r := by rw [hr, List.drop_left' rfl]
      rw [h2] at h1
      have h3 : u ++ v < u ++ r := by
        clear h2 hrl hr hu hup h hv
        induction u with
        | nil => exact h1
        | cons a u ih => exact .cons ih
      rw [← hr] at h3
      exact h3
    · have := z v []
      rw [List.append_nil] at this
      exact this
  refine ⟨fun z => hu.1 (List.append_eq_nil_iff.mp z).1, fun k k1 k2 => ?_⟩
  rw [List.length_append] at k2
  by_cases hk : k < u.length
  · rw [List.drop_append_of_le_length (Nat.le_of_lt hk)]
    have h1 := hu.2 k k1 hk
    rcases lt_pre h1 with ⟨r, hr⟩ | z
    · have := congrArg List.length hr
      rw [List.length_drop, List.length_append] at this
      omega
    · exact z v v
  · have e : (u ++ v).drop k = v.drop (k - u.length) := by
      rw [List.drop_append, List.drop_eq_nil_of_le (by omega), List.nil_append]
    rw [e]
    by_cases hk2 : k = u.length
    · rw [hk2, Nat.sub_self, List.drop_zero]; exact huv
    · exact lt_tra huv (hv.2 (k - u.length) (by omega) (by omega))
theorem fal_snoc : ∀ {r : List Wd} {c : Wd}, Fal r → (∀ u, r.getLast? = some u → ¬ u < c) → Fal (r ++ [c])
  | [], _, _, _ => trivial
  | [u], c, _, h => ⟨h u rfl, trivial⟩
  | u :: v :: r, c, hf, h => ⟨hf.1, fal_snoc (r := v :: r) hf.2 fun x hx => h x (by rw [List.getLast?_cons_cons]; exact hx)⟩
/-! ### all cuts -/
def cutS1 (F : List (List Wd)) (x : Nat) : List (List Wd) := F.map (· ++ [[x]]) ++ (F.filter fun r => !r.isEmpty).map fun r => r.dropLast ++ [r.getLastD [] ++ [x]]
def cutsL (w : Wd) : List (List Wd) := w.foldl cutS1 [[]]
theorem snoc_of {α : Type} : ∀ {l : List α}, l ≠ [] → ∃ q c, l = q ++ [c]
  | [], h => absurd rfl h
  | a :: l, _ => ⟨(a :: l).dropLast, (a :: l).getLast (by simp), (List.dropLast_concat_getLast (by simp)).symm⟩
/-! ### while -/
section
variable {N : S → Prop} {R : SV → S → Prop} {B C : S → Prop} {X : Exc → S → Prop}
theorem wo_while {t : M Bool} {g : S → Out} (I : Nat → S → Prop) (st : ∀ n s, I n s → WQ (t s) (fun b s1 => (b = true → WO (g s1) (fun s2 => ∃ m, m < n ∧ I m s2) (fun _ _ => False) (fun _ => False) (fun _ => False) (fun _ _ => False)) ∧ (b = false → N s1)) (fun _ _ => False)) {n : Nat} {s : S} (h : I n s) : WO (gWhile t g s) N R B C X := by
  have key : ∀ n s, I n s → ∃ k s', whileN t g k s = .nx s' ∧ N s' := fun n => by
    induction n using Nat.strongRecOn with
    | _ n ih =>
      intro s hs
      have h1 := st n s hs
      cases et : t s with
      | bad => rw [et] at h1; exact h1.elim
      | ex c s1 => rw [et] at h1; exact h1.elim
      | ok b s1 =>
        rw [et] at h1
        have h1 : (b = true → WO (g s1) (fun s2 => ∃ m, m < n ∧ I m s2) (fun _ _ => False) (fun _ => False) (fun _ => False) (fun _ _ => False)) ∧ (b = false → N s1) := h1
        cases b with
        | false =>
          refine ⟨1, s1, ?_, h1.2 rfl⟩
          show (t s).out _ = _
          rw [et]
          rfl
        | true =>
          have h2 := h1.1 rfl
          cases eg : g s1 with
          | nx s2 =>
            rw [eg] at h2
            obtain ⟨m, hm, hi⟩ := h2
            obtain ⟨k, s', e, hn⟩ := ih m hm s2 hi
            refine ⟨k + 1, s', ?_, hn⟩
            show (t s).out _ = _
            rw [et]
            show (match g s1 with
              | .nx s2 => whileN t g k s2
              | .ct s2 => whileN t g k s2
              | .bk s2 => .nx s2
              | .rt v s2 => .rt v s2
              | .ex c s2 => .ex c s2
              | .bad => .bad) = _
            rw [eg]
            exact e
          | _ => rw [eg] at h2; exact h2.elim
  obtain ⟨k, s', e, hn⟩ := key n s h
  rw [gWhile_of e (by intro z; cases z)]
  exact hn
end
end DL
set_option Elab.async false
set_option linter.all false
set_option maxRecDepth 100000
set_option maxHeartbeats 4000000
namespace DL
open PySem PySem.Spec L2
open PyProof.Rows hiding St
open PySem.W (dataLe dataLt alike)
/-! DL52: falling rows made -/
noncomputable def g_falling_of : S → Out :=
  gSeq (gSetO 1 (oLst mNil))
  (gSeq (gSet 2 (mVar 0))
  (gSeq (gWhile (mTru (mOp dNe (mVar 2) (mC (.str "")))) (gSeq (gSet 3 (mUn dMax (mCons (mF (oLc (mOp dRng2 (mC (.int 1)) (mOp dAdd (mUn dLen (mCons (mVar 2) mNil)) (mC (.int 1)))) (tName 4) (mTru (mF (oCall f_least_so [] (mCons (mF (oSl (mVar 2) mNoP (mP (mVar 4)))) mNil)))) (mVar 4) [4])) mNil)))
  (gSeq (gApp 1 (mF (oSl (mVar 2) mNoP (mP (mVar 3)))))
  (gSet 2 (mF (oSl (mVar 2) (mP (mVar 3)) mNoP))))))
  (gRet (oMove 1))))
noncomputable def f_falling_of : S → Res SV := fnR 5 g_falling_of
noncomputable def g_falling : S → Out :=
  gSeq (gDrop (mF (oCall f_need_word [] (mCons (mVar 0) mNil))))
  (gRet (oCall f_falling_of [] (mCons (mVar 0) mNil)))
noncomputable def f_falling : S → Res SV := fnR 1 g_falling
noncomputable def gl_cuts : S → Out :=
  gSeq (gSet 1 (mLst (mCons (mLst mNil) mNil)))
  (gSeq (gFor (mUn dSeq (mVar 0)) (tName 2) (gSeq (gSetO 3 (oLc (mUn dSeq (mVar 1)) (tName 4) (M.ret true) (mF (oCat (mVar 4) (mLst (mCons (mVar 2) mNil)))) [4]))
  (gSet 1 (mF (oCat (mVar 3) (mF (oLc (mUn dSeq (mVar 1)) (tName 4) (mTru (mOp dNe (mVar 4) (mLst mNil))) (mF (oCat (mF (oSl (mVar 4) mNoP (mP (mUn dNeg (mC (.int 1)))))) (mLst (mCons (mOp dAdd (mOp dIx (mVar 4) (mUn dNeg (mC (.int 1)))) (mVar 2)) mNil)))) [4])))))))
  (gRet (oD (mVar 1))))
noncomputable def fl_cuts : S → Res SV := fnR 5 gl_cuts
def encN (i : Nat) : D := .int ((1 + i : Nat) : Int)
theorem fold_max : ∀ (r : List Nat) (x : Nat), ∃ m, (m = x ∨ m ∈ r) ∧ x ≤ m ∧ (∀ i ∈ r, i ≤ m) ∧ (r.map fun i => ((1 + i : Nat) : Int)).foldl max ((1 + x : Nat) : Int) = ((1 + m : Nat) : Int)
  | [], x => ⟨x, .inl rfl, Nat.le_refl _, (fun i hi => nomatch hi), rfl⟩
  | y :: r, x => by
    by_cases h : x ≤ y
    · obtain ⟨m, h1, h2, h3, h4⟩ := fold_max r y
      refine ⟨m, .inr ?_, by omega, fun i hi => ?_, ?_⟩
      · rcases h1 with z | z
        · rw [z]; exact List.mem_cons_self
        · exact List.mem_cons_of_mem _ z
      · rcases List.mem_cons.mp hi with z | z
        · rw [z]; exact h2
        · exact h3 i z
      · rw [List.map_cons, List.foldl_cons, ← h4]
        congr 1
        omega
    · obtain ⟨m, h1, h2, h3, h4⟩ := fold_max r x
      refine ⟨m, ?_, h2, fun i hi => ?_, ?_⟩
      · rcases h1 with z | z
        · exact .inl z
        · exact .inr (List.mem_cons_of_mem _ z)
      · rcases List.mem_cons.mp hi with z | z
        · rw [z]; omega
        · exact h3 i z
      · rw [List.map_cons, List.foldl_cons, ← h4]
        congr 1
        omega
theorem ints_encN : ∀ r : List Nat, intsD (r.map encN) = some (r.map fun i => ((1 + i : Nat) : Int))
  | [] => rfl
  | a :: r => by
    show (intsD (r.map encN)).map (((1 + a : Nat) : Int) :: ·) = _
    rw [ints_encN r]
    rfl
theorem max_of {l : List Nat} (h : l ≠ []) : ∃ m ∈ l, (∀ i ∈ l, i ≤ m) ∧ dMax [.list (l.map encN)] = some (encN m) := by
  match l, h with
  | x :: r, _ =>
    obtain ⟨m, h1, h2, h3, h4⟩ := fold_max r x
    refine ⟨m, ?_, fun i hi => ?_, ?_⟩
    · rcases h1 with z | z
      · rw [z]; exact List.mem_cons_self
      · exact List.mem_cons_of_mem _ z
    · rcases List.mem_cons.mp hi with z | z
      · rw [z]; exact h2
      · exact h3 i z
    · show ((intsD ((x :: r).map encN)).bind maxI).map PyData.int = _
      rw [ints_encN]
      show some (PyData.int ((r.map fun i => ((1 + i : Nat) : Int)).foldl max ((1 + x : Nat) : Int))) = _
      rw [h4]
      rfl
theorem isW_take {l : Wd} (h : isW l = true) (k : Nat) : isW (l.take k) = true := by
  unfold isW at *
  rw [Bool.and_eq_true] at *
  refine ⟨?_, ?_⟩
  · have := of_decide_eq_true h.1
    refine decide_eq_true ?_
    rw [List.length_take]; omega
  · have := h.2
    unfold isL at *
    rw [List.all_eq_true] at *
    exact fun x hx => this x (List.mem_of_mem_take hx)
theorem isW_drop {l : Wd} (h : isW l = true) (k : Nat) : isW (l.drop k) = true := by
  unfold isW at *
  rw [Bool.and_eq_true] at *
  refine ⟨?_, ?_⟩
  · have := of_decide_eq_true h.1
    refine decide_eq_true ?_
    rw [List.length_drop]; omega
  · have := h.2
    unfold isL at *
    rw [List.all_eq_true] at *
    exact fun x hx => this x (List.mem_of_mem_drop hx)
theorem isW_len {l : Wd} (h : isW l = true) : l.length ≤ 6 ∧ isL l = true := by
  unfold isW at h
  rw [Bool.and_eq_true] at h
  exact ⟨of_decide_eq_true h.1, h.2⟩
theorem lst_one (a : Nat) : Lst [a] := ⟨by simp, fun k h1 h2 => by simp at h2; omega⟩
theorem falling_of_R {w : Wd} (hw : isW w = true) : ∃ r, f_falling_of [.d (eW w)] = .ok (.ol false (r.map eW)) [.un] ∧ (∀ u ∈ r, Lst u) ∧ Fal r ∧ r.flatten = w := by
  have key : WO (g_falling_of [.d (eW w), .un, .un, .un, .un]) (fun _ => False) (fun v _ => ∃ r, v = .ol false (r.map eW) ∧ (∀ u ∈ r, Lst u) ∧ Fal r ∧ r.flatten = w) (fun _ => False) (fun _ => False) (fun _ _ => False) := by
    unfold g_falling_of
    have lm : 10000 ≤ lim := by decide
    walk_at "run"
    refine wo_while (fun n s => ∃ r left x3, s = [.d (eW w), .ol false (r.map eW), .d (eW left), x3, .un] ∧ r.flatten ++ left = w ∧ (∀ u ∈ r, Lst u) ∧ Fal r ∧ (∀ u, r.getLast? = some u → ∀ k, 1 ≤ k → k ≤ left.length → Lst (left.take k) → ¬ u < left.take k) ∧ n = left.length ∧ isW left = true ∧ r.length + left.length ≤ 6) (n := w.length) (fun n s => ?_) ⟨[], w, .un, rfl, rfl, (fun u hu => nomatch hu), trivial, (fun u hu => nomatch hu), rfl, hw, by have := (isW_len hw).1; simpa using this⟩
    rintro ⟨r, left, x3, rfl, ef, hr, hf, hl, rfl, hwl, hlen⟩
    obtain ⟨l6, lL⟩ := isW_len hwl
    walk_at "run"
    rw [show dNe (eW left) (.str "") = _ from ne_nil lL]
    walk_at "run"
    refine ⟨fun hne => ?_, fun hne => ?_⟩
    · have hne : left ≠ [] := by simpa using hne
      have hpos := List.length_pos_iff.mpr hne
      walk_at "run"
      refine wq_lcf (xs := List.range left.length) (enc := encN) (p := fun i => leastB (left.take (1 + i))) (h := encN) (w := [.d (eW w), .ol false (r.map eW), .d (eW left), x3, .un]) (by rw [List.length_range]; omega) ?_ fun i hi => ?_
      · have hne2 : (List.range left.length).filter (fun i => leastB (left.take (1 + i))) ≠ [] := by
          have : 0 ∈ (List.range left.length).filter (fun i => leastB (left.take (1 + i))) := by
            refine List.mem_filter.mpr ⟨List.mem_range.mpr hpos, ?_⟩
            rw [leastB_iff]
            cases left with
            | nil => exact absurd rfl hne
            | cons a l => exact lst_one a
          intro z
          rw [z] at this
          cases this
        obtain ⟨m, hm, hmx, e⟩ := max_of hne2
        obtain ⟨hm1, hm2⟩ := List.mem_filter.mp hm
        have hm1 := List.mem_range.mp hm1
        have hm2 := leastB_iff.mp hm2
        have eN : encN m = .int ((1 + m : Nat) : Int) := rfl
        have c1 : dCut none (some ((1 + m : Nat) : Int)) (eW left) = some (.d (eW (left.take (1 + m)))) := d_cutTo' (by omega)
        have c2 : dCut (some ((1 + m : Nat) : Int)) none (eW left) = some (.d (eW (left.drop (1 + m)))) := d_cutFrom (by omega) (by omega)
        obtain ⟨L, hL⟩ : ∃ L : Int, L = left.length := ⟨_, rfl⟩
        have hlenL : ∀ {Q : D → Prop}, WL (dLen [eW left]) Q = Q (.int L) := fun {Q} => by
          rw [wl_lenS, hL]
          exact propext ⟨fun z => z.2, fun z => ⟨by omega, z⟩⟩
        have er : rangeD 1 (L + 1 - 1).toNat = (List.range left.length).map encN := by
          have : (L + 1 - 1).toNat = left.length := by omega
          rw [this]
          unfold rangeD
          apply List.map_congr_left
          intro i _
          unfold encN
          rw [Int.natCast_add]
          rfl
        simp only [wx_op, wx_C, wx_un, wx_cons, wx_nil, wx_var, List.getElem?_cons_succ, List.getElem?_cons_zero, wv_d]
        rw [hlenL]
        walk_at "run"
        refine ⟨⟨by decide, decide_eq_true (by omega)⟩, er, ?_⟩
        rw [e, eN]
        walk_at "run"
        rw [c1]
        walk_at "run"
        refine ⟨by rw [List.length_map]; omega, ?_⟩
        rw [c2]
        walk_at "run"
        refine ⟨_, ?_, r ++ [left.take (1 + m)], left.drop (1 + m), .d (.int ((1 + m : Nat) : Int)), ?_, ?_, fun u hu => ?_, fal_snoc hf fun u hu => hl u hu (1 + m) (by omega) (by omega) hm2, fun u hu k k1 k2 k3 => ?_, rfl, isW_drop hwl _, ?_⟩
        · rw [List.length_drop]; omega
        · rw [List.map_append]; rfl
        · rw [List.flatten_append, List.append_assoc]
          show r.flatten ++ ((left.take (1 + m) ++ []) ++ left.drop (1 + m)) = w
          rw [List.append_nil, List.take_append_drop, ef]
        · rcases List.mem_append.mp hu with z | z
          · exact hr u z
          · rw [List.mem_singleton.mp z]; exact hm2
        · rw [List.getLast?_append] at hu
          have hu : some (left.take (1 + m)) = some u := hu
          injection hu with hu
          subst hu
          intro z
          have h1 := join_least hm2 k3 z
          rw [← List.take_add] at h1
          rw [List.length_drop] at k2
          have h2 : m + k ∈ (List.range left.length).filter (fun i => leastB (left.take (1 + i))) := by
            refine List.mem_filter.mpr ⟨List.mem_range.mpr (by omega), ?_⟩
            rw [leastB_iff, ← Nat.add_assoc]
            exact h1
          have := hmx _ h2
          omega
        · rw [List.length_append, List.length_drop]
          show r.length + 1 + (left.length - (1 + m)) ≤ 6
          omega
      · have hi := List.mem_range.mp hi
        have eN : encN i = .int ((1 + i : Nat) : Int) := rfl
        have c1 : dCut none (some ((1 + i : Nat) : Int)) (eW left) = some (.d (eW (left.take (1 + i)))) := d_cutTo' (by omega)
        rw [eN]
        walk_at "run"
        rw [c1]
        walk_at "run"
        refine wf_eq (least_spec _ (isW_take hwl (1 + i))) rfl ?_
        walk_at "run"
        split <;> trivial
    · have he : left = [] := by simpa using hne
      subst he
      walk_at "run"
      exact ⟨r, rfl, hr, hf, by simpa using ef⟩
  cases e : g_falling_of [.d (eW w), .un, .un, .un, .un] with
  | rt v s =>
    rw [e] at key
    obtain ⟨r, rfl, h1, h2, h3⟩ := key
    refine ⟨r, ?_, h1, h2, h3⟩
    refine fn_gives (ds := [eW w]) ?_
    show WO (g_falling_of [.d (eW w), .un, .un, .un, .un]) _ _ _ _ _
    rw [e]
    rfl
  | _ => rw [e] at key; exact key.elim
/-! ### all cuts -/
def eR (r : List Wd) : D := .list (r.map eW)
theorem ix_last (xs : List D) (c : D) : dIx (.list (xs ++ [c])) (.int (-1)) = some c := by
  show atI (xs ++ [c]) (-1) = _
  unfold atI ixN
  have hl : (xs ++ [c]).length = xs.length + 1 := by simp
  rw [hl, if_neg (by omega), if_pos (by omega)]
  have : (-1 + ((xs.length + 1 : Nat) : Int)).toNat = xs.length := by omega
  rw [this]
  simp
theorem seqW (w : Wd) : dSeq (eW w) = some (w.map fun c => eW [c]) := by
  show some ((tx w).cps.toList.map fun c => PyData.str ⟨#[c]⟩) = _
  have : (tx w).cps.toList = w := rfl
  rw [this]
  rfl
theorem mem_isL {w : Wd} (h : isL w = true) {r : List Wd} (e : r.flatten = w) : ∀ u ∈ r, isL u = true := fun u hu => by
  unfold isL at *
  rw [List.all_eq_true] at *
  exact fun x hx => h x (by rw [← e]; exact List.mem_flatten.mpr ⟨u, hu, hx⟩)
theorem mem_len' : ∀ {r : List Wd}, ∀ u ∈ r, u.length ≤ r.flatten.length
  | v :: r, u, hu => by
    rw [List.flatten_cons, List.length_append]
    rcases List.mem_cons.mp hu with z | z
    · rw [z]; omega
    · have := mem_len' (r := r) u z
      omega
theorem mem_len {w : Wd} {r : List Wd} (e : r.flatten = w) : ∀ u ∈ r, u.length ≤ w.length := fun u hu => by
  rw [← e]
  exact mem_len' u hu
theorem all_map {α : Type} (xs : List α) (h : α → Bool) : dAll [.list (xs.map fun x => .bool (h x))] = some (.bool (xs.all h)) := by
  have e : (xs.map fun x => PyData.bool (h x)) = (xs.map h).map .bool := by simp
  show (bools _).map _ = _
  rw [e, bools_map]
  simp [List.all_map]
def gq (r : List Wd) (i : Nat) : Bool := !decide (r.getD i [] < r.getD (i + 1) [])
def falB (r : List Wd) : Bool := (List.range (r.length - 1)).all (gq r)
def PB (r : List Wd) : Bool := falB r && r.all leastB
end DL
set_option Elab.async false
set_option linter.all false
set_option maxRecDepth 100000
set_option maxHeartbeats 4000000
namespace DL
open PySem PySem.Spec L2
open PyProof.Rows hiding St
open PySem.W (dataLe dataLt alike)
/-! DL53: brackets -/
noncomputable def g_formed (f : S → Res SV) : S → Out :=
  gSeq (gIf (mTru (mUn (dIsi "str") (mVar 0))) (gRet (oD (mAndV (mOp dEq (mUn dLen (mCons (mVar 0) mNil)) (mC (.int 1))) (mOp (dInS false) (mVar 0) (mC (.str "abcd")))))) gNil)
  (gRet (oD (mAndV (mOp dEq (mUn dLen (mCons (mVar 0) mNil)) (mC (.int 2))) (mAndV (mF (oCall f [] (mCons (mOp dIx (mVar 0) (mC (.int 0))) mNil))) (mF (oCall f [] (mCons (mOp dIx (mVar 0) (mC (.int 1))) mNil)))))))
noncomputable def f_formed : Nat → S → Res SV
  | 0 => fun _ => .bad
  | n + 1 => fnR 1 (g_formed (f_formed n))
noncomputable def g_signs_of (f : S → Res SV) : S → Out :=
  gRet (oD (mIf (mTru (mUn (dIsi "str") (mVar 0))) (mVar 0) (mOp dAdd (mF (oCall f [] (mCons (mOp dIx (mVar 0) (mC (.int 0))) mNil))) (mF (oCall f [] (mCons (mOp dIx (mVar 0) (mC (.int 1))) mNil))))))
noncomputable def f_signs_of : Nat → S → Res SV
  | 0 => fun _ => .bad
  | n + 1 => fnR 1 (g_signs_of (f_signs_of n))
noncomputable def g_is_bracket : S → Out :=
  gRet (oD (mAndV (mF (oCall (f_formed 8) [] (mCons (mVar 0) mNil))) (mOp dLe (mUn dLen (mCons (mF (oCall (f_signs_of 8) [] (mCons (mVar 0) mNil))) mNil)) (mC (.int 6)))))
noncomputable def f_is_bracket : S → Res SV := fnR 1 g_is_bracket
def tp_BadBracket : Tpl := [("word", .inl "badbracket")]
noncomputable def g_need_bracket : S → Out :=
  gIf (mNot (mTru (mF (oCall f_is_bracket [] (mCons (mVar 0) mNil))))) (gRaise "BadBracket" 0 tp_BadBracket mNil) gNil
noncomputable def f_need_bracket : S → Res SV := fnR 1 g_need_bracket
noncomputable def g_letters_of : S → Out :=
  gSeq (gDrop (mF (oCall f_need_bracket [] (mCons (mVar 0) mNil))))
  (gRet (oCall (f_signs_of 8) [] (mCons (mVar 0) mNil)))
noncomputable def f_letters_of : S → Res SV := fnR 1 g_letters_of
noncomputable def g_bracketed : S → Out :=
  gRet (oCall f_taken [] (mCons (mF (oCallW f_joined [0, 1, 2] [.int (6)] (mCons (mVar 0) (mCons (mVar 1) mNil)) mNil)) (mCons (mF (oCallW f_joined [0, 1, 2] [.int (6)] (mCons (mVar 1) (mCons (mVar 0) mNil)) mNil)) mNil)))
noncomputable def f_bracketed : S → Res SV := fnR 2 g_bracketed
noncomputable def g_opened_of (f : S → Res SV) : S → Out :=
  gSeq (gIf (mTru (mUn (dIsi "str") (mVar 0))) (gRet (oLst (mCons (mTup (mCons (mVar 0) (mCons (mC (.tuple [.int 1, .int 1])) mNil))) mNil))) gNil)
  (gRet (oCall f_bracketed [] (mCons (mF (oCall f [] (mCons (mOp dIx (mVar 0) (mC (.int 0))) mNil))) (mCons (mF (oCall f [] (mCons (mOp dIx (mVar 0) (mC (.int 1))) mNil))) mNil))))
noncomputable def f_opened_of : Nat → S → Res SV
  | 0 => fun _ => .bad
  | n + 1 => fnR 1 (g_opened_of (f_opened_of n))
noncomputable def g_opened : S → Out :=
  gSeq (gDrop (mF (oCall f_need_bracket [] (mCons (mVar 0) mNil))))
  (gRet (oCall (f_opened_of 8) [] (mCons (mVar 0) mNil)))
noncomputable def f_opened : S → Res SV := fnR 1 g_opened
/-- brackets -/
inductive Br where
  | lf (a : Nat)
  | nd (x y : Br)
def eB : Br → D
  | .lf a => eW [a]
  | .nd x y => .tuple [eB x, eB y]
def lets : Br → Wd
  | .lf a => [a]
  | .nd x y => lets x ++ lets y
def op : Br → Wd → Rat
  | .lf a => one1 [a] 1
  | .nd x y => fun w => conv (op x) (op y) w - conv (op y) (op x) w
theorem lets_pos : ∀ b : Br, 1 ≤ (lets b).length
  | .lf _ => Nat.le_refl _
  | .nd x y => by
    have := lets_pos x
    rw [lets, List.length_append]
    omega
theorem isi_s {w : Wd} : dIsi "str" (eW w) = some (.bool true) := rfl
theorem isi_t {x y : D} : dIsi "str" (.tuple [x, y]) = some (.bool false) := by kernel_rfl
theorem isL_appL {u v : Wd} (h : isL (u ++ v) = true) : isL u = true ∧ isL v = true := by
  unfold isL at *
  rw [List.all_append, Bool.and_eq_true] at h
  exact h
structure Gd (b : Br) : Prop where
  isL : isL (lets b) = true
  len : (lets b).length ≤ 6
/-! ### words of one length -/
theorem conv_len : ∀ (w : Wd) {f g : Wd → Rat} {n m : Nat}, (∀ u, u.length ≠ n → f u = 0) → (∀ u, u.length ≠ m → g u = 0) → w.length ≠ n + m → conv f g w = 0
  | [], f, g, n, m, hf, hg, h => by
    simp only [conv]
    by_cases hn : n = 0
    · have hm : ([] : Wd).length ≠ m := by simp at h ⊢; omega
      rw [hg [] hm]; grind
    · rw [hf [] (by simp; omega)]; grind
  | x :: w, f, g, n, m, hf, hg, h => by
    simp only [conv]
    have lw : (x :: w).length = w.length + 1 := rfl
    cases n with
    | zero =>
      have e1 : (fun u => f (x :: u)) = fun _ => 0 := funext fun u => hf (x :: u) (by simp)
      rw [e1, conv_zeroL, hg (x :: w) (by omega)]; grind
    | succ n =>
      rw [hf [] (by simp), conv_len w (f := fun u => f (x :: u)) (g := g) (n := n) (m := m) (fun u hu => hf (x :: u) (by simp; omega)) hg (by omega)]; grind
theorem op_len : ∀ (b : Br) (w : Wd), w.length ≠ (lets b).length → op b w = 0
  | .lf a, w, h => by
    show (if w = [a] then (1 : Rat) else 0) = 0
    rw [if_neg]
    intro z
    rw [z] at h
    exact h rfl
  | .nd x y, w, h => by
    rw [lets, List.length_append] at h
    show conv (op x) (op y) w - conv (op y) (op x) w = 0
    rw [conv_len w (op_len x) (op_len y) h, conv_len w (op_len y) (op_len x) (by omega)]; grind
def kB (s : Nat) : Nat := 30 * 2 ^ s - 50
theorem kB_le : ∀ a, a < 6 → ∀ b, b < 6 → 1 ≤ a → 1 ≤ b → a + b ≤ 6 → 14 + (kB a + kB b) + (14 + (kB b + kB a)) + 1 ≤ kB (a + b) := by decide
theorem kB_max : ∀ a, a < 7 → kB a ≤ 1900 := by decide
theorem nB_eq {a b : Nat} (ha : 1 ≤ a) (hb : 1 ≤ b) : 2 ^ (a - 1) * 2 ^ (b - 1) + 2 ^ (b - 1) * 2 ^ (a - 1) = 2 ^ (a + b - 1) := by
  rw [Nat.mul_comm (2 ^ (b - 1)), ← Nat.two_mul, ← Nat.pow_add, Nat.mul_comm, ← Nat.pow_succ]
  congr 1
  omega
theorem opened_R : ∀ (n : Nat) (b : Br), (lets b).length < n + 1 → Gd b → ∃ c, f_opened_of (n + 1) [.d (eB b)] = .ok (.ol false (c.map eP)) [.un] ∧ SM (kB (lets b).length) (2 ^ ((lets b).length - 1)) c ∧ ∀ w, wt c w = op b w
  | n, .lf a, h, hg => by
    refine ⟨[([a], 1)], ?_, ?_, fun w => ?_⟩
    · refine fn_gives (ds := [eW [a]]) ?_
      show WO (g_opened_of (f_opened_of n) [.d (eW [a])]) _ _ _ _ _
      unfold g_opened_of
      walk_at "run"
      rw [isi_s]
      walk_at "run"
      rfl
    · have s1 : SM 10 1 [([a], (1 : Rat))] := SM.one hg.isL (Nat.le_trans hg.len (by decide)) (by decide +kernel) (Sz.qb ⟨by decide +kernel, by decide +kernel⟩)
      exact s1
    · rw [wt_cons, wt_nil]
      rfl
  | 0, .nd x y, h, hg => by
    have hx := lets_pos x
    have hy := lets_pos y
    rw [lets, List.length_append] at h
    omega
  | n + 1, .nd x y, h, hg => by
    have hx := lets_pos x
    have hy := lets_pos y
    have h6 := hg.len
    rw [lets, List.length_append] at h h6
    obtain ⟨hLx, hLy⟩ := isL_appL (u := lets x) (v := lets y) hg.isL
    obtain ⟨cx, ex, sx, wx⟩ := opened_R n x (by omega) ⟨hLx, by omega⟩
    obtain ⟨cy, ey, sy, wy⟩ := opened_R n y (by omega) ⟨hLy, by omega⟩
    have k1 := kB_le (lets x).length (by omega) (lets y).length (by omega) hx hy h6
    have k2 := kB_max ((lets x).length + (lets y).length) (by omega)
    have n1 : 2 ^ ((lets x).length - 1) * 2 ^ ((lets y).length - 1) ≤ 2 ^ 5 := by
      rw [← Nat.pow_add]
      exact Nat.pow_le_pow_right (by decide) (by omega)
    have n2 : 2 ^ ((lets y).length - 1) * 2 ^ ((lets x).length - 1) ≤ 2 ^ 5 := by rw [Nat.mul_comm]; exact n1
    obtain ⟨c1, e1, s1, w1⟩ := joined_M (deep := 6) sx sy (by decide) (by decide) (by omega) (by omega)
    obtain ⟨c2, e2, s2, w2⟩ := joined_M (deep := 6) sy sx (by decide) (by decide) (by omega) (by omega)
    obtain ⟨c3, e3, s3, w3⟩ := taken_M s1 s2 (by omega) (by omega)
    refine ⟨c3, ?_, ?_, fun w => ?_⟩
    · have eb : f_bracketed [.d (eS cx), .d (eS cy)] = .ok (.ol false (c3.map eP)) [.un, .un] := by
        refine fn_gives (ds := [eS cx, eS cy]) ?_
        show WO (g_bracketed [.d (eS cx), .d (eS cy)]) _ _ _ _ _
        unfold g_bracketed
        walk_at "run"
        refine wf_eq e1 rfl ?_
        walk_at "run"
        refine wf_eq e2 rfl ?_
        walk_at "run"
        refine wf_eq e3 rfl ?_
        rfl
      refine fn_gives (ds := [.tuple [eB x, eB y]]) ?_
      show WO (g_opened_of (f_opened_of (n + 1)) [.d (.tuple [eB x, eB y])]) _ _ _ _ _
      unfold g_opened_of
      walk_at "run"
      rw [isi_t]
      walk_at "run"
      refine wf_eq ex rfl ?_
      walk_at "run"
      refine wf_eq ey rfl ?_
      walk_at "run"
      refine wf_eq eb rfl ?_
      rfl
    · rw [lets, List.length_append]
      exact s3.mono k1 (by rw [nB_eq hx hy]; exact Nat.le_refl _)
    · rw [w3, w1, w2, funext wx, funext wy]
      show _ = conv (op x) (op y) w - conv (op y) (op x) w
      by_cases z : (w.length : Int) ≤ 6
      · rw [if_pos z, if_pos z]
      · rw [if_neg z, if_neg z, conv_len w (op_len x) (op_len y) (by omega), conv_len w (op_len y) (op_len x) (by omega)]
end DL
set_option Elab.async false
set_option linter.all false
set_option maxRecDepth 100000
set_option maxHeartbeats 4000000
namespace DL
open PySem PySem.Spec L2
open PyProof.Rows hiding St
open PySem.W (dataLe dataLt alike)
/-! DL54: brackets of least words -/
noncomputable def g_halves_of : S → Out :=
  gSeq (gSet 1 (mUn dMin (mCons (mF (oLc (mOp dRng2 (mC (.int 1)) (mUn dLen (mCons (mVar 0) mNil))) (tName 1) (mTru (mF (oCall f_least_so [] (mCons (mF (oSl (mVar 0) (mP (mVar 1)) mNoP)) mNil)))) (mVar 1) [1])) mNil)))
  (gRet (oD (mTup (mCons (mF (oSl (mVar 0) mNoP (mP (mVar 1)))) (mCons (mF (oSl (mVar 0) (mP (mVar 1)) mNoP)) mNil)))))
noncomputable def f_halves_of : S → Res SV := fnR 2 g_halves_of
noncomputable def g_bracket_so (f : S → Res SV) : S → Out :=
  gSeq (gIf (mTru (mOp dEq (mUn dLen (mCons (mVar 0) mNil)) (mC (.int 1)))) (gRet (oD (mVar 0))) gNil)
  (gSeq (gAsg (mF (oCall f_halves_of [] (mCons (mVar 0) mNil))) (tTupT (tConss (tName 1) (tConss (tName 2) tNils)) 2))
  (gRet (oD (mTup (mCons (mF (oCall f [] (mCons (mVar 1) mNil))) (mCons (mF (oCall f [] (mCons (mVar 2) mNil))) mNil))))))
noncomputable def f_bracket_so : Nat → S → Res SV
  | 0 => fun _ => .bad
  | n + 1 => fnR 3 (g_bracket_so (f_bracket_so n))
def tp_NotLeast : Tpl := [("word", .inl "notleast")]
noncomputable def g_bracket_of : S → Out :=
  gSeq (gDrop (mF (oCall f_need_word [] (mCons (mVar 0) mNil))))
  (gSeq (gIf (mNot (mTru (mF (oCall f_least_so [] (mCons (mVar 0) mNil))))) (gRaise "NotLeast" 0 tp_NotLeast mNil) gNil)
  (gRet (oCall (f_bracket_so 8) [] (mCons (mVar 0) mNil))))
noncomputable def f_bracket_of : S → Res SV := fnR 1 g_bracket_of
noncomputable def gl_tree (f : S → Res SV) : S → Out :=
  gSeq (gIf (mTru (mOp dEq (mUn dLen (mCons (mVar 0) mNil)) (mC (.int 1)))) (gRet (oD (mVar 0))) gNil)
  (gSeq (gSetO 1 (oLc (mOp dRng2 (mC (.int 1)) (mUn dLen (mCons (mVar 0) mNil))) (tName 2) (mTru (mF (oCall fl_least [] (mCons (mF (oSl (mVar 0) (mP (mVar 2)) mNoP)) mNil)))) (mVar 2) [2]))
  (gRet (oD (mTup (mCons (mF (oCall f [] (mCons (mF (oSl (mVar 0) mNoP (mP (mPix 1 (mC (.int 0)))))) mNil))) (mCons (mF (oCall f [] (mCons (mF (oSl (mVar 0) (mP (mPix 1 (mC (.int 0)))) mNoP)) mNil))) mNil))))))
noncomputable def fl_tree : Nat → S → Res SV
  | 0 => fun _ => .bad
  | n + 1 => fnR 3 (gl_tree (fl_tree n))
/-! ### the first word of an opened bracket -/
theorem conv_split : ∀ (n : Nat) (w : Wd) (f g : Wd → Rat), (∀ u, u.length ≠ n → f u = 0) → n ≤ w.length → conv f g w = f (w.take n) * g (w.drop n)
  | 0, [], f, g, h, _ => by simp [conv]
  | 0, x :: w, f, g, h, _ => by
    simp only [conv]
    have e1 : (fun u => f (x :: u)) = fun _ => 0 := funext fun u => h (x :: u) (by simp)
    rw [e1, conv_zeroL]
    simp
    grind
  | n + 1, [], f, g, h, hl => by simp at hl
  | n + 1, x :: w, f, g, h, hl => by
    simp only [conv]
    rw [h [] (by simp), conv_split n w (fun u => f (x :: u)) g (fun u hu => h (x :: u) (by simp; omega)) (by simpa using hl)]
    simp
    grind
theorem app_ge {a a' b b' : Wd} (hl : a'.length = a.length) (h : ¬ a' < a) (k : ¬ b' < b) : ¬ a' ++ b' < a ++ b := fun z => by
  rcases lt_tri a a' with y | y | y
  · rcases lt_pre y with ⟨r, hr⟩ | y2
    · have := congrArg List.length hr
      rw [List.length_append] at this
      have hr0 : r = [] := List.length_eq_zero_iff.mp (by omega)
      rw [hr0, List.append_nil] at hr
      rw [hr] at y
      exact lt_irr a y
    · exact lt_asy (y2 b b') z
  · subst y
    exact k (lt_same a z)
  · exact h y
structure Ldg (w : Wd) (f : Wd → Rat) : Prop where
  one : f w = 1
  ge : ∀ v, f v ≠ 0 → v.length = w.length ∧ ¬ v < w
theorem Ldg.len {w : Wd} {f : Wd → Rat} (h : Ldg w f) : ∀ u, u.length ≠ w.length → f u = 0 := fun u hu => by
  by_cases z : f u = 0
  · exact z
  · exact absurd (h.ge u z).1 hu
theorem lead_nd {u v : Wd} {f g : Wd → Rat} (hf : Ldg u f) (hg : Ldg v g) (h : u ++ v < v ++ u) : Ldg (u ++ v) (fun w => conv f g w - conv g f w) := by
  have la : (u ++ v).length = u.length + v.length := List.length_append
  have second : ∀ w, w.length = u.length + v.length → conv g f w ≠ 0 → ¬ w < v ++ u := fun w hw hz => by
    rw [conv_split v.length w g f hg.len (by omega)] at hz
    have h1 : g (w.take v.length) ≠ 0 := fun y => hz (by rw [y]; grind)
    have h2 : f (w.drop v.length) ≠ 0 := fun y => hz (by rw [y]; grind)
    obtain ⟨k1, k2⟩ := hg.ge _ h1
    obtain ⟨k3, k4⟩ := hf.ge _ h2
    have := app_ge k1 k2 k4
    rwa [List.take_append_drop] at this
  constructor
  · have e1 : conv f g (u ++ v) = 1 := by
      rw [conv_split u.length (u ++ v) f g hf.len (by omega), List.take_left' rfl, List.drop_left' rfl, hf.one, hg.one]
      grind
    have e2 : conv g f (u ++ v) = 0 := by
      by_cases z : conv g f (u ++ v) = 0
      · exact z
      · exact absurd h (second _ la z)
    show conv f g (u ++ v) - conv g f (u ++ v) = 1
    rw [e1, e2]; grind
  · intro w hw
    have hw : conv f g w - conv g f w ≠ 0 := hw
    have hlen : w.length = u.length + v.length := by
      by_cases y : w.length = u.length + v.length
      · exact y
      · rw [conv_len w hf.len hg.len y, conv_len w hg.len hf.len (by omega)] at hw
        exact absurd (by grind) hw
    refine ⟨by omega, fun z => ?_⟩
    by_cases y : conv f g w = 0
    · have y2 : conv g f w ≠ 0 := fun y2 => hw (by rw [y, y2]; grind)
      exact second w hlen y2 (lt_tra z h)
    · rw [conv_split u.length w f g hf.len (by omega)] at y
      have h1 : f (w.take u.length) ≠ 0 := fun q => y (by rw [q]; grind)
      have h2 : g (w.drop u.length) ≠ 0 := fun q => y (by rw [q]; grind)
      obtain ⟨k1, k2⟩ := hf.ge _ h1
      obtain ⟨k3, k4⟩ := hg.ge _ h2
      have := app_ge k1 k2 k4
      rw [List.take_append_drop] at this
      exact this z
/-! ### halves -/
theorem min_ends {l : Wd} {i : Nat} {r : List Nat} (e : endIx l = i :: r) (h : ∀ j ∈ r, i < j) : dMin [.list ((endIx l).map encN)] = some (encN i) := by
  have e1 : (endIx l).map encN = (endIx l).map fun (i : Nat) => PyData.int (1 + (i : Int)) := by
    apply List.map_congr_left
    intro j _
    unfold encN
    rw [Int.natCast_add]
    rfl
  rw [e1, d_minEnds e h]
  unfold encN
  rw [Int.natCast_add]
  rfl
theorem rng_ends {l : Wd} {L : Int} (h : L = l.length) : rangeD 1 (L - 1).toNat = (List.range (l.length - 1)).map encN := by
  have : (L - 1).toNat = l.length - 1 := by omega
  rw [this]
  unfold rangeD
  apply List.map_congr_left
  intro i _
  unfold encN
  rw [Int.natCast_add]
  rfl
theorem halves_R {l : Wd} (hw : isW l = true) {i : Nat} {r : List Nat} (hi : 1 + i < l.length) (e : endIx l = i :: r) (hr : ∀ j ∈ r, i < j) : f_halves_of [.d (eW l)] = .ok (.d (.tuple [eW (l.take (1 + i)), eW (l.drop (1 + i))])) [.un] := by
  obtain ⟨l6, lL⟩ := isW_len hw
  have lm : 10000 ≤ lim := by decide
  obtain ⟨L, hL⟩ : ∃ L : Int, L = l.length := ⟨_, rfl⟩
  have hlenL : ∀ {Q : D → Prop}, WL (dLen [eW l]) Q = Q (.int L) := fun {Q} => by
    rw [wl_lenS, hL]
    exact propext ⟨fun z => z.2, fun z => ⟨by omega, z⟩⟩
  refine fn_gives (ds := [eW l]) ?_
  show WO (g_halves_of [.d (eW l), .un]) _ _ _ _ _
  unfold g_halves_of
  walk_at "run"
  refine wq_lcf (xs := List.range (l.length - 1)) (enc := encN) (p := fun i => leastB (l.drop (1 + i))) (h := encN) (w := [.d (eW l), .un]) (by rw [List.length_range]; omega) ?_ fun k hk => ?_
  · simp only [wx_op, wx_C, wx_un, wx_cons, wx_nil, wx_var, List.getElem?_cons_succ, List.getElem?_cons_zero, wv_d]
    rw [hlenL]
    walk_at "run"
    refine ⟨⟨by decide, decide_eq_true (by omega)⟩, rng_ends hL, ?_⟩
    rw [show (List.range (l.length - 1)).filter (fun i => leastB (l.drop (1 + i))) = endIx l from rfl, min_ends e hr]
    have eN : encN i = .int ((1 + i : Nat) : Int) := rfl
    have c1 : dCut none (some ((1 + i : Nat) : Int)) (eW l) = some (.d (eW (l.take (1 + i)))) := d_cutTo' (by omega)
    have c2 : dCut (some ((1 + i : Nat) : Int)) none (eW l) = some (.d (eW (l.drop (1 + i)))) := d_cutFrom (by omega) (by omega)
    rw [eN]
    walk_at "run"
    rw [c1]
    walk_at "run"
    rw [c2]
    exact ⟨(show 2 ≤ lim by decide), rfl⟩
  · have hk := List.mem_range.mp hk
    have eN : encN k = .int ((1 + k : Nat) : Int) := rfl
    have c2 : dCut (some ((1 + k : Nat) : Int)) none (eW l) = some (.d (eW (l.drop (1 + k)))) := d_cutFrom (by omega) (by omega)
    rw [eN]
    walk_at "run"
    rw [c2]
    walk_at "run"
    refine wf_eq (least_spec _ (isW_drop hw (1 + k))) rfl ?_
    walk_at "run"
    split <;> trivial
theorem brk_R : ∀ (n : Nat) (w : Wd), w.length < n + 1 → isW w = true → Lst w → ∃ b, f_bracket_so (n + 1) [.d (eW w)] = .ok (.d (eB b)) [.un] ∧ fl_tree (n + 1) [.d (eW w)] = .ok (.d (eB b)) [.un] ∧ lets b = w ∧ Ldg w (op b) := fun n => by
  induction n with
  | zero =>
    intro w h hw hl
    exact absurd (List.length_eq_zero_iff.mp (by omega)) hl.1
  | succ n ih =>
    intro w h hw hl
    obtain ⟨l6, lL⟩ := isW_len hw
    have lm : 10000 ≤ lim := by decide
    have hpos := List.length_pos_iff.mpr hl.1
    obtain ⟨L, hL⟩ : ∃ L : Int, L = w.length := ⟨_, rfl⟩
    have hlenL : ∀ {Q : D → Prop}, WL (dLen [eW w]) Q = Q (.int L) := fun {Q} => by
      rw [wl_lenS, hL]
      exact propext ⟨fun z => z.2, fun z => ⟨by omega, z⟩⟩
    by_cases h1 : w.length = 1
    · obtain ⟨a, rfl⟩ : ∃ a, w = [a] := by
        match w, h1 with
        | [a], _ => exact ⟨a, rfl⟩
      have eL : decide (L = 1) = true := decide_eq_true (by omega)
      refine ⟨.lf a, ?_, ?_, rfl, ⟨?_, fun v hv => ?_⟩⟩
      · refine fn_gives (ds := [eW [a]]) ?_
        show WO (g_bracket_so (f_bracket_so (n + 1)) [.d (eW [a]), .un, .un]) _ _ _ _ _
        unfold g_bracket_so
        simp only [wo_seq, wo_if, wx_tru, wx_op, wx_C, wx_un, wx_cons, wx_nil, wx_var, List.getElem?_cons_succ, List.getElem?_cons_zero, wv_d]
        rw [hlenL]
        walk_at "run"
        rw [eL]
        walk_at "run"
        rfl
      · refine fn_gives (ds := [eW [a]]) ?_
        show WO (gl_tree (fl_tree (n + 1)) [.d (eW [a]), .un, .un]) _ _ _ _ _
        unfold gl_tree
        simp only [wo_seq, wo_if, wx_tru, wx_op, wx_C, wx_un, wx_cons, wx_nil, wx_var, List.getElem?_cons_succ, List.getElem?_cons_zero, wv_d]
        rw [hlenL]
        walk_at "run"
        rw [eL]
        walk_at "run"
        rfl
      · show (if [a] = [a] then (1 : Rat) else 0) = 1
        rw [if_pos rfl]
      · have hv : (if v = [a] then (1 : Rat) else 0) ≠ 0 := hv
        by_cases z : v = [a]
        · rw [z]; exact ⟨rfl, lt_irr _⟩
        · rw [if_neg z] at hv; exact absurd rfl hv
    · have eL : decide (L = 1) = false := decide_eq_false (by omega)
      obtain ⟨i, r, e, hi, hd, hm, hr⟩ := end_ix (l := w) (by omega)
      have ht := head_least hl (by omega) hi hd hm
      have tl : (w.take (1 + i)).length = 1 + i := by rw [List.length_take]; omega
      have dl : (w.drop (1 + i)).length = w.length - (1 + i) := List.length_drop
      obtain ⟨x, x1, x2, x3, x4⟩ := ih (w.take (1 + i)) (by omega) (isW_take hw _) ht
      obtain ⟨y, y1, y2, y3, y4⟩ := ih (w.drop (1 + i)) (by omega) (isW_drop hw _) hd
      have rot := (least_iff w).mp hl.2 (1 + i) (by omega) hi
      have wj : w.take (1 + i) ++ w.drop (1 + i) = w := List.take_append_drop _ _
      have ld := lead_nd x4 y4 (by rw [wj]; exact rot)
      rw [wj] at ld
      have eN : encN i = .int ((1 + i : Nat) : Int) := rfl
      have c1 : dCut none (some ((1 + i : Nat) : Int)) (eW w) = some (.d (eW (w.take (1 + i)))) := d_cutTo' (by omega)
      have c2 : dCut (some ((1 + i : Nat) : Int)) none (eW w) = some (.d (eW (w.drop (1 + i)))) := d_cutFrom (by omega) (by omega)
      refine ⟨.nd x y, ?_, ?_, by rw [lets, x3, y3, wj], ld⟩
      · refine fn_gives (ds := [eW w]) ?_
        show WO (g_bracket_so (f_bracket_so (n + 1)) [.d (eW w), .un, .un]) _ _ _ _ _
        unfold g_bracket_so
        simp only [wo_seq, wo_if, wx_tru, wx_op, wx_C, wx_un, wx_cons, wx_nil, wx_var, List.getElem?_cons_succ, List.getElem?_cons_zero, wv_d]
        rw [hlenL]
        walk_at "run"
        rw [eL]
        walk_at "run"
        refine wf_eq (halves_R hw hi e hr) rfl ?_
        walk_at "run"
        refine wf_eq x1 rfl ?_
        walk_at "run"
        refine wf_eq y1 rfl ?_
        walk_at "run"
        rfl
      · refine fn_gives (ds := [eW w]) ?_
        show WO (gl_tree (fl_tree (n + 1)) [.d (eW w), .un, .un]) _ _ _ _ _
        unfold gl_tree
        simp only [wo_seq, wo_if, wx_tru, wx_op, wx_C, wx_un, wx_cons, wx_nil, wx_var, List.getElem?_cons_succ, List.getElem?_cons_zero, wv_d]
        rw [hlenL]
        walk_at "run"
        rw [eL]
        walk_at "run"
        refine wq_lcf (xs := List.range (w.length - 1)) (enc := encN) (p := fun i => leastB (w.drop (1 + i))) (h := encN) (w := [.d (eW w), .un, .un]) (by rw [List.length_range]; omega) ?_ fun k hk => ?_
        · simp only [wx_op, wx_C, wx_un, wx_cons, wx_nil, wx_var, List.getElem?_cons_succ, List.getElem?_cons_zero, wv_d]
          rw [hlenL]
          walk_at "run"
          refine ⟨⟨by decide, decide_eq_true (by omega)⟩, rng_ends hL, ?_⟩
          rw [show (List.range (w.length - 1)).filter (fun i => leastB (w.drop (1 + i))) = endIx w from rfl, e]
          walk_at "run"
          rw [eN]
          walk_at "run"
          rw [c1]
          walk_at "run"
          refine wf_eq x2 rfl ?_
          walk_at "run"
          rw [eN]
          walk_at "run"
          rw [c2]
          walk_at "run"
          refine wf_eq y2 rfl ?_
          walk_at "run"
          rfl
        · have hk := List.mem_range.mp hk
          have eN : encN k = .int ((1 + k : Nat) : Int) := rfl
          have c2 : dCut (some ((1 + k : Nat) : Int)) none (eW w) = some (.d (eW (w.drop (1 + k)))) := d_cutFrom (by omega) (by omega)
          rw [eN]
          walk_at "run"
          rw [c2]
          walk_at "run"
          have el := lawleast_spec _ (isW_drop hw (1 + k))
          rw [← least_same] at el
          refine wf_eq el rfl ?_
          walk_at "run"
          split <;> trivial
def exNotLeast : Exc := ⟨"NotLeast", [("word", .str "notleast")]⟩
/-! ### the least of some words -/
def minO (x z : D) : Option D := match x with
  | .list xs => match strsD xs with
    | some [] => some z
    | some (y :: r) => some (.str (minS y r))
    | none => none
  | _ => none
theorem wx_minS {f g : M D} {s : S} {Qd : D → S → Prop} {X : Exc → S → Prop} : WQ (mMinS f g s) Qd X = WQ (f s) (fun x s1 => WQ (g s1) (fun z s2 => WL (minO x z) fun d => Qd d s2) X) X := by
  unfold mMinS
  rw [wx_mbind]
  refine wx_ext fun x s1 => ?_
  rw [wx_mbind]
  refine wx_ext fun z s2 => ?_
  unfold minO
  cases x with
  | list xs =>
    show WQ (match strsD xs with
      | some [] => .ok z s2
      | some (y :: r) => .ok (.str (minS y r)) s2
      | none => (Res.bad : Res D)) Qd X = WL (match strsD xs with
      | some [] => some z
      | some (y :: r) => some (.str (minS y r))
      | none => none) _
    cases strsD xs with
    | none => rfl
    | some l => cases l <;> rfl
  | _ => rfl
def encZ (i : Nat) : D := .int (i : Int)
end DL
set_option Elab.async false
set_option linter.all false
set_option maxRecDepth 100000
set_option maxHeartbeats 4000000
namespace DL
open PySem PySem.Spec L2
open PyProof.Rows hiding St
open Evl (Ex ex_l ex_t ex_rd)
/-! DL55: a lambda with one default -/
section
open LamX
variable {X : Cx} {pins : List (Addr × Obj)} {σ : L2.St} {F H : Hp} {s : Shared}
theorem lam_tailD {T : List (Addr × Str)} {c P : Addr} {params : Arguments} {body : Expr} {scope : Scope} {pos : Pos} {E : Value → Shared → Prop} {Q : Value → Shared → Prop} (I : Inv X pins σ H s) (TB : TabB X.base X.mg c P) (hcode : X.env.code = .ref c)
    (hm : (P, X.env.qual ++ "<lambda>") ∈ T) (hu : ∀ p ∈ T, p.1 = P → p.2 = X.env.qual ++ "<lambda>") (hF : Ex F H) (hT : Tabs T F) {t0 : Addr} {u : Value} (hto : s.heap.get? t0 = some (PySem.W.kdv_tup [u])) (htH : H t0 = none) (htf : t0 ∉ frs X.stack) (hfree : ∀ y ∈ scope.names, y.2 = .free → ∃ c, X.env.cells.lookup y.1 = some c)
    (h : ∀ (f c' : Addr) (doc pm ctv : Value) (F1 H1 : Hp) (s' : Shared), Inv X pins σ H1 s' → Trn T F H F1 H1 →
      s'.heap.get? f = some (PySem.W.kdv_obj "<lambda>" (X.env.qual ++ "<lambda>") params (.expr body) scope (cloFrom X.env.cells scope.names []) (.ref t0) doc pm c' ctv) → s'.heap.get? t0 = some (PySem.W.kdv_tup [u]) → H1 f = none → f ∉ frs X.stack → H1 t0 = none → H1 c' = some (CodeO c' (X.env.qual ++ "<lambda>")) → Q (.ref f) s') :
    wpAny (model X.prog X.w) X.A (makeTail "<lambda>" (X.env.qual ++ "<lambda>") params (.expr body) scope X.env (.ref t0) .none none pos pos.line) Q E s := by
  obtain ⟨ps, hPF, ht, ha⟩ := hT _ hm
  have hP : H P = some (.tbl ps) := hF _ _ hPF
  have bP : s.heap.BuiltinsAt X.mg P := TB.bm.keeps I.bk
  have hP' : s.heap.get? P = some { cls := .none, data := .fields ps } := I.hok P _ hP
  have nofr : ∀ f, s.heap.objs.size ≤ f → f ∉ frs X.stack := fun f hf z => by
    rcases List.mem_cons.mp (I.stkSub _ z) with e | e
    · have h1 := I.lt
      rw [← e] at h1
      exact Nat.lt_irrefl _ (Nat.lt_of_lt_of_le h1 hf)
    · exact I.nofs hf e
  have htP : t0 ≠ P := fun z => by
    rw [z, hP'] at hto
    cases hto
  cases hc : codeAmong pos ps.toList with
  | none =>
    refine PySem.W.kdv_makeTail (mg := X.mg) (c := c) (P := P) (ps := ps) (closure_ok hfree) I.ok.glob (I.mod.glob.keeps I.bk) hcode (TB.code.keeps I.bk) hP' ht hc TB.gP bP fun c' ctv doc h' tk hx hge hlt hrec htb => ?_
    obtain ⟨c2, oc, vs, t, e2, hoc, hd, hv⟩ := hrec
    cases e2
    have hsz : s.heap.objs.size ≤ h'.objs.size := Nat.le_trans hge (Nat.le_of_lt hlt)
    have nC : H c' = none := I.hok.fresh hge
    have htc : t0 ≠ c' := Nat.ne_of_lt (Nat.lt_of_lt_of_le (Heap.lt_size hto) hge)
    have nCF : F c' = none := by
      cases e : F c' with
      | none => rfl
      | some u =>
        rw [hF _ _ e] at nC
        cases nC
    have I1 := inv_table (t' := tk) (more := #[rawInt pos.line, rawInt pos.col, .ref c']) (h' := h'.push (PySem.W.kdv_obj "<lambda>" (X.env.qual ++ "<lambda>") params (.expr body) scope (cloFrom X.env.cells scope.names []) (.ref t0) doc ((X.mg "__name__").getD .none) c' ctv)) I hP
      (fun b o hb e => Heap.get?_push_of_some _ (hx b o hb e)) (Heap.get?_push_of_some _ htb) hge ⟨oc, vs, t, Heap.get?_push_of_some _ hoc, hd, hv⟩
    have hE : ExtN F (upd (upd F P (.tbl (ps ++ #[rawInt pos.line, rawInt pos.col, .ref c']))) c' (CodeO c' (X.env.qual ++ "<lambda>"))) := fun b o e n => by
      rw [upd_ne (ne_of_none e nCF), upd_ne (fun z => n ps (Option.some.inj (e.symm.trans (by rw [z]; exact hPF))))]
      exact e
    have eL : (ps ++ #[rawInt pos.line, rawInt pos.col, .ref c']).toList = ps.toList ++ [rawInt pos.line, rawInt pos.col, .ref c'] := by simp
    refine h h'.objs.size c' doc ((X.mg "__name__").getD .none) ctv (upd (upd F P (.tbl (ps ++ #[rawInt pos.line, rawInt pos.col, .ref c']))) c' (CodeO c' (X.env.qual ++ "<lambda>"))) _ _ I1 ⟨fun b o e => ?_, hE, fun p hp => ?_, fun b o e n => ?_, fun b o e n => ?_, fun b xs e => ?_⟩ (Heap.get?_push_size _ rfl) (Heap.get?_push_of_some _ (hx _ _ htP hto)) ?_ (nofr _ hsz) (by rw [upd_ne htc, upd_ne htP]; exact htH) upd_same
    · by_cases hb : b = c'
      · subst hb
        rw [upd_same] at e ⊢
        exact e
      · rw [upd_ne hb] at e ⊢
        by_cases hb2 : b = P
        · subst hb2
          rw [upd_same] at e ⊢
          exact e
        · rw [upd_ne hb2] at e ⊢
          exact hF _ _ e
    · by_cases hb : p.1 = P
      · rw [hu p hp hb, hb]
        refine ⟨_, by rw [upd_ne (ne_of_none hPF nCF), upd_same], by rw [eL]; exact PySem.TriplesOk_snoc _ _ _ _ ht, fun p' cv hcv => ?_⟩
        rw [eL] at hcv
        rcases among_app _ ht hcv with z | z
        · obtain ⟨c0, e1, e2⟩ := ha p' cv z
          exact ⟨c0, e1, hE _ _ e2 codeO_ne⟩
        · exact ⟨c', z, upd_same⟩
      · obtain ⟨ps', a1, a2, a3⟩ := hT p hp
        refine ⟨ps', by rw [upd_ne (ne_of_none a1 nCF), upd_ne hb]; exact a1, a2, fun p' cv hcv => ?_⟩
        obtain ⟨c0, e1, e2⟩ := a3 p' cv hcv
        exact ⟨c0, e1, hE _ _ e2 codeO_ne⟩
    · have n1 : b ≠ P := fun z => by
        rw [z, hPF] at n
        cases n
      rw [upd_ne (ne_of_none e nC), upd_ne n1]
      exact e
    · have n1 : b ≠ P := fun z => by
        rw [z, hPF] at n
        cases n
      rw [upd_ne (ne_of_none e nC), upd_ne n1]
      exact n
    · by_cases hb : b = c'
      · rw [hb, upd_same] at e
        unfold CodeO at e
        cases e
      · rw [upd_ne hb] at e
        by_cases hb2 : b = P
        · rw [hb2, upd_same] at e
          cases e
        · rw [upd_ne hb2] at e
          exact e
    · have n1 : h'.objs.size ≠ c' := Nat.ne_of_gt hlt
      have n2 : h'.objs.size ≠ P := Nat.ne_of_gt (Nat.lt_of_lt_of_le (Heap.lt_size hP') hsz)
      rw [upd_ne n1, upd_ne n2]
      exact I.hok.fresh hsz
  | some cv =>
    obtain ⟨c', e, hco⟩ := ha pos cv hc
    subst e
    refine PySem.W.kdv_makeTailHit (mg := X.mg) (c := c) (P := P) (ps := ps) (closure_ok hfree) I.ok.glob (I.mod.glob.keeps I.bk) hcode (TB.code.keeps I.bk) hP' ht hc bP fun ctv doc h' tk hx hsz => ?_
    have I1 : Inv X pins σ H { s with heap := h'.push (PySem.W.kdv_obj "<lambda>" (X.env.qual ++ "<lambda>") params (.expr body) scope (cloFrom X.env.cells scope.names []) (.ref t0) doc ((X.mg "__name__").getD .none) c' ctv), toks := tk } := I.kept fun b o e => Heap.get?_push_of_some _ (hx b o e)
    exact h h'.objs.size c' doc ((X.mg "__name__").getD .none) ctv F H _ I1 ⟨hF, ExtN.refl F, hT, fun _ _ e _ => e, fun _ _ _ n => n, fun _ _ e => e⟩ (Heap.get?_push_size _ rfl) (Heap.get?_push_of_some _ (hx _ _ hto)) (I.hok.fresh hsz) (nofr _ hsz) htH (hF _ _ hco)
theorem lam_makeD {T : List (Addr × Str)} {c P : Addr} {params : Arguments} {body : Expr} {scope : Scope} {pos : Pos} {Q : Value → Shared → Prop} (I : Inv X pins σ H s) (TB : TabB X.base X.mg c P) (hcode : X.env.code = .ref c)
    (hm : (P, X.env.qual ++ "<lambda>") ∈ T) (hu : ∀ p ∈ T, p.1 = P → p.2 = X.env.qual ++ "<lambda>") (hF : Ex F H) (hT : Tabs T F) {e0 : Expr} {z : Int} (hde : params.defaults = [e0]) (hk0 : params.kw_defaults = []) (he : PE X e0 (fun _ H Q => Q (.int z) H)) (hfree : ∀ y ∈ scope.names, y.2 = .free → ∃ c, X.env.cells.lookup y.1 = some c)
    (h : ∀ (f c' t : Addr) (u doc pm ctv : Value) (F1 H1 : Hp) (s' : Shared), Inv X pins σ H1 s' → Trn T F H F1 H1 →
      s'.heap.get? f = some (PySem.W.kdv_obj "<lambda>" (X.env.qual ++ "<lambda>") params (.expr body) scope (cloFrom X.env.cells scope.names []) (.ref t) doc pm c' ctv) → s'.heap.get? t = some (PySem.W.kdv_tup [u]) → H1 f = none → f ∉ frs X.stack → H1 t = none → t ∉ frs X.stack → H1 c' = some (CodeO c' (X.env.qual ++ "<lambda>")) → Q (.ref f) s') :
    wpAny (model X.prog X.w) X.A (eval (.Lambda params body scope pos) X.env) Q X.xe s := by
  refine PySem.W.kdv_lam (by rw [hde]; rfl) hk0 ?_
  rw [hde]
  refine PySem.W.kdv_all1 (thn (he.run pins s σ H (fun v H' => v = .int z ∧ H' = H) I ⟨rfl, rfl⟩) fun u s1 ⟨v, H1, I1, ru, q⟩ => PySem.W.kdv_all0 ?_)
  obtain ⟨rfl, rfl⟩ := q
  rw [makeFunction_eq]
  simp only [List.zip_nil_right, List.filterMap_nil, List.isEmpty_nil, if_true, pure_bind, List.isEmpty_cons, Bool.false_eq_true, if_false]
  refine wpAny_bind (wpAny_newTextTuple ?_)
  have I2 : Inv X pins σ H1 { s1 with heap := s1.heap.push (PySem.W.kdv_tup [u]) } := I1.kept fun b o e => Heap.get?_push_of_some _ e
  have nofr : s1.heap.objs.size ∉ frs X.stack := fun z => by
    rcases List.mem_cons.mp (I1.stkSub _ z) with e | e
    · have h1 := I1.lt
      rw [← e] at h1
      exact Nat.lt_irrefl _ h1
    · exact I1.nofs (Nat.le_refl _) e
  exact lam_tailD I2 TB hcode hm hu hF hT (Heap.get?_push_size _ rfl) (I1.hok.fresh (Nat.le_refl _)) nofr hfree fun f c' doc pm ctv F1 H2 s' a1 a2 a3 a4 a5 a6 a7 a8 => h f c' _ u doc pm ctv F1 H2 s' a1 a2 a3 a4 a5 a6 a7 nofr a8
/-- one parameter; N' the names as they are seen inside -/
structure LamD (N N' : List Str) (a0 : Str) (sc scope : Scope) : Prop where
  kind : scope.kind = .function
  co : scope.isCoroutine = false
  gen : scope.isGenerator = false
  loc : scope.names.lookup a0 = some .local
  own : ∀ y ∈ scope.names, y.2 ≠ .cell ∧ (y.2 = .local → y.1 = a0)
  free : ∀ y ∈ scope.names, y.2 = .free → sc.names.lookup y.1 = some .cell ∨ sc.names.lookup y.1 = some .free
  len : N'.length = N.length
  nin : ∀ (i : Nat) y, N'[i]? = some y → y ≠ a0 ∧ (N[i]? = some y ∨ scope.names.lookup y = none)
theorem LamD.has {X : Cx} {N' : List Str} {a0 : Str} {scope : Scope} (L : LamD X.N N' a0 X.env.scope scope) (ok : X.Ok) : ∀ y ∈ scope.names, y.2 = .free → ∃ c, X.env.cells.lookup y.1 = some c := fun y hy e => by
  rcases L.free y hy e with k | k
  · exact ok.has _ (.inl k)
  · exact ok.has _ (.inr k)
end
section
open LamX
variable {X : Cx} {pins : List (Addr × Obj)} {σ : L2.St} {H HZ : Hp} {s s1 : Shared}
theorem lam_startD {A : Around} {outer : List Env} {E : XK} {scope : Scope} {f c' : Addr} {h₁ : Heap} {tk : Nat} (I : Inv X pins σ H s) {N' : List Str} {a0 : Str} {bs : List (Str × Value)} (L : LamD X.N N' a0 X.env.scope scope) (e0 : Env0 X.prog X.w X.K X.mg X.base A outer s1 HZ) (hd : A.handled = none)
    (un : Un (frs X.stack) [] H HZ s.heap s1.heap) (hns : h₁.Ns s1.heap.objs.size fun y => bs.reverse.lookup y) (kp : ∀ b o, s1.heap.get? b = some o → h₁.get? b = some o) :
    Inv (lamCx { X with N := N' } A outer s1 HZ E scope f c') [] σ HZ { s1 with heap := h₁, toks := tk } := by
  have hfree := L.has I.ok
  have cm : ∀ {y c}, (cloFrom X.env.cells scope.names []).lookup y = some c → X.env.cells.lookup y = some c := fun {y c} e => by
    rcases cloFrom_mem (PySem.mem_of_lookup e) with hm | ⟨h1, h2⟩
    · cases hm
    · obtain ⟨c1, hc⟩ := hfree _ h1 rfl
      have hc : X.env.cells.lookup y = some c1 := hc
      have e2 : c = c1 := by
        rw [h2, hc] <;> rfl
      rw [e2]
      exact hc
  have look : ∀ {y}, scope.names.lookup y = some .free → ∃ c, (cloFrom X.env.cells scope.names []).lookup y = some c := fun {y} hl => by
    have hy : (y, NameKind.free) ∈ scope.names := PySem.mem_of_lookup hl
    exact mem_lookup (cloFrom_has (cells := X.env.cells) (acc := []) hy)
  have cellK : ∀ {c : Addr} {v : Option Value}, H c = none → s.heap.IsCell c v → h₁.IsCell c v := fun {c v} n ⟨o, ho, hd⟩ => by
    obtain ⟨sl, q⟩ := un.any ho n (by simp)
    exact ⟨_, kp _ _ q, hd⟩
  have noA : ∀ b : Addr, b ∉ (lamCx { X with N := N' } A outer s1 HZ E scope f c').ex := fun b z => absurd (show b ∈ ([] : List Addr) from z) (by simp)
  refine ⟨⟨e0.mod, L.kind, rfl, rfl, Nat.le_refl _, fun y z c e1 e2 => I.ok.inj y z c (cm e1) (cm e2), fun y hy => ?_, fun y c z _ => ?_, fun _ => hd, Around.frames_deeper e0.frames, .inr ⟨rfl, rfl⟩, fun b z => absurd z (noA b), e0.bs, e0.bsz, fun b _ _ => noA b,
      fun b z => absurd z (noA b), e0.funs, e0.frf⟩,
    rfl, e0.bare, Un.kept kp, ⟨_, hns, fun i y v e1 e2 e3 => ?_⟩, fun y c e => ?_, e0.hok.fresh (Nat.le_refl _), fun y c e => ?_, fun q hq => absurd (show q ∈ ([] : List (Addr × Obj)) ++ [] from hq) (by simp), e0.hok.kept kp, I.len.trans L.len.symm⟩
  · have hy : scope.names.lookup y = some .cell ∨ scope.names.lookup y = some .free := hy
    rcases hy with hy | hy
    · exact absurd rfl (L.own _ (PySem.mem_of_lookup hy)).1
    · exact look hy
  · have z : false = true := z
    cases z
  · have e3 : Vis scope y := e3
    rcases e3 with k | k | k
    · have := (L.own _ (PySem.mem_of_lookup k)).2 rfl
      exact absurd this (L.nin i y e1).1
    · exact absurd rfl (L.own _ (PySem.mem_of_lookup k)).1
    · obtain ⟨m, hn, hl⟩ := I.loc
      have hvis : Vis X.env.scope y := (L.free _ (PySem.mem_of_lookup k) rfl).elim (fun k => .inr (.inl k)) (fun k => .inr (.inr k))
      have e1' : X.N[i]? = some y := by
        rcases (L.nin i y e1).2 with z | z
        · exact z
        · rw [z] at k; cases k
      obtain ⟨w', r, q⟩ := hl i y v e1' e2 hvis
      obtain ⟨c2, h2⟩ := look k
      refine ⟨w', r, .inr ⟨.inr k, c2, h2, ?_⟩⟩
      have c1 := cm h2
      rcases q with ⟨k', _⟩ | ⟨_, c3, e', z⟩
      · have k' : X.env.scope.names.lookup y = some .local := k'
        rcases L.free _ (PySem.mem_of_lookup k) rfl with k2 | k2 <;> rw [show X.env.scope.names.lookup y = _ from k2] at k' <;> cases k'
      · rw [c1] at e'
        cases e'
        exact cellK (I.freeC y _ c1) z
  · obtain ⟨w', z⟩ := I.cell y c (cm e)
    exact ⟨w', cellK (I.freeC y c (cm e)) z⟩
  · obtain ⟨v, o, ho, hd⟩ := I.cell y c (cm e)
    exact un.free c o ho (I.freeC y c (cm e)) (by simp)
theorem pe_actD {CXg : CXT} {Eg : XK} {Ng : List Str} {qg : Str} {sg : Scope} {g f c' : Addr} {cdg pm ctv : Value} {params : Arguments} {body : Expr} {scope : Scope} {k i : Nat} {a : Str} {pn : List (Addr × Obj)} {xe : Value → Shared → Prop} {W : WX} {E : XK} {tb : TE} {p1 p2 : Pos}
    (I : Inv X pins σ H s) {N' : List Str} {a0 : Str} {t0 : Addr} {u0 doc : Value} (L : LamD X.N N' a0 X.env.scope scope) (hf : s.heap.get? f = some (PySem.W.kdv_obj "<lambda>" (X.env.qual ++ "<lambda>") params (.expr body) scope (cloFrom X.env.cells scope.names []) (.ref t0) doc pm c' ctv)) (hfn : H f = none) (hfr : f ∉ frs X.stack) (hto : s.heap.get? t0 = some (PySem.W.kdv_tup [u0])) (htn : H t0 = none) (htr : t0 ∉ frs X.stack)
    (hbind : ∃ k, bindArgs (PySem.W.kdv_fn "<lambda>" (X.env.qual ++ "<lambda>") params (.expr body) scope (cloFrom X.env.cells scope.names []) (.ref t0) doc pm (.ref c') ctv) ⟨[], []⟩ = seqItems? (.ref t0) >>= k ∧ k (some #[u0]) = pure [(a0, u0)])
    (tk : Takes ((cxOf CXg X.prog X.w X.K X.mg X.base Ng qg sg g cdg X.A X.stack s H Eg).tr pn xe) W) (hW : ∀ cls d σ' H', E cls d H' → W cls d σ' H') (hr : Room (k + 1) (X.A.deeper (envOfC qg sg s.heap.objs.size g cdg)))
    (hbody : ∀ (A : Around) (outer : List Env) (s : Shared) (H : Hp), Room k (A.deeper (lamEnv X scope s.heap.objs.size f c')) → PE (lamCx { X with N := N' } A outer s H E scope f c') body tb)
    (hN : Ng[i]? = some a) (hv : Vis sg a) (hd : (a == ("__debug__" : Str)) = false := by decide) (hcd : (a == ("__classdict__" : Str)) = false := by decide) :
    PE ((cxOf CXg X.prog X.w X.K X.mg X.base Ng qg sg g cdg X.A X.stack s H Eg).tr pn xe) (.Call (.Name a p1) [] [] p2)
      (fun σZ HZ Q => σZ[i]? = some (some (.ref f)) ∧ HZ c' = some (CodeO c' (X.env.qual ++ "<lambda>")) ∧ tb σ HZ Q) := by
  refine ⟨fun pinsZ sZ σZ HZ Q IZ h => ?_⟩
  obtain ⟨hs, hc, ht⟩ := h
  refine wpAny_Call_Name_kw (thn ((pe_var (pos := p1) (i := i) hN hv hd hcd).run pinsZ sZ σZ HZ (fun v H1 => v = .ref f ∧ H1 = HZ) IZ ⟨.ref f, hs, rfl, rfl⟩) fun u s1 ⟨v, H1, I1, r1, q1⟩ => ?_)
  obtain ⟨ev, eH⟩ := q1
  subst ev
  rw [eH] at I1
  obtain rfl : u = Value.ref f := r1
  have of1 : s1.heap.get? f = some (PySem.W.kdv_obj "<lambda>" (X.env.qual ++ "<lambda>") params (.expr body) scope (cloFrom X.env.cells scope.names []) (.ref t0) doc pm c' ctv) := I1.base.keep f _ hf hfn hfr (fun z => nomatch (show f ∈ ([] : List Addr) from z))
  refine PySem.W.callWith_F0 ⟨_, _, _, _, of1⟩ ?_
  have un : Un (frs X.stack) [] H HZ s.heap s1.heap := I1.base
  obtain ⟨⟨oc, vs, t, hoc, hdc, hvc⟩, _, _⟩ := I1.hok c' _ hc
  have rc : codeAny (model X.prog X.w) (X.A.deeper (envOfC qg sg s.heap.objs.size g cdg)) (.call (.ref f) ⟨[], []⟩) (CR (L2.CX X.prog X.w) (envOfC qg sg s.heap.objs.size g cdg :: X.stack) X.prog X.w HZ s1 Q E) s1 := by
    refine PySem.W.kla_callFunE hr.depth of1 rfl L.co L.gen rfl ⟨c', oc, vs, t, rfl, hoc, hdc, hvc⟩ ?_
    obtain ⟨kk, hb1, hb2⟩ := hbind
    have ot1 : s1.heap.get? t0 = some (PySem.W.kdv_tup [u0]) := I1.base.keep t0 _ hto htn htr (fun z => nomatch (show t0 ∈ ([] : List Addr) from z))
    refine BindsTo.of_defaults (T := t0) rfl ot1 rfl hb1 hb2 _ _ _ _ (wpAny_newFunctionEnv (fun y hy => (L.own y hy).1) (fun y hy => by rw [List.mem_singleton.mp hy]; exact L.loc) (fun h₁ hns hsb => ⟨I1.nolimit.fresh _ hsb, ?_⟩) L.kind)
    show codeAny _ _ (.expr body (lamEnv X scope s1.heap.objs.size f c')) _ _
    have kp : ∀ b o, s1.heap.get? b = some o → h₁.get? b = some o := fun b o e => hsb.extBut b o (Nat.ne_of_lt (Heap.lt_size e)) (Heap.get?_push_of_some _ e)
    have J : Inv (lamCx { X with N := N' } (X.A.deeper (envOfC qg sg s.heap.objs.size g cdg)) (envOfC qg sg s.heap.objs.size g cdg :: X.stack) s1 HZ E scope f c') [] σ HZ { s1 with heap := h₁, toks := s1.toks + ([(a0, u0)] : List (Str × Value)).length } :=
      lam_startD I L I1.env0 hr.hd un hns kp
    refine PySem.W.kla_codeExpr (wpAny_mono ((hbody _ _ s1 HZ (hr.deeper _)).run [] _ _ HZ Q J ht) (fun v s' hq => ?_) fun e s' hq => hq)
    obtain ⟨w', H', J', rv, q⟩ := hq
    exact ⟨w', H', J'.os, J'.bare, J'.base, J'.hok, rv, q⟩
  have hx : Passes (L2.CX X.prog X.w) ((cxOf CXg X.prog X.w X.K X.mg X.base Ng qg sg g cdg X.A X.stack s H Eg).tr pn xe) E := passes_call tk hW
  refine wpAny_call (codeAny_mono rc fun r s' hq => ?_)
  cases r with
  | error e => exact hx pinsZ σZ HZ s1 e s' I1 hq
  | ok fl =>
    cases fl with
    | ret u => exact I1.after hq
    | next => exact False.elim hq
    | brk => exact False.elim hq
    | cont => exact False.elim hq
end
section
open LamX
variable {X : Cx} {pins : List (Addr × Obj)} {σ : L2.St} {F H : Hp} {s : Shared}
/-- x(lambda: body) -/
theorem pe_lamcallD {T : List (Addr × Str)} {TT : (XK → Hp → VK → Prop) → Hp → VK → Prop} {x a : Str} {g c P : Addr} {k : Nat} {pg : Arguments} {bg : List Stmt} {sg : Scope} {dV kV doc pm cdv ct oc : Value} {an od : Option Addr} {osl : Array (Option Value)} {Ng : List Str}
    {params : Arguments} {body : Expr} {scope : Scope} {t : XK → TE} {p lpos pos : Pos} (hg : Gl X x) (hm : X.mg x = some (.ref g)) (hk : PySem.W.keepIn X.K (.ref g) = true)
    (lk : X.K.lookup g = some ⟨oc, od, .func (PySem.W.fnOf x x pg bg sg dV kV doc pm an cdv ct), osl⟩) (hcg : PySem.W.codeIn X.K cdv x = true) (hb : L2.Binds X.K (PySem.W.fnOf x x pg bg sg dV kV doc pm an cdv ct) [a] []) (Sg : FnScope Ng [a] sg) (hNg : Ng[0]? = some a) (hva : Vis sg a)
    (hG : GivesTo X Ng x sg g cdv bg a (X.env.qual ++ "<lambda>") TT)
    (TB : TabB X.base X.mg c P) (hcode : X.env.code = .ref c) (hmT : (P, X.env.qual ++ "<lambda>") ∈ T) (hu : ∀ p ∈ T, p.1 = P → p.2 = X.env.qual ++ "<lambda>") (hr : Room (k + 2) X.A) {N' : List Str} {a0 : Str} {e0 : Expr} {z0 : Int} (L : LamD X.N N' a0 X.env.scope scope) (hde : params.defaults = [e0]) (hk0 : params.kw_defaults = []) (he : PE X e0 (fun _ H Q => Q (.int z0) H))
    (hbind : ∀ (q : Str) (cl : List (Str × Addr)) (t : Addr) (u doc pm cv ctv : Value), ∃ k, bindArgs (PySem.W.kdv_fn "<lambda>" q params (.expr body) scope cl (.ref t) doc pm cv ctv) ⟨[], []⟩ = seqItems? (.ref t) >>= k ∧ k (some #[u]) = pure [(a0, u)])
    (hbody : ∀ (A : Around) (outer : List Env) (s : Shared) (H : Hp) (E : XK) (f c' : Addr), Room k (A.deeper (lamEnv X scope s.heap.objs.size f c')) → PE (lamCx { X with N := N' } A outer s H E scope f c') body (t E))
    (hdb : (x == ("__debug__" : Str)) = false := by decide) (hd : (a == ("__debug__" : Str)) = false := by decide) (hcd : (a == ("__classdict__" : Str)) = false := by decide) :
    PE X (.Call (.Name x p) [.Lambda params body scope lpos] [] pos) (tLam3 T TT t) := by
  refine ⟨fun pins s σ H Q I h => ?_⟩
  obtain ⟨F, hF, hT, h⟩ := h
  refine wpAny_Call_Name_kw (ld_glob I hg hm ?_ hdb)
  refine PySem.W.callWith_K (h₀ := X.base) I.ok.mod.kin hk ?_ (by rfl) (by rfl)
  show wpAny _ _ (spliced ((false, eval (.Lambda params body scope lpos) X.env) :: backTo pos (starEach [] X.env))) _ _ s
  refine Calls.spliced_cons (lam_makeD I TB hcode hmT hu hF hT hde hk0 he (L.has I.ok) fun f c' tq uq doc' pm' ctv F1 H1 s' I1 tr hf hto hfn hfr htn htr hco => ?_)
  refine Calls.spliced_nil ⟨I1.kIn, ?_⟩
  have rc : codeAny (model X.prog X.w) X.A (.call (.ref g) ⟨[.ref f], []⟩) (CR C8.CX0 X.stack X.prog X.w H1 s' Q C8.E0) s' := by
    refine run_ofS (N := Ng) (ps := [a]) (us := [.ref f]) (vs := [.ref f]) lk hcg Sg hr I1.env0 (hb s' [.ref f] I1.kIn rfl) (.cons rfl .nil) rfl fun hr' => ?_
    obtain ⟨t', ht', hq'⟩ := hG f c' s' H1 Q (fun E H' Q' => t E σ H' Q') (fun W pn xe E p1 p2 tk hW => pe_actD (i := 0) I1 L hf hfn hfr hto htn htr (hbind _ _ _ _ _ _ _ _) tk hW hr' (fun A outer s H hr2 => hbody A outer s H E f c' hr2) hNg hva hd hcd) hco (h F1 H1 tr)
    exact ⟨t', ht'.nox, hq'⟩
  refine wpAny_call (codeAny_mono rc fun r s2 hq => ?_)
  cases r with
  | error e => exact (show False from hq).elim
  | ok fl =>
    cases fl with
    | ret u => exact I1.after hq
    | next => exact False.elim hq
    | brk => exact False.elim hq
    | cont => exact False.elim hq
end
section
variable {X : Cx} {T : List (Addr × Str)} {B : Addr} {W : WX}
theorem de_whyD {told no x a : Str} {hl : List (Value × List Str)} {pk : Pk} {g c P : Addr} {k : Nat} {pg : Arguments} {bg : List Stmt} {sg : Scope} {dV kV doc pm cdv ct oc : Value} {an od : Option Addr} {osl : Array (Option Value)} {Ng : List Str}
    {params : Arguments} {body : Expr} {scope : Scope} {fb : M D} {p lpos pos : Pos} (hm : X.mg x = some (.ref g)) (hk : PySem.W.keepIn X.K (.ref g) = true)
    (lk : X.K.lookup g = some ⟨oc, od, .func (PySem.W.fnOf x x pg bg sg dV kV doc pm an cdv ct), osl⟩) (hcg : PySem.W.codeIn X.K cdv x = true) (hb : L2.Binds X.K (PySem.W.fnOf x x pg bg sg dV kV doc pm an cdv ct) [a] []) (Sg : FnScope Ng [a] sg) (hNg : Ng[0]? = some a) (hva : Vis sg a)
    (hG : LamX.GivesTo X Ng x sg g cdv bg a (X.env.qual ++ "<lambda>") (TWhy X.K told no hl)) (hpk : PkOk X.K X.mg hl pk)
    (TB : LamX.TabB X.base X.mg c P) (hcode : X.env.code = .ref c) (hmT : (P, X.env.qual ++ "<lambda>") ∈ T) (hu : ∀ p ∈ T, p.1 = P → p.2 = X.env.qual ++ "<lambda>") (hr : Room (k + 2) X.A) {N' : List Str} {a0 : Str} {e0 : Expr} {z0 : Int} (L : LamD X.N N' a0 X.env.scope scope) (hde : params.defaults = [e0]) (hk0 : params.kw_defaults = []) (he : PE X e0 (fun _ H Q => Q (.int z0) H))
    (hbind : ∀ (q : Str) (cl : List (Str × Addr)) (t : Addr) (u doc pm cv ctv : Value), ∃ k, bindArgs (PySem.W.kdv_fn "<lambda>" q params (.expr body) scope cl (.ref t) doc pm cv ctv) ⟨[], []⟩ = seqItems? (.ref t) >>= k ∧ k (some #[u]) = pure [(a0, u)])
    (hbody : ∀ (A : Around) (outer : List Env) (s : Shared) (H : Hp) (E : XK) (f c' : Addr), Room k (A.deeper (LamX.lamEnv X scope s.heap.objs.size f c')) → DE (LamX.lamCx { X with N := N' } A outer s H E scope f c') T B (fun cls d _ H => E cls d H) body fb)
    (hg : Gl X x := by rfl) (hdb : (x == ("__debug__" : Str)) = false := by decide) (hd : (a == ("__debug__" : Str)) = false := by decide) (hcd : (a == ("__classdict__" : Str)) = false := by decide) :
    DE X T B W (.Call (.Name x p) [.Lambda params body scope lpos] [] pos) (mWhy told no pk fb) :=
  pe_weak (pe_lamcallD (t := fun E => TEd X T B (fun cls d _ H => E cls d H) fb) hg hm hk lk hcg hb Sg hNg hva hG TB hcode hmT hu hr L hde hk0 he hbind hbody hdb hd hcd) fun σ H Q ⟨F, G, s, I, p⟩ => by
    refine ⟨F, I.fr, I.tb, fun F1 H1 tr => ?_⟩
    have I1 := I.trn tr
    have g1 : Gr T F F1 := ⟨tr.gr, fun z => by rw [z] at hmT; cases hmT⟩
    refine ⟨F1, G, s, I1, ?_⟩
    unfold mWhy at p
    cases ef : fb s with
    | bad => rw [ef] at p; exact p
    | ok d s1 =>
      rw [ef] at p
      intro F2 G2 H2 g2 e2 I2 v rv
      refine ⟨by simp [sizeLine_eq], fun q hq => ?_⟩
      exact p F2 _ _ (g1.trans g2) (e2.trans (ex_new I2 hq)) (I2.new hq) _ (.tup upd_same (.cons (.str _) (.cons (rv.mono (ex_new I2 hq)) .nil)))
    | ex c s1 =>
      rw [ef] at p
      simp only at p
      cases ek : (pk c.cls).bind (fldsD c.fs) with
      | none => rw [ek] at p; exact p.elim
      | some ds =>
        rw [ek] at p
        obtain ⟨fl, h1, h2⟩ := Option.bind_eq_some_iff.mp ek
        intro F2 G2 H2 C dd fs g2 e2 I2 hmc hdd hgd hrf
        obtain ⟨k1, k2, k3⟩ := hpk.ok _ _ _ h1 hmc
        obtain ⟨vs, r1, r2⟩ := flds_rel hrf h2
        refine ⟨fl, k1, C, dd, fs, rfl, k2, k3, rfl, hdd, vs, r1, fun q hq => ?_⟩
        exact p F2 _ _ (g1.trans g2) (e2.trans (ex_new I2 hq)) (I2.new hq) _ (.tup upd_same (.cons (.str _) (r2.mono (ex_new I2 hq))))

theorem de_whyDC {told no x : Str} {pk : Pk} {c P : Addr} {k k' : Nat} {params : Arguments} {body : Expr} {scope : Scope} {fb : M D} {p lpos pos : Pos} (Wy : WhyC X.K X.mg x told no pk) (tc : TabC X T c P) (hr : Room k' X.A) (hk : k + 2 ≤ k') {N' : List Str} {a0 : Str} {e0 : Expr} {z0 : Int} (L : LamD X.N N' a0 X.env.scope scope) (he : PE X e0 (fun _ H Q => Q (.int z0) H))
    (hbody : ∀ (A : Around) (outer : List Env) (s : Shared) (H : Hp) (E : XK) (f c' : Addr), Room k (A.deeper (LamX.lamEnv X scope s.heap.objs.size f c')) → DE (LamX.lamCx { X with N := N' } A outer s H E scope f c') T B (fun cls d _ H => E cls d H) body fb)
    (hde : params.defaults = [e0] := by rfl) (hk0 : params.kw_defaults = [] := by rfl)
    (hbind : ∀ (q : Str) (cl : List (Str × Addr)) (t : Addr) (u doc pm cv ctv : Value), ∃ k, bindArgs (PySem.W.kdv_fn "<lambda>" q params (.expr body) scope cl (.ref t) doc pm cv ctv) ⟨[], []⟩ = seqItems? (.ref t) >>= k ∧ k (some #[u]) = pure [(a0, u)] := by intros; exact ⟨_, rfl, rfl⟩)
    (hg : Gl X x := by rfl) (hdb : (x == ("__debug__" : Str)) = false := by decide) :
    DE X T B W (.Call (.Name x p) [.Lambda params body scope lpos] [] pos) (mWhy told no pk fb) := by
  obtain ⟨⟨pg, sg, fd, a, n, Ng, i, j, tl0, h0, hds, hl, p1, p2, p3, p4, p5, p6, Fu, hb, Sg, hNg, hva, hh, hi, hln, hs0, hpk, d1, d2, d3, d4⟩, hm⟩ := Wy
  obtain ⟨oc, od, dV, kV, doc, pm, an, cdv, ct, osl, rfl, lk, hcd, _, _⟩ := Fu.ex
  exact de_whyD hm Fu.kp lk hcd hb Sg hNg hva (why_gives hh Sg.nd hi hln hs0 d1 d2) hpk tc.tb tc.code tc.mem tc.un (hr.mono hk) L hde hk0 he hbind hbody hg hdb d3 d4

def lamDB (N N' : List Str) (a0 : Str) (sc scope : Scope) : Bool :=
  decide (scope.kind = .function) && (!scope.isCoroutine && (!scope.isGenerator && (decide (scope.names.lookup a0 = some .local) && ((scope.names.all fun y => !decide (y.2 = .cell) && ((!decide (y.2 = .local) || decide (y.1 = a0)) && (!decide (y.2 = .free) || (decide (sc.names.lookup y.1 = some .cell) || decide (sc.names.lookup y.1 = some .free))))) && (decide (N'.length = N.length) && (N.zip N').all fun p => !decide (p.2 = a0) && (decide (p.1 = p.2) || (scope.names.lookup p.2).isNone))))))
theorem lamD_by {N N' : List Str} {a0 : Str} {sc scope : Scope} (h : lamDB N N' a0 sc scope = true) : LamD N N' a0 sc scope := by
  unfold lamDB at h
  simp only [Bool.and_eq_true, Bool.or_eq_true, Bool.not_eq_true', decide_eq_true_eq, decide_eq_false_iff_not, List.all_eq_true] at h
  obtain ⟨h1, h2, h3, h4, h5, h6, h7⟩ := h
  refine ⟨h1, h2, h3, h4, fun y hy => ⟨(h5 y hy).1, fun e => ?_⟩, fun y hy e => ?_, h6, fun i y e => ?_⟩
  · rcases (h5 y hy).2.1 with z | z
    · exact absurd e z
    · exact z
  · rcases (h5 y hy).2.2 with z | z
    · exact absurd e z
    · exact z
  · have hi : i < N.length := by
      have := (List.getElem?_eq_some_iff.mp e).1
      omega
    have hm : (N[i], y) ∈ N.zip N' := List.mem_of_getElem? (i := i) (List.getElem?_zip_eq_some.mpr ⟨List.getElem?_eq_getElem hi, e⟩)
    obtain ⟨k1, k2⟩ := h7 _ hm
    refine ⟨k1, ?_⟩
    rcases k2 with z | z
    · left
      rw [List.getElem?_eq_getElem hi]
      exact congrArg some z
    · right
      exact Option.isNone_iff_eq_none.mp z
end
end DL
set_option Elab.async false
set_option linter.all false
set_option maxRecDepth 100000
set_option maxHeartbeats 4000000
local macro_rules | `(tactic| walk_at "run") => `(tactic| try simp only [DL.wo_seq, DL.wo_nil, DL.wo_set, DL.wo_setO, DL.wo_ret, DL.wo_if, DL.wo_drop, DL.wo_asg, DL.wo_par, DL.wo_aug, DL.wo_for, DL.wo_raise, DL.wo_app, DL.wo_setIx, DL.wo_nx, DL.wo_rt, DL.wo_bk, DL.wo_ct, DL.wo_ex, DL.wx_ok, DL.wx_ex, DL.wx_op, DL.wx_un, DL.wx_C, DL.wx_ret, DL.wx_var, DL.wx_nil, DL.wx_cons, DL.wx_tru, DL.wx_not, DL.wx_and, DL.wx_or, DL.wx_andV, DL.wx_orV, DL.wx_notV, DL.wx_if, DL.wx_chain, DL.wx_tup, DL.wx_lst, DL.wx_olst, DL.wx_oD, DL.wx_F, DL.wx_list, DL.wx_nop, DL.wx_p, DL.wx_sl, DL.wx_call, DL.wx_callW, DL.wx_callR, DL.wx_pix, DL.wx_plen, DL.wx_din, DL.wx_dget2, DL.wx_move, DL.wx_why, DL.wl_some, DL.wf_okD, DL.wf_okL, DL.wf_okM, DL.wf_okT, DL.wf_ex, DL.wv_d, DL.wv_ol, DL.wv_od, DL.wv_fd, DL.wb_t, DL.wb_f, DL.wt_b, DL.wh_d, DL.wh_ol, DL.wh_od, DL.wh_fd, DL.wm_d, DL.wm_ol, DL.wm_od, DL.wm_fd, DL.dat_d, DL.dat_ol, DL.dat_od, DL.dat_fd, DL.d_add, DL.d_sub, DL.d_lt, DL.d_le, DL.d_gt, DL.d_ge, DL.d_tru, DL.d_eqInt, DL.d_neg, DL.tg_name, DL.tg_tup2, DL.tg_tup3, DL.ixv_l, DL.ixv_t, DL.ixv_s, DL.ixv_dd, DL.ixv_ol, DL.ixv_od, DL.ixv_fd, DL.ix_t0, DL.ix_t1, DL.ix_t2, DL.ix_l0, DL.ix_l1, DL.ix_l2, DL.d_asB, DL.d_ok0, DL.d_ok1, DL.d_ok2, DL.d_ok3, DL.d_ok4, DL.key_s, DL.key_i, DL.len_ol, DL.len_l, DL.len_t, DL.it_l, DL.it_t, DL.seq_l, DL.seq_t, DL.tru_i, DL.tru_l, DL.tru_n, DL.lk_od, DL.lk_odi, DL.isD_od, DL.isD_fd, DL.isD_d, DL.if_tt, DL.pick_nil, DL.pick_cons, DL.wl_addS, DL.wl_lenS, DL.seq_S, DL.tg_eP, DL.wl_mod, DL.wl_mulI, DL.wl_divI, DL.it_S, DL.wl_powI, DL.wl_rng1, DL.wl_rng2, DL.wx_callB, DL.wx_eqB, DL.wo_clear, DL.wx_pop, DL.wbr_d, DL.tg_list2, DL.tg_list3, DL.wx_dictR, DL.rest_nil, DL.rest_cons, DL.rst_d, DL.rst_un, DL.wx_cat, DL.wl_cat, DL.wx_disp1, DL.key_W, DL.wx_minS, DL.wipe_nil, DL.wipe_cons, List.set_cons_zero, List.set_cons_succ, List.getElem?_cons_zero, List.getElem?_cons_succ, Option.bind_some, Option.map_some, List.nil_append, List.cons_append, List.append_nil, List.map_cons, List.map_nil, and_true, true_and, reduceIte, Bool.false_eq_true, Bool.not_true, Bool.not_false])
namespace DL
open PySem PySem.Spec L2
open PyProof.Rows hiding St
/-! DL56: draws of large numbers; parts made -/
end DL
set_option Elab.async false
set_option linter.all false
set_option maxRecDepth 100000
set_option maxHeartbeats 4000000
namespace DL
open PySem PySem.Spec L2
open PyProof.Rows hiding St
open PySem.W (EachIs dataLe dataLt alike AllAlike Sortable)
/-! DL57: sorted(dict), list * n, a name for what another name holds -/
section
variable {X : Cx} {T : List (Addr × Str)} {B : Addr} {W : WX}
open Evl (Ex ex_l ex_t ex_rd)
def rSortKs (K : PySem.W.Frag) : List V → Hp → VK → Prop := fun vs H Q => ∃ (a : Addr) (kvs : List (Key × V)), vs = [.ref a] ∧ Rd H a (.dK kvs) ∧ sortOk ((kvs.map (·.1)).map kD) = true ∧
  ∀ p ys, H p = none → (∀ G, RpA K G ys (((kvs.map (·.1)).map kD).mergeSort (dataLe false id))) → Q (.ref p) (upd H p (.lst ys))
def dSortD : D → Option (List D)
  | .dict kvs => if kindD kvs = false ∧ sortOk (kvs.map (·.1)) = true then some ((kvs.map (·.1)).mergeSort (dataLe false id)) else none
  | _ => none
def oSortD (fe : M D) : M SV := mUn (fun d => (dSortD d).map (.ol false ·)) fe
/-! list * n -/
theorem RpA.rep {K : PySem.W.Frag} {G : Hp} {vs : List V} {ds : List D} (h : RpA K G vs ds) : ∀ n : Nat, RpA K G (List.replicate n vs).flatten (List.replicate n ds).flatten
  | 0 => .nil
  | n + 1 => h.app (RpA.rep h n)
def oRep (f : M SV) (k : Int) : M SV := f.bind fun x s => match x with
  | .ol false xs => if 0 ≤ k ∧ k ≤ 1000 ∧ xs.length ≤ 1000 then .ok (.ol false (List.replicate k.toNat xs).flatten) s else .bad
  | _ => .bad
theorem do_rep {a : Expr} {fa : M SV} {k : Int} {j} {kpos pos : Pos} (ha : DO X T B W a fa) : DO X T B W (.BinOp a .Mult (.Constant (.int k) j kpos) pos) (oRep fa k) :=
  pe_weak (pe_op op_rep ha pe_int) fun σ H Q ⟨F, G, s, I, p⟩ => runO I p fun F1 G1 H1 s1 v x g1 e1 I1 p1 => by
    cases x with
    | ol r xs =>
      cases r with
      | true => exact p1.elim
      | false =>
        by_cases hk : 0 ≤ k ∧ k ≤ 1000 ∧ xs.length ≤ 1000
        · have ek : (if 0 ≤ k ∧ k ≤ 1000 ∧ xs.length ≤ 1000 then Res.ok (SV.ol false (List.replicate k.toNat xs).flatten) s1 else .bad) = Res.ok (SV.ol false (List.replicate k.toNat xs).flatten) s1 := if_pos hk
          have p2 : Po X T B W F1 G1 σ (fun F' G' x s' H' => ∀ v, IS X.K T B F' G' H' (some v :: σ) (x :: s') → Q v H') (Res.ok (SV.ol false (List.replicate k.toNat xs).flatten) s1) := ek ▸ p1
          obtain ⟨q, vs, h1, _, h2, h3, h4, h5⟩ := I1.sl 0 _ rfl
          have h1' : some v = some (V.ref q) := h1
          cases h1'
          have hlen := h3.len
          have hm : vs.length * k.toNat ≤ sizeLine := by
            have h6 : vs.length * k.toNat ≤ 1000 * 1000 := Nat.mul_le_mul (by omega) (by omega)
            rw [sizeLine_eq]
            omega
          refine ⟨q, k, vs, rfl, rfl, h2, by omega, by omega, hm, fun y hy => ?_⟩
          have It := I1.tail
          exact p2 F1 G1 _ Gr.refl (Ex.refl _) (It.loose hy) _ (It.newO hy ⟨y, _, rfl, (fun z => nomatch z), upd_same, h3.rep _, It.freshG hy, It.freshF hy⟩)
        · have ek : (if 0 ≤ k ∧ k ≤ 1000 ∧ xs.length ≤ 1000 then Res.ok (SV.ol false (List.replicate k.toNat xs).flatten) s1 else .bad) = Res.bad := if_neg hk
          have p2 : Po X T B W F1 G1 σ (fun F' G' x s' H' => ∀ v, IS X.K T B F' G' H' (some v :: σ) (x :: s') → Q v H') Res.bad := ek ▸ p1
          exact p2.elim
    | _ => exact p1.elim
/-! of two readings the one that c tells -/
def oPick (c : S → Bool) (f g : M SV) : M SV := fun s => if c s = true then f s else g s
/-- the name i is asked, nothing is told of what it holds -/
def oPeek (i : Nat) : M SV := fun s => if hasV i s = true then .ok .un s else .bad
def isZ (i : Nat) (s : S) : Bool := match s[i]? with
  | some (.d (.int 0)) => true
  | _ => false
end
section
variable {s : S} {Qv : SV → S → Prop} {X : Exc → S → Prop}
def WRep (x : SV) (k : Int) (Q : SV → Prop) (_ : Kt Q := ⟨⟩) : Prop := match x with
  | .ol false xs => (0 ≤ k ∧ k ≤ 1000 ∧ xs.length ≤ 1000) ∧ Q (.ol false (List.replicate k.toNat xs).flatten)
  | _ => False
theorem wx_rep {f : M SV} {k : Int} : WQ (oRep f k s) Qv X = WQ (f s) (fun x s1 => WRep x k fun v => Qv v s1) X := by
  unfold oRep
  rw [wx_mbind]
  refine wx_ext fun x s1 => ?_
  cases x with
  | ol r xs =>
    cases r with
    | true => rfl
    | false =>
      by_cases h : 0 ≤ k ∧ k ≤ 1000 ∧ xs.length ≤ 1000
      · show WQ (if _ then _ else _) _ _ = (_ ∧ _)
        rw [if_pos h]
        simp [h, WQ]
      · show WQ (if _ then _ else _) _ _ = (_ ∧ _)
        rw [if_neg h]
        simp [h, WQ]
  | _ => rfl
theorem wrep_ol {xs : List D} {k : Int} {Q : SV → Prop} : WRep (.ol false xs) k Q = ((0 ≤ k ∧ k ≤ 1000 ∧ xs.length ≤ 1000) ∧ Q (.ol false (List.replicate k.toNat xs).flatten)) := rfl
theorem wx_peek {i : Nat} : WQ (oPeek i s) Qv X = WH (s[i]?) (fun _ => Qv .un s) := by
  unfold oPeek
  exact has_wh
theorem wx_pickB {c : S → Bool} {f g : M SV} : WQ (oPick c f g s) Qv X = WB (c s) (fun _ => WQ (f s) Qv X) (fun _ => WQ (g s) Qv X) := by
  unfold oPick WB
  cases c s <;> rfl
theorem wx_sortD {f : M D} : WQ (oSortD f s) Qv X = WQ (f s) (fun d s1 => WL (dSortD d) fun xs => Qv (.ol false xs) s1) X := by
  unfold oSortD
  rw [wx_un]
  refine wx_ext fun d s1 => ?_
  cases dSortD d <;> rfl
end
/-! draws out of a list; products -/
end DL
set_option Elab.async false
set_option linter.all false
set_option maxRecDepth 100000
set_option maxHeartbeats 4000000
local macro_rules | `(tactic| walk_at "run") => `(tactic| try simp only [DL.wo_seq, DL.wo_nil, DL.wo_set, DL.wo_setO, DL.wo_ret, DL.wo_if, DL.wo_drop, DL.wo_asg, DL.wo_par, DL.wo_aug, DL.wo_for, DL.wo_raise, DL.wo_app, DL.wo_setIx, DL.wo_nx, DL.wo_rt, DL.wo_bk, DL.wo_ct, DL.wo_ex, DL.wx_ok, DL.wx_ex, DL.wx_op, DL.wx_un, DL.wx_C, DL.wx_ret, DL.wx_var, DL.wx_nil, DL.wx_cons, DL.wx_tru, DL.wx_not, DL.wx_and, DL.wx_or, DL.wx_andV, DL.wx_orV, DL.wx_notV, DL.wx_if, DL.wx_chain, DL.wx_tup, DL.wx_lst, DL.wx_olst, DL.wx_oD, DL.wx_F, DL.wx_list, DL.wx_nop, DL.wx_p, DL.wx_sl, DL.wx_call, DL.wx_callW, DL.wx_callR, DL.wx_pix, DL.wx_plen, DL.wx_din, DL.wx_dget2, DL.wx_move, DL.wx_why, DL.wl_some, DL.wf_okD, DL.wf_okL, DL.wf_okM, DL.wf_okT, DL.wf_ex, DL.wv_d, DL.wv_ol, DL.wv_od, DL.wv_fd, DL.wb_t, DL.wb_f, DL.wt_b, DL.wh_d, DL.wh_ol, DL.wh_od, DL.wh_fd, DL.wm_d, DL.wm_ol, DL.wm_od, DL.wm_fd, DL.dat_d, DL.dat_ol, DL.dat_od, DL.dat_fd, DL.d_add, DL.d_sub, DL.d_lt, DL.d_le, DL.d_gt, DL.d_ge, DL.d_tru, DL.d_eqInt, DL.d_neg, DL.tg_name, DL.tg_tup2, DL.tg_tup3, DL.ixv_l, DL.ixv_t, DL.ixv_s, DL.ixv_dd, DL.ixv_ol, DL.ixv_od, DL.ixv_fd, DL.ix_t0, DL.ix_t1, DL.ix_t2, DL.ix_l0, DL.ix_l1, DL.ix_l2, DL.d_asB, DL.d_ok0, DL.d_ok1, DL.d_ok2, DL.d_ok3, DL.d_ok4, DL.key_s, DL.key_i, DL.len_ol, DL.len_l, DL.len_t, DL.it_l, DL.it_t, DL.seq_l, DL.seq_t, DL.tru_i, DL.tru_l, DL.tru_n, DL.lk_od, DL.lk_odi, DL.isD_od, DL.isD_fd, DL.isD_d, DL.if_tt, DL.pick_nil, DL.pick_cons, DL.wl_addS, DL.wl_lenS, DL.seq_S, DL.tg_eP, DL.wl_mod, DL.wl_mulI, DL.wl_divI, DL.it_S, DL.wl_powI, DL.wl_rng1, DL.wl_rng2, DL.wx_callB, DL.wx_eqB, DL.wo_clear, DL.wx_pop, DL.wbr_d, DL.tg_list2, DL.tg_list3, DL.wx_dictR, DL.rest_nil, DL.rest_cons, DL.rst_d, DL.rst_un, DL.wx_cat, DL.wl_cat, DL.wx_disp1, DL.key_W, DL.wx_minS, DL.wipe_nil, DL.wipe_cons, DL.wx_rep, DL.wrep_ol, DL.wx_sortD, DL.wx_peek, DL.wx_pickB, List.set_cons_zero, List.set_cons_succ, List.getElem?_cons_zero, List.getElem?_cons_succ, Option.bind_some, Option.map_some, List.nil_append, List.cons_append, List.append_nil, List.map_cons, List.map_nil, and_true, true_and, reduceIte, Bool.false_eq_true, Bool.not_true, Bool.not_false])
namespace DL
open PySem PySem.Spec L2
open PyProof.Rows hiding St
open PySem.W (dataLe dataLt alike)
/-! DL58: two words mixed -/
def tp_TooLong : Tpl := [("word", .inl "toolong")]
noncomputable def g_mixed_words : S → Out :=
  gSeq (gDrop (mF (oCall f_need_word [] (mCons (mVar 0) mNil))))
  (gSeq (gDrop (mF (oCall f_need_word [] (mCons (mVar 1) mNil))))
  (gSeq (gIf (mTru (mOp dGt (mOp dAdd (mUn dLen (mCons (mVar 0) mNil)) (mUn dLen (mCons (mVar 1) mNil))) (mC (.int 6)))) (gRaise "TooLong" 0 tp_TooLong mNil) gNil)
  (gSeq (gSet 2 (mF (oCall (f_laid 8) [] (mCons (mVar 0) (mCons (mVar 1) mNil)))))
  (gRet (oLc (mUn dSeq (mF (oSortD (mVar 2)))) (tName 3) (M.ret true) (mTup (mCons (mVar 3) (mCons (mTup (mCons (mPix 2 (mVar 3)) (mCons (mC (.int 1)) mNil))) mNil))) [3])))))
noncomputable def f_mixed_words : S → Res SV := fnR 4 g_mixed_words
def tooLong : Exc := ⟨"TooLong", [("word", .str "toolong")]⟩
def tle (a b : Wd) : Bool := !decide (b < a)
def mwT (u v : Wd) : Tb := ((keys (laidT u v)).mergeSort tle).map fun w => (w, wt (laidT u v) w)
end DL
set_option Elab.async false
set_option linter.all false
set_option maxRecDepth 100000
set_option maxHeartbeats 4000000
namespace DL
open PySem PySem.Spec L2
open PyProof.Rows hiding St
open PySem.W (dataLe dataLt alike)
/-! DL59: joins of many words -/
structure JN (D1 M1 D2 M2 : Nat) (a b : Tb) : Prop where
  ha : SB D1 M1 a
  hb : SB D2 M2 b
  d1 : D1 ≠ 0
  d2 : D2 ≠ 0
  d : D1 * D2 < 2 ^ 4000
  m : (a.length * b.length) * (M1 * M2) < 2 ^ 4000
  m1 : M1 < 2 ^ 4000
  m2 : M2 < 2 ^ 4000
theorem JN.ne {D1 M1 D2 M2 : Nat} {a b : Tb} (h : JN D1 M1 D2 M2 a b) : D1 * D2 ≠ 0 := Nat.mul_ne_zero h.d1 h.d2
theorem JN.dd1 {D1 M1 D2 M2 : Nat} {a b : Tb} (h : JN D1 M1 D2 M2 a b) : D1 < 2 ^ 4000 := Nat.lt_of_le_of_lt (Nat.le_mul_of_pos_right _ (Nat.pos_of_ne_zero h.d2)) h.d
theorem JN.dd2 {D1 M1 D2 M2 : Nat} {a b : Tb} (h : JN D1 M1 D2 M2 a b) : D2 < 2 ^ 4000 := Nat.lt_of_le_of_lt (Nat.le_mul_of_pos_left _ (Nat.pos_of_ne_zero h.d1)) h.d
theorem MT.mono {D M c c' : Nat} {t : Tb} (h : MT D M c t) (l : c ≤ c') : MT D M c' t := ⟨h.nd, h.wo, fun w => (h.bd w).mono (Nat.mul_le_mul_right _ l)⟩
section
variable {D1 M1 D2 M2 : Nat} {a b : Tb} {deep : Int}
end
section
variable {k n j m : Nat} {a b : Tb} {deep : Int}
end
end DL
set_option Elab.async false
set_option linter.all false
set_option maxRecDepth 100000
set_option maxHeartbeats 4000000
namespace DL
open PySem PySem.Spec L2
open PyProof.Rows hiding St
open PySem.W (dataLe dataLt alike)
/-! DL60: weights asked; sums with so often of another; tame sums -/
noncomputable def g_bare_one : S → Out :=
  gRet (oLst (mCons (mTup (mCons (mC (.str "")) (mCons (mC (.tuple [.int 1, .int 1])) mNil))) mNil))
noncomputable def f_bare_one : S → Res SV := fnR 0 g_bare_one
noncomputable def g_weight_of : S → Out :=
  gSeq (gSetO 2 (oLc (mUn dSeq (mVar 0)) (tTupT (tConss (tName 3) (tConss (tName 4) tNils)) 2) (mTru (mOp dEq (mVar 3) (mVar 1))) (mVar 4) [3, 4]))
  (gRet (oD (mIf (mTru (mEqB true 2 (mLst mNil))) (mPix 2 (mC (.int 0))) (mC (.tuple [.int 0, .int 1])))))
noncomputable def f_weight_of : S → Res SV := fnR 5 g_weight_of
noncomputable def gl_tame : S → Out :=
  gRet (oCall fl_low [] (mCons (mF (oCallR 0 fl_of [] (mCons (mLst (mCons (mC (.int 1)) (mCons (mUn dNeg (mC (.int 1))) (mCons (mC (.int 2)) (mCons (mUn dNeg (mC (.int 2))) (mCons (mC (.int 3)) (mCons (mC (.int 5)) mNil))))))) mNil))) (mCons (mOp dAdd (mC (.int 1)) (mF (oCallR 0 f_draw [] (mCons (mC (.int 3)) mNil)))) mNil)))
noncomputable def fl_tame : S → Res SV := fnR 1 gl_tame
noncomputable def gl_tame_sum : S → Out :=
  gSeq (gSetO 4 (fun s => .ok (.od false [] []) s))
  (gSeq (gFor (mUn dRng1 (mOp dAdd (mC (.int 1)) (mF (oCallR 0 f_draw [] (mCons (mVar 3) mNil))))) (tName 5) (gDrop (mF (oCallR 4 fl_put [] (mCons (mF (oCallR 0 fl_word [] (mCons (mVar 1) (mCons (mOp dAdd (mC (.int 1)) (mF (oCallR 0 f_draw [] (mCons (mVar 2) mNil)))) mNil)))) (mCons (mF (oCallR 0 fl_tame [] mNil)) mNil))))))
  (gRet (oCall fl_rows [] (mCons (mVar 4) mNil))))
noncomputable def fl_tame_sum : S → Res SV := fnR 6 gl_tame_sum
noncomputable def gl_bare_sum : S → Out :=
  gRet (oLc (mUn dSeq (mF (oCallR 0 fl_tame_sum [] (mCons (mVar 1) (mCons (mVar 2) (mCons (mVar 3) mNil)))))) (tName 4) (mTru (mOp dNe (mOp dIx (mVar 4) (mC (.int 0))) (mC (.str "")))) (mVar 4) [4])
noncomputable def fl_bare_sum : S → Res SV := fnR 5 gl_bare_sum
noncomputable def gl_firm : S → Out :=
  gSeq (gSet 1 (mF (oCallR 0 fl_bit [] mNil)))
  (gRet (oD (mIf (mTru (mOp dNe (mOp dIx (mVar 1) (mC (.int 0))) (mC (.int 0)))) (mVar 1) (mTup (mCons (mC (.int 1)) (mCons (mOp dAdd (mC (.int 1)) (mF (oCallR 0 f_draw [] (mCons (mC (.int 4)) mNil)))) mNil))))))
noncomputable def fl_firm : S → Res SV := fnR 2 gl_firm
noncomputable def gl_more : S → Out :=
  gSeq (gSetO 3 (oDict (mVar 0)))
  (gSeq (gFor (mUn dSeq (mVar 1)) (tTupT (tConss (tName 4) (tConss (tName 5) tNils)) 2) (gDrop (mF (oCallR 3 fl_put [] (mCons (mVar 4) (mCons (mF (oCall fl_mul [] (mCons (mVar 5) (mCons (mVar 2) mNil)))) mNil))))))
  (gRet (oCall fl_rows [] (mCons (mVar 3) mNil))))
noncomputable def fl_more : S → Res SV := fnR 6 gl_more
theorem eq_W {a b : Wd} (ha : isL a = true) (hb : isL b = true) : dEq (eW a) (eW b) = some (.bool (decide (a = b))) := by
  have e : PyData.eqv (.str (tx a)) (.str (tx b)) = decide (a = b) := by
    show (tx a == tx b) = _
    by_cases h : a = b
    · subst h
      simp
    · rw [decide_eq_false h]
      simpa using fun z => h (tx_inj z)
  show dEq (.str (tx a)) (.str (tx b)) = _
  unfold dEq
  rw [if_pos ⟨shaped_of ha, shaped_of hb⟩, e]
theorem filter_key : ∀ {a : Tb} {w : Wd}, (keys a).Nodup → a.filter (fun p => decide (p.1 = w)) = if w ∈ keys a then [(w, wt a w)] else []
  | [], w, _ => rfl
  | (u, q) :: a, w, h => by
    have h2 : u ∉ keys a ∧ (keys a).Nodup := List.nodup_cons.mp h
    rw [List.filter_cons]
    by_cases e : u = w
    · subst e
      simp only [decide_true, if_true]
      rw [filter_key h2.2, if_neg h2.1, if_pos (by simp [keys]), wt_cons, if_pos rfl]
    · have e' : ¬ w = u := fun z => e z.symm
      rw [show decide ((u, q).1 = w) = false from decide_eq_false e]
      simp only [Bool.false_eq_true, if_false]
      rw [filter_key h2.2, wt_cons, if_neg e', show keys ((u, q) :: a) = u :: keys a from rfl]
      by_cases k : w ∈ keys a
      · rw [if_pos k, if_pos (List.mem_cons_of_mem _ k)]
      · rw [if_neg k, if_neg (fun z => (List.mem_cons.mp z).elim e' k)]
theorem weightof_R {a : Tb} {w : Wd} (ha : (keys a).Nodup) (hl : ∀ p ∈ a, isL p.1 = true) (hw : isL w = true) (hn : a.length ≤ 10000) : f_weight_of [.d (eS a), .d (eW w)] = .ok (.d (pR (wt a w))) [.un, .un] := by
  refine fn_gives (ds := [eS a, eW w]) ?_
  show WO (g_weight_of [.d (eS a), .d (eW w), .un, .un, .un]) _ _ _ _ _
  unfold g_weight_of
  walk_at "run"
  refine wq_lcf (xs := a) (enc := eP) (p := fun p => decide (p.1 = w)) (h := fun p => pR p.2) (w := [.d (eS a), .d (eW w), .un, .un, .un]) (Nat.le_trans hn (by decide)) ?_ fun p hp => ?_
  · walk_at "run"
    rw [filter_key ha]
    by_cases k : w ∈ keys a
    · rw [if_pos k]
      walk_at "run"
      have e : dNe (.list [pR (wt a w)]) (.list []) = some (.bool true) := by
        have sh : SeqAt.shaped (.list [pR (wt a w)]) = true := by simp [SeqAt.shaped, PyData.canLay0, PyData.canLayAll0, PyData.depth, PyData.depthAll]
        unfold dNe
        rw [if_pos ⟨sh, by decide +kernel⟩]
        rfl
      rw [e]
      walk_at "run"
    · rw [if_neg k]
      walk_at "run"
      rw [ne_same (by decide +kernel)]
      walk_at "run"
      rw [wt_not k]
      rfl
  · walk_at "run"
    rw [eq_W (hl p hp) hw]
    walk_at "run"
    by_cases k : p.1 = w
    · rw [decide_eq_true k, if_pos rfl]; trivial
    · rw [decide_eq_false k, if_neg (by decide)]; trivial
theorem SM.weight {k n : Nat} {a : Tb} {w : Wd} (h : SM k n a) (hn : n ≤ 10000) (hw : DL.isL w = true) : f_weight_of [.d (eS a), .d (eW w)] = .ok (.d (pR (wt a w))) [.un, .un] := weightof_R h.sum.nd h.isL hw (Nat.le_trans h.len hn)
def bare : Tb := [([], 1)]
theorem bare_R : f_bare_one [] = .ok (.ol false (bare.map eP)) [] := by
  refine fn_gives (ds := []) ?_
  show WO (g_bare_one []) _ _ _ _ _
  unfold g_bare_one
  walk_at "run"
  have e : PyData.list [.tuple [.str "", .tuple [.int 1, .int 1]]] = .list (bare.map eP) := by kernel_rfl
  injection e with e
  rw [e]
theorem wt_bare : wt bare = one1 [] 1 := by
  funext w
  unfold bare
  rw [wt_cons, wt_nil]
  rfl
theorem qb1 : Qb 1 (1 : Rat) := Sz.qb ⟨by decide +kernel, by decide +kernel⟩
theorem bare_SM : SM 1 1 bare := SM.one rfl (by decide) (by decide +kernel) qb1
/-! ### a sum and so often of another -/
def moreS (q : Rat) (t : Tb) (p : Wd × Rat) : Tb := aput t p.1 (wt t p.1 + p.2 * q)
def moreT (q : Rat) (a b : Tb) : Tb := b.foldl (moreS q) a
theorem moreT_eq (q : Rat) : ∀ (b a : Tb), moreT q a b = addT a (b.map fun p => (p.1, p.2 * q))
  | [], _ => rfl
  | p :: b, a => by
    show moreT q (moreS q a p) b = addT (addS a (p.1, p.2 * q)) (b.map fun p => (p.1, p.2 * q))
    exact moreT_eq q b _
theorem keys_often (q : Rat) (b : Tb) : keys (b.map fun p => (p.1, p.2 * q)) = keys b := by
  unfold keys
  rw [List.map_map]
  rfl
theorem wt_often (q : Rat) (w : Wd) : ∀ b : Tb, wt (b.map fun p => (p.1, p.2 * q)) w = wt b w * q
  | [] => by rw [List.map_nil, wt_nil]; grind
  | (u, x) :: b => by
    rw [List.map_cons, wt_cons, wt_cons, wt_often q w b]
    split <;> rfl
theorem SM.often {k n j : Nat} {a : Tb} {q : Rat} (h : SM k n a) (hq : Qb j q) : ∃ D M, D ≠ 0 ∧ D ≤ 2 ^ (k + j) ∧ M ≤ 2 ^ (k + j) ∧ SB D M (a.map fun p => (p.1, p.2 * q)) := by
  obtain ⟨D, M, h0, h1, h2, h3⟩ := h.sb
  obtain ⟨E, N, g0, g1, g2, g3⟩ := hq
  refine ⟨D * E, M * N, Nat.mul_ne_zero h0 g0, p2mul h1 g1, p2mul h2 g2, fun p hp => ?_, fun p hp => ?_⟩
  · obtain ⟨r, hr, rfl⟩ := List.mem_map.mp hp
    exact h3.wo r hr
  · obtain ⟨r, hr, rfl⟩ := List.mem_map.mp hp
    exact (h3.bd r hr).mul g3
theorem lawmore_R {a b : Tb} {D M M' : Nat} {q : Rat} (h : AOk D M M' a (b.map fun p => (p.1, p.2 * q))) (hb : ∀ p ∈ b, Ok p.2) (hq : Ok q) : fl_more [.d (eS a), .d (eS b), .d (pR q)] = .ok (.ol false ((canon (moreT q a b)).map eP)) [.un, .un, .un] := by
  refine fn_gives (ds := [eS a, eS b, pR q]) ?_
  show WO (gl_more [.d (eS a), .d (eS b), .d (pR q), .un, .un, .un]) _ _ _ _ _
  unfold gl_more
  walk_at "run"
  rw [dict_S h.na]
  walk_at "run"
  have lm : (10000 : Nat) < lim := by decide
  have hbl : (b.map fun p => (p.1, p.2 * q)).length = b.length := by rw [List.length_map]
  have hlen := h.len
  rw [hbl] at hlen
  refine wo_loop (enc := eP) (fun r s => ∃ t c x4 x5, s = [.d (eS a), .d (eS b), .d (pR q), .od false (tK t) (tX t), x4, x5] ∧ r.foldl (moreS q) t = moreT q a b ∧ AT D M M' c t ∧ c + r.length = b.length ∧ t.length ≤ a.length + c ∧ ∀ q ∈ r, q ∈ b) b _ ⟨a, 0, .un, .un, rfl, rfl, h.start, by omega, by omega, fun _ z => z⟩ ?_ ?_
  · rintro p r s ⟨t, c, x4, x5, rfl, ef, g, hc, hl, hm⟩
    have lr : (p :: r).length = r.length + 1 := rfl
    have hp := hm p List.mem_cons_self
    have hp2 : (p.1, p.2 * q) ∈ b.map fun p => (p.1, p.2 * q) := List.mem_map.mpr ⟨p, hp, rfl⟩
    walk_at "run"
    refine wf_eq (lawmul_R (hb p hp) hq) rfl ?_
    walk_at "run"
    refine wr_lput g.nd (by omega) (g.ok h (by omega) _) (h.okb hp2) ?_
    walk_at "run"
    have hl2 := len_aput t p.1 (wt t p.1 + p.2 * q)
    exact ⟨_, c + 1, _, _, rfl, ef, g.put (h.hb.wo (p.1, p.2 * q) hp2) (h.hb.bd (p.1, p.2 * q) hp2) (.inl rfl), by omega, by omega, fun z hz => hm z (List.mem_cons_of_mem _ hz)⟩
  · rintro s ⟨t, c, x4, x5, rfl, ef, g, hc, hl, _⟩
    walk_at "run"
    rw [dict_zip]
    have e : t = moreT q a b := ef
    refine wf_eq (lawrows_R (g.tb (by simp at hc; omega))) rfl ?_
    rw [e]
theorem lawmore_M {k n j m i : Nat} {a b : Tb} {q : Rat} (ha : SM k n a) (hb : SM j m b) (hq : Qb i q) (hk : k + (j + i) + 15 < 4000) (hn : n + m ≤ 10000) : ∃ c, fl_more [.d (eS a), .d (eS b), .d (pR q)] = .ok (.ol false (c.map eP)) [.un, .un, .un] ∧ SM (k + (j + i) + 1) (n + m) c ∧ ∀ w, wt c w = wt a w + wt b w * q := by
  obtain ⟨E, N, g0, g1, g2, g3⟩ := hb.often hq
  obtain ⟨D, M, h0, h1, h2, h3⟩ := ha.sb
  have la := ha.len
  have lb := hb.len
  have hbl : (b.map fun p => (p.1, p.2 * q)).length = b.length := by rw [List.length_map]
  have e0 : D * E ≤ 2 ^ (k + (j + i)) := p2mul h1 g1
  have e1 : M * E ≤ 2 ^ (k + (j + i)) := p2mul h2 g1
  have e2 : N * D ≤ 2 ^ (k + (j + i)) := by rw [Nat.mul_comm]; exact p2mul h1 g2
  have hsa : SB (D * E) (M * E) a := h3.wide g0
  have hsb : SB (D * E) (N * D) (b.map fun p => (p.1, p.2 * q)) := by rw [Nat.mul_comm D E]; exact g3.wide h0
  have nb : (keys (b.map fun p => (p.1, p.2 * q))).Nodup := by rw [keys_often]; exact hb.sum.nd
  have el : b.length ≤ 2 ^ 14 := by omega
  have A : AOk (D * E) (M * E) (N * D) a (b.map fun p => (p.1, p.2 * q)) := by
    refine ⟨ha.sum.nd, nb, hsa, hsb, Nat.mul_ne_zero h0 g0, p2lt e0 (by omega), ?_, by omega⟩
    rw [hbl]
    exact p2lt (p2add (p2mono e1 (show k + (j + i) ≤ 14 + (k + (j + i)) by omega)) (p2mul el e2)) (by omega)
  have nd : (keys (moreT q a b)).Nodup := by rw [moreT_eq]; exact nd_addT ha.sum.nd
  refine ⟨_, lawmore_R A (fun p hp => (hb.qbm p hp).ok (by omega)) (hq.ok (by omega)), ⟨canon_sum nd, ?_, D * E, M * E + N * D, Nat.mul_ne_zero h0 g0, p2mono e0 (by omega), p2add e1 e2, ?_⟩, fun w => ?_⟩
  · have z1 := canon_len (moreT q a b)
    rw [moreT_eq] at z1
    have z2 := len_addT (b.map fun p => (p.1, p.2 * q)) a
    rw [moreT_eq]
    omega
  · rw [moreT_eq]
    exact sb_addT ha.sum.nd nb hsa hsb
  · rw [wt_canon nd, moreT_eq, wt_addT nb, wt_often]
/-! ### tame sums -/
end DL
set_option Elab.async false
set_option linter.all false
set_option maxRecDepth 100000
set_option maxHeartbeats 4000000
namespace DL
open PySem PySem.Spec L2
open PyProof.Rows hiding St
open PySem.W (dataLe dataLt alike)
/-! DL61: tame sums drawn -/
structure TS0 (deep most : Nat) (l : Tb) : Prop where
  sum : IsSum l
  wo : ∀ p ∈ l, isL p.1 = true ∧ 1 ≤ p.1.length ∧ p.1.length ≤ deep
  sb : SB 6 (most * 30) l
  len : l.length ≤ most
theorem TS0.none {deep most : Nat} {l : Tb} (h : TS0 deep most l) : wt l [] = 0 := wt_not fun z => by
  obtain ⟨p, hp, e⟩ := List.mem_map.mp z
  have := (h.wo p hp).2.1
  have e2 : p.1 = [] := e
  rw [e2] at this
  exact absurd this (by decide)
theorem TS0.sm {deep most : Nat} {l : Tb} (h : TS0 deep most l) (hm : most ≤ 4) : SM 7 most l := ⟨h.sum, h.len, 6, most * 30, by decide, by decide, by
  have : (2 : Nat) ^ 7 = 128 := by decide
  omega, h.sb⟩
end DL
set_option Elab.async false
set_option linter.all false
set_option maxRecDepth 100000
set_option maxHeartbeats 4000000
namespace DL
open PySem PySem.Spec L2
open PyProof.Rows hiding St
open PySem.W (dataLe dataLt alike)
/-! DL62: exponents -/
def tp_HasConstant : Tpl := [("word", .inl "hasconstant")]
noncomputable def g_need_bare : S → Out :=
  gIf (mTru (mOp dNe (mF (oCall f_weight_of [] (mCons (mVar 0) (mCons (mC (.str "")) mNil)))) (mC (.tuple [.int 0, .int 1])))) (gRaise "HasConstant" 0 tp_HasConstant mNil) gNil
noncomputable def f_need_bare : S → Res SV := fnR 1 g_need_bare
noncomputable def g_exponent : S → Out :=
  gSeq (gDrop (mF (oCallW f_need_depth [0, 1, 2] [.int (0), .int (6)] (mCons (mVar 1) mNil) mNil)))
  (gSeq (gDrop (mF (oCall f_need_bare [] (mCons (mVar 0) mNil))))
  (gSeq (gSetO 2 (oCallW f_bare_one [] [] mNil mNil))
  (gSeq (gSetO 3 (oPick (isZ 1) (oPeek 2) (oD (mVar 2))))
  (gSeq (gFor (mOp dRng2 (mC (.int 1)) (mOp dAdd (mVar 1) (mC (.int 1)))) (tName 4) (gSeq (gSet 3 (mF (oCall f_scaled [] (mCons (mF (oCallW f_joined [0, 1, 2] [] (mCons (mVar 3) (mCons (mVar 0) mNil)) (mCons (mVar 1) mNil))) (mCons (mTup (mCons (mC (.int 1)) (mCons (mVar 4) mNil))) mNil)))))
  (gSetO 2 (oCallB 2 f_added [] (mCons (mVar 3) mNil)))))
  (gRet (oMove 2))))))
noncomputable def f_exponent : S → Res SV := fnR 5 g_exponent
noncomputable def gl_often : S → Out :=
  gRet (oCall fl_more [] (mCons (mLst mNil) (mCons (mVar 0) (mCons (mVar 1) mNil))))
noncomputable def fl_often : S → Res SV := fnR 2 gl_often
noncomputable def gl_exp : S → Out :=
  gSeq (gSet 2 (mLst (mCons (mTup (mCons (mC (.str "")) (mCons (mTup (mCons (mC (.int 1)) (mCons (mC (.int 1)) mNil))) mNil))) mNil)))
  (gSeq (gSet 3 (mVar 2))
  (gSeq (gFor (mUn dRng1 (mVar 1)) (tName 4) (gSeq (gSet 3 (mF (oCall fl_often [] (mCons (mF (oCall fl_join [] (mCons (mVar 3) (mCons (mVar 0) (mCons (mVar 1) mNil))))) (mCons (mTup (mCons (mC (.int 1)) (mCons (mOp dAdd (mVar 4) (mC (.int 1))) mNil))) mNil)))))
  (gSet 2 (mF (oCall fl_more [] (mCons (mVar 2) (mCons (mVar 3) (mCons (mTup (mCons (mC (.int 1)) (mCons (mC (.int 1)) mNil))) mNil))))))))
  (gRet (oD (mVar 2)))))
noncomputable def fl_exp : S → Res SV := fnR 5 gl_exp
def trn (d : Int) (f : Wd → Rat) (w : Wd) : Rat := if (w.length : Int) ≤ d then f w else 0
def hasConst : Exc := ⟨"HasConstant", [("word", .str "hasconstant")]⟩
/-- what a joining of powers answers, turn by turn -/
def JF (f : S → Res SV) (a : Tb) (deep : Int) (k : Nat) (N : Nat → Nat) : Prop := ∀ i : Nat, (i : Int) < deep → ∀ p, SM (1 + i * (k + 30)) (N i) p → ∃ c, f [.d (eS p), .d (eS a), .d (.int deep)] = .ok (.ol false (c.map eP)) [.un, .un, .un] ∧ SM (1 + i * (k + 30) + (k + 26)) (N (i + 1)) c ∧ ∀ w, wt c w = trn deep (conv (wt p) (wt a)) w
/-- how many words the sums come to -/
structure NF (deep : Int) (N Nf : Nat → Nat) : Prop where
  one : 1 ≤ N 0 ∧ 1 ≤ Nf 0
  few : ∀ i : Nat, (i : Int) < deep → Nf i + N (i + 1) ≤ 10000 ∧ N (i + 1) ≤ 10000
  sm : ∀ (i k : Nat) c, (i : Int) < deep → SM k (Nf i + N (i + 1)) c → (∀ w, wt c w ≠ 0 → (w.length : Int) ≤ deep) → SM k (Nf (i + 1)) c
def expP (d : Int) (r : Wd → Rat) : Nat → Wd → Rat
  | 0 => one1 [] 1
  | i + 1 => fun w => trn d (conv (expP d r i) r) w * Rat.divInt 1 ((1 : Int) + (i : Int))
def expS (d : Int) (r : Wd → Rat) : Nat → Wd → Rat
  | 0 => one1 [] 1
  | i + 1 => fun w => expS d r i w + expP d r (i + 1) w
/-! how many words: of few words -/
def sum4 : Nat → Nat
  | 0 => 1
  | i + 1 => sum4 i + 4 ^ (i + 1)
theorem wl_catS {xs : List D} {l : Tb} {Q : SV → Prop} : WL (dCat (.list xs) (eS l)) Q = (xs.length + l.length ≤ lim ∧ Q (.ol false (xs ++ l.map eP))) := by
  rw [show dCat (.list xs) (eS l) = dCat (.list xs) (.list (l.map eP)) from rfl, wl_cat, List.length_map]
end DL
set_option Elab.async false
set_option linter.all false
set_option maxRecDepth 100000
set_option maxHeartbeats 4000000
local macro_rules | `(tactic| walk_at "run") => `(tactic| try simp only [DL.wo_seq, DL.wo_nil, DL.wo_set, DL.wo_setO, DL.wo_ret, DL.wo_if, DL.wo_drop, DL.wo_asg, DL.wo_par, DL.wo_aug, DL.wo_for, DL.wo_raise, DL.wo_app, DL.wo_setIx, DL.wo_nx, DL.wo_rt, DL.wo_bk, DL.wo_ct, DL.wo_ex, DL.wx_ok, DL.wx_ex, DL.wx_op, DL.wx_un, DL.wx_C, DL.wx_ret, DL.wx_var, DL.wx_nil, DL.wx_cons, DL.wx_tru, DL.wx_not, DL.wx_and, DL.wx_or, DL.wx_andV, DL.wx_orV, DL.wx_notV, DL.wx_if, DL.wx_chain, DL.wx_tup, DL.wx_lst, DL.wx_olst, DL.wx_oD, DL.wx_F, DL.wx_list, DL.wx_nop, DL.wx_p, DL.wx_sl, DL.wx_call, DL.wx_callW, DL.wx_callR, DL.wx_pix, DL.wx_plen, DL.wx_din, DL.wx_dget2, DL.wx_move, DL.wx_why, DL.wl_some, DL.wf_okD, DL.wf_okL, DL.wf_okM, DL.wf_okT, DL.wf_ex, DL.wv_d, DL.wv_ol, DL.wv_od, DL.wv_fd, DL.wb_t, DL.wb_f, DL.wt_b, DL.wh_d, DL.wh_ol, DL.wh_od, DL.wh_fd, DL.wm_d, DL.wm_ol, DL.wm_od, DL.wm_fd, DL.dat_d, DL.dat_ol, DL.dat_od, DL.dat_fd, DL.d_add, DL.d_sub, DL.d_lt, DL.d_le, DL.d_gt, DL.d_ge, DL.d_tru, DL.d_eqInt, DL.d_neg, DL.tg_name, DL.tg_tup2, DL.tg_tup3, DL.ixv_l, DL.ixv_t, DL.ixv_s, DL.ixv_dd, DL.ixv_ol, DL.ixv_od, DL.ixv_fd, DL.ix_t0, DL.ix_t1, DL.ix_t2, DL.ix_l0, DL.ix_l1, DL.ix_l2, DL.d_asB, DL.d_ok0, DL.d_ok1, DL.d_ok2, DL.d_ok3, DL.d_ok4, DL.key_s, DL.key_i, DL.len_ol, DL.len_l, DL.len_t, DL.it_l, DL.it_t, DL.seq_l, DL.seq_t, DL.tru_i, DL.tru_l, DL.tru_n, DL.lk_od, DL.lk_odi, DL.isD_od, DL.isD_fd, DL.isD_d, DL.if_tt, DL.pick_nil, DL.pick_cons, DL.wl_addS, DL.wl_lenS, DL.seq_S, DL.tg_eP, DL.wl_mod, DL.wl_mulI, DL.wl_divI, DL.it_S, DL.wl_powI, DL.wl_rng1, DL.wl_rng2, DL.wx_callB, DL.wx_eqB, DL.wo_clear, DL.wx_pop, DL.wbr_d, DL.tg_list2, DL.tg_list3, DL.wx_dictR, DL.rest_nil, DL.rest_cons, DL.rst_d, DL.rst_un, DL.wx_cat, DL.wl_cat, DL.wx_disp1, DL.key_W, DL.wx_minS, DL.wipe_nil, DL.wipe_cons, DL.wx_rep, DL.wl_catS, DL.wrep_ol, DL.wx_sortD, DL.wx_peek, DL.wx_pickB, List.set_cons_zero, List.set_cons_succ, List.getElem?_cons_zero, List.getElem?_cons_succ, Option.bind_some, Option.map_some, List.nil_append, List.cons_append, List.append_nil, List.map_cons, List.map_nil, and_true, true_and, reduceIte, Bool.false_eq_true, Bool.not_true, Bool.not_false])
namespace DL
open PySem PySem.Spec L2
open PyProof.Rows hiding St
open PySem.W (dataLe dataLt alike)
/-! DL63: logarithms, inverses -/
def tp_NoUnit : Tpl := [("word", .inl "nounit")]
noncomputable def g_logarithm : S → Out :=
  gSeq (gDrop (mF (oCallW f_need_depth [0, 1, 2] [.int (0), .int (6)] (mCons (mVar 1) mNil) mNil)))
  (gSeq (gIf (mTru (mOp dNe (mF (oCall f_weight_of [] (mCons (mVar 0) (mCons (mC (.str "")) mNil)))) (mC (.tuple [.int 1, .int 1])))) (gRaise "NoUnit" 0 tp_NoUnit mNil) gNil)
  (gSeq (gSet 2 (mF (oCall f_taken [] (mCons (mF (oCallW f_cut_off [0, 1] [] (mCons (mVar 0) mNil) (mCons (mVar 1) mNil))) (mCons (mF (oCallW f_bare_one [] [] mNil mNil)) mNil)))))
  (gSeq (gSet 3 (mLst mNil))
  (gSeq (gSet 4 (mF (oCallW f_bare_one [] [] mNil mNil)))
  (gSeq (gFor (mOp dRng2 (mC (.int 1)) (mOp dAdd (mVar 1) (mC (.int 1)))) (tName 5) (gSeq (gSet 4 (mF (oCallW f_joined [0, 1, 2] [] (mCons (mVar 4) (mCons (mVar 2) mNil)) (mCons (mVar 1) mNil))))
  (gSet 3 (mF (oCall f_added [] (mCons (mVar 3) (mCons (mF (oCall f_scaled [] (mCons (mVar 4) (mCons (mIf (mTru (mOp dEq (mOp dMod (mVar 5) (mC (.int 2))) (mC (.int 1)))) (mTup (mCons (mC (.int 1)) (mCons (mVar 5) mNil))) (mTup (mCons (mUn dNeg (mC (.int 1))) (mCons (mVar 5) mNil)))) mNil)))) mNil)))))))
  (gRet (oD (mVar 3))))))))
noncomputable def f_logarithm : S → Res SV := fnR 6 g_logarithm
noncomputable def g_inverse : S → Out :=
  gSeq (gDrop (mF (oCallW f_need_depth [0, 1, 2] [.int (0), .int (6)] (mCons (mVar 1) mNil) mNil)))
  (gSeq (gSet 2 (mF (oCall f_weight_of [] (mCons (mVar 0) (mCons (mC (.str "")) mNil)))))
  (gSeq (gIf (mTru (mOp dEq (mVar 2) (mC (.tuple [.int 0, .int 1])))) (gRaise "NoUnit" 0 tp_NoUnit mNil) gNil)
  (gSeq (gSet 3 (mF (oCall f_over [] (mCons (mC (.tuple [.int 1, .int 1])) (mCons (mVar 2) mNil)))))
  (gSeq (gSet 4 (mF (oCall f_taken [] (mCons (mF (oCallW f_bare_one [] [] mNil mNil)) (mCons (mF (oCall f_scaled [] (mCons (mF (oCallW f_cut_off [0, 1] [] (mCons (mVar 0) mNil) (mCons (mVar 1) mNil))) (mCons (mVar 3) mNil)))) mNil)))))
  (gSeq (gSet 5 (mF (oCallW f_bare_one [] [] mNil mNil)))
  (gSeq (gSet 6 (mVar 5))
  (gSeq (gFor (mUn dRng1 (mVar 1)) (tName 7) (gSeq (gSet 6 (mF (oCallW f_joined [0, 1, 2] [] (mCons (mVar 6) (mCons (mVar 4) mNil)) (mCons (mVar 1) mNil))))
  (gSet 5 (mF (oCall f_added [] (mCons (mVar 5) (mCons (mVar 6) mNil)))))))
  (gRet (oCall f_scaled [] (mCons (mVar 5) (mCons (mVar 3) mNil)))))))))))
noncomputable def f_inverse : S → Res SV := fnR 8 g_inverse
noncomputable def gl_log : S → Out :=
  gSeq (gSet 2 (mF (oCall fl_more [] (mCons (mF (oLc (mUn dSeq (mVar 0)) (tName 6) (mTru (mOp dLe (mUn dLen (mCons (mOp dIx (mVar 6) (mC (.int 0))) mNil)) (mVar 1))) (mVar 6) [6])) (mCons (mLst (mCons (mTup (mCons (mC (.str "")) (mCons (mTup (mCons (mC (.int 1)) (mCons (mC (.int 1)) mNil))) mNil))) mNil)) (mCons (mTup (mCons (mUn dNeg (mC (.int 1))) (mCons (mC (.int 1)) mNil))) mNil))))))
  (gSeq (gSet 3 (mLst mNil))
  (gSeq (gSet 4 (mLst (mCons (mTup (mCons (mC (.str "")) (mCons (mTup (mCons (mC (.int 1)) (mCons (mC (.int 1)) mNil))) mNil))) mNil)))
  (gSeq (gFor (mUn dRng1 (mVar 1)) (tName 5) (gSeq (gSet 4 (mF (oCall fl_join [] (mCons (mVar 4) (mCons (mVar 2) (mCons (mVar 1) mNil))))))
  (gSet 3 (mF (oCall fl_more [] (mCons (mVar 3) (mCons (mVar 4) (mCons (mTup (mCons (mOp dIx (mLst (mCons (mC (.int 1)) (mCons (mUn dNeg (mC (.int 1))) mNil))) (mOp dMod (mVar 5) (mC (.int 2)))) (mCons (mOp dAdd (mVar 5) (mC (.int 1))) mNil))) mNil))))))))
  (gRet (oD (mVar 3))))))
noncomputable def fl_log : S → Res SV := fnR 7 gl_log
def noUnit : Exc := ⟨"NoUnit", [("word", .str "nounit")]⟩
def powP (d : Int) (r : Wd → Rat) : Nat → Wd → Rat
  | 0 => one1 [] 1
  | i + 1 => trn d (conv (powP d r i) r)
def sgn (i : Nat) : Rat := Rat.divInt (if i % 2 = 0 then 1 else -1) ((1 : Int) + (i : Int))
def logS (d : Int) (r : Wd → Rat) : Nat → Wd → Rat
  | 0 => fun _ => 0
  | i + 1 => fun w => logS d r i w + powP d r (i + 1) w * sgn i
def invS (d : Int) (r : Wd → Rat) : Nat → Wd → Rat
  | 0 => one1 [] 1
  | i + 1 => fun w => invS d r i w + powP d r (i + 1) w
/-- rest: what is joined with itself -/
def logR (d : Int) (f : Wd → Rat) (w : Wd) : Rat := trn d f w - one1 [] 1 w
theorem SM.cut {k n : Nat} {a : Tb} {deep : Int} (h : SM k n a) : SM k n (cutT deep a) := by
  obtain ⟨D, M, h0, h1, h2, h3⟩ := h.sb
  refine ⟨sum_cutT h.sum, Nat.le_trans (List.length_filter_le _ _) h.len, D, M, h0, h1, h2, fun p hp => h3.wo p (List.mem_filter.mp hp).1, fun p hp => h3.bd p (List.mem_filter.mp hp).1⟩
end DL
set_option Elab.async false
set_option linter.all false
set_option maxRecDepth 100000
set_option maxHeartbeats 4000000
namespace DL
open PySem PySem.Spec L2
open PyProof.Rows hiding St
open PySem.W (dataLe dataLt alike)
/-! DL64: inverses; powers of a function -/
def invR (d : Int) (f : Wd → Rat) (b : Rat) (w : Wd) : Rat := one1 [] 1 w - trn d f w * b
/-! ### equal up to a length -/
def EqD (d : Int) (f g : Wd → Rat) : Prop := ∀ w : Wd, (w.length : Int) ≤ d → f w = g w
theorem EqD.refl {d : Int} {f : Wd → Rat} : EqD d f f := fun _ _ => rfl
theorem EqD.symm {d : Int} {f g : Wd → Rat} (h : EqD d f g) : EqD d g f := fun w hw => (h w hw).symm
theorem EqD.trans {d : Int} {f g h : Wd → Rat} (a : EqD d f g) (b : EqD d g h) : EqD d f h := fun w hw => (a w hw).trans (b w hw)
theorem EqD.trn {d : Int} {f : Wd → Rat} : EqD d (trn d f) f := fun w hw => if_pos hw
theorem EqD.conv {d : Int} {f f' g g' : Wd → Rat} (a : EqD d f f') (b : EqD d g g') : EqD d (conv f g) (conv f' g') := fun w hw => conv_congr (fun u hu => a u (by omega)) fun u hu => b u (by omega)
theorem EqD.add {d : Int} {f f' g g' : Wd → Rat} (a : EqD d f f') (b : EqD d g g') : EqD d (fun w => f w + g w) (fun w => f' w + g' w) := fun w hw => by
  show f w + g w = f' w + g' w
  rw [a w hw, b w hw]
theorem EqD.mulR {d : Int} {f f' : Wd → Rat} (c : Rat) (a : EqD d f f') : EqD d (fun w => f w * c) (fun w => f' w * c) := fun w hw => by
  show f w * c = f' w * c
  rw [a w hw]
/-- powers -/
def pw (r : Wd → Rat) : Nat → Wd → Rat
  | 0 => one1 [] 1
  | i + 1 => conv (pw r i) r
end DL
set_option Elab.async false
set_option linter.all false
set_option maxRecDepth 100000
set_option maxHeartbeats 4000000
namespace DL
open PySem PySem.Spec L2
open PyProof.Rows hiding St
open PySem.W (dataLe dataLt alike)
/-! DL65: what joins to one -/
def sumP (r : Wd → Rat) : Nat → Wd → Rat
  | 0 => one1 [] 1
  | i + 1 => fun w => sumP r i w + pw r (i + 1) w
section
variable {d : Nat} {deep : Int} {f : Wd → Rat}
end
/-! ### how many words, of up to six a turn -/
def sum6 : Nat → Nat
  | 0 => 1
  | i + 1 => sum6 i + 6 ^ (i + 1)
end DL
set_option Elab.async false
set_option linter.all false
set_option maxRecDepth 100000
set_option maxHeartbeats 4000000
namespace DL
open PySem PySem.Spec L2
open PyProof.Rows hiding St
open PySem.W (dataLe dataLt alike)
/-! DL66: sums of powers of one function -/
def polF (r : Wd → Rat) : List Rat → Nat → Wd → Rat
  | [], _ => fun _ => 0
  | x :: cs, i => fun w => pw r i w * x + polF r cs (i + 1) w
def addl : List Rat → List Rat → List Rat
  | [], b => b
  | a, [] => a
  | x :: a, y :: b => (x + y) :: addl a b
def scal (x : Rat) (a : List Rat) : List Rat := a.map fun y => y * x
def mull : List Rat → List Rat → List Rat
  | [], _ => []
  | x :: a, b => addl (scal x b) (0 :: mull a b)
def powl (y : List Rat) : Nat → List Rat
  | 0 => [1]
  | i + 1 => mull (powl y i) y
/-- the first n + 1 of a row of weights -/
def sumC (c : Nat → Rat) (r : Wd → Rat) : Nat → Wd → Rat
  | 0 => fun w => pw r 0 w * c 0
  | n + 1 => fun w => sumC c r n w + pw r (n + 1) w * c (n + 1)
def comp (c : Nat → Rat) (y : List Rat) : Nat → List Rat
  | 0 => scal (c 0) (powl y 0)
  | n + 1 => addl (comp c y n) (scal (c (n + 1)) (powl y (n + 1)))
theorem EqD.pw {d : Int} {f g : Wd → Rat} (h : EqD d f g) : ∀ i, EqD d (DL.pw f i) (DL.pw g i)
  | 0 => EqD.refl
  | i + 1 => (EqD.pw h i).conv h
theorem EqD.sumC {d : Int} {f g : Wd → Rat} {c : Nat → Rat} (h : EqD d f g) : ∀ n, EqD d (DL.sumC c f n) (DL.sumC c g n)
  | 0 => (h.pw 0).mulR _
  | n + 1 => (EqD.sumC h n).add ((h.pw (n + 1)).mulR _)
/-! the series -/
def exC : Nat → Rat
  | 0 => 1
  | i + 1 => exC i * Rat.divInt 1 ((1 : Int) + (i : Int))
def loC : Nat → Rat
  | 0 => 0
  | i + 1 => sgn i
section
variable {d : Nat} {deep : Int} {r f : Wd → Rat} {y : List Rat}
end
/-! sizes -/
end DL
set_option Elab.async false
set_option linter.all false
set_option maxRecDepth 100000
set_option maxHeartbeats 4000000
namespace DL
open PySem PySem.Spec L2
open PyProof.Rows hiding St
open PySem.W (dataLe dataLt alike)
/-! DL67: series up to depth four -/
section
variable {k n : Nat} {a : Tb} {deep : Int}
end
section
variable {r f : Wd → Rat} {deep : Int} {x : Rat} {a : List Rat}
end
end DL
set_option Elab.async false
set_option linter.all false
set_option maxRecDepth 100000
set_option maxHeartbeats 4000000
namespace DL
open PySem PySem.Spec L2
open PyProof.Rows hiding St
open PySem.W (dataLe dataLt alike)
/-! DL68: the falling row by the law; brackets opened by the law; powers -/
noncomputable def g_opened_least : S → Out :=
  gRet (oCall (f_opened_of 8) [] (mCons (mF (oCall (f_bracket_so 8) [] (mCons (mVar 0) mNil))) mNil))
noncomputable def f_opened_least : S → Res SV := fnR 1 g_opened_least
noncomputable def g_power_so : S → Out :=
  gSeq (gSetO 1 (oCallW f_bare_one [] [] mNil mNil))
  (gSeq (gFor (mUn dSeq (mF (oCall f_falling_of [] (mCons (mVar 0) mNil)))) (tName 2) (gSetO 1 (oCallW f_joined [0, 1, 2] [.int (6)] (mCons (mVar 1) (mCons (mF (oCall f_opened_least [] (mCons (mVar 2) mNil))) mNil)) mNil)))
  (gRet (oMove 1)))
noncomputable def f_power_so : S → Res SV := fnR 3 g_power_so
noncomputable def g_power_of : S → Out :=
  gSeq (gDrop (mF (oCall f_need_word [] (mCons (mVar 0) mNil))))
  (gRet (oCall f_power_so [] (mCons (mVar 0) mNil)))
noncomputable def f_power_of : S → Res SV := fnR 1 g_power_of
noncomputable def gl_split : S → Out :=
  gSeq (gSetO 1 (oLst mNil))
  (gSeq (gSet 2 (mVar 0))
  (gSeq (gFor (mUn dRng1 (mUn dLen (mCons (mVar 0) mNil))) (tName 3) (gIf (mTru (mOp dNe (mVar 2) (mC (.str "")))) (gSeq (gSetO 4 (oLc (mOp dRng2 (mC (.int 1)) (mOp dAdd (mUn dLen (mCons (mVar 2) mNil)) (mC (.int 1)))) (tName 5) (mTru (mF (oCall fl_least [] (mCons (mF (oSl (mVar 2) mNoP (mP (mVar 5)))) mNil)))) (mVar 5) [5]))
  (gSeq (gApp 1 (mF (oSl (mVar 2) mNoP (mP (mPix 4 (mUn dNeg (mC (.int 1))))))))
  (gSet 2 (mF (oSl (mVar 2) (mP (mPix 4 (mUn dNeg (mC (.int 1))))) mNoP))))) gNil))
  (gRet (oMove 1))))
noncomputable def fl_split : S → Res SV := fnR 6 gl_split
noncomputable def gl_hook : S → Out :=
  gRet (oCall fl_more [] (mCons (mF (oCall fl_join [] (mCons (mVar 0) (mCons (mVar 1) (mCons (mC (.int 6)) mNil))))) (mCons (mF (oCall fl_join [] (mCons (mVar 1) (mCons (mVar 0) (mCons (mC (.int 6)) mNil))))) (mCons (mTup (mCons (mUn dNeg (mC (.int 1))) (mCons (mC (.int 1)) mNil))) mNil))))
noncomputable def fl_hook : S → Res SV := fnR 2 gl_hook
noncomputable def gl_open_tree (f : S → Res SV) : S → Out :=
  gSeq (gIf (mTru (mUn (dIsi "str") (mVar 0))) (gRet (oLst (mCons (mTup (mCons (mVar 0) (mCons (mTup (mCons (mC (.int 1)) (mCons (mC (.int 1)) mNil))) mNil))) mNil))) gNil)
  (gRet (oCall fl_hook [] (mCons (mF (oCall f [] (mCons (mOp dIx (mVar 0) (mC (.int 0))) mNil))) (mCons (mF (oCall f [] (mCons (mOp dIx (mVar 0) (mC (.int 1))) mNil))) mNil))))
noncomputable def fl_open_tree : Nat → S → Res SV
  | 0 => fun _ => .bad
  | n + 1 => fnR 1 (gl_open_tree (fl_open_tree n))
noncomputable def gl_power : S → Out :=
  gSeq (gSet 1 (mLst (mCons (mTup (mCons (mC (.str "")) (mCons (mTup (mCons (mC (.int 1)) (mCons (mC (.int 1)) mNil))) mNil))) mNil)))
  (gSeq (gFor (mUn dSeq (mF (oCall fl_split [] (mCons (mVar 0) mNil)))) (tName 2) (gSet 1 (mF (oCall fl_join [] (mCons (mVar 1) (mCons (mF (oCall (fl_open_tree 8) [] (mCons (mF (oCall (fl_tree 8) [] (mCons (mVar 2) mNil))) mNil))) (mCons (mC (.int 6)) mNil)))))))
  (gRet (oD (mVar 1))))
noncomputable def fl_power : S → Res SV := fnR 3 gl_power
theorem last_of {l : List Nat} (h : l ≠ []) (hs : l.Pairwise (· < ·)) : ∃ m ∈ l, (∀ i ∈ l, i ≤ m) ∧ dIx (.list (l.map encN)) (.int (-1)) = some (encN m) := by
  obtain ⟨q, m, rfl⟩ := snoc_of h
  refine ⟨m, by simp, fun i hi => ?_, ?_⟩
  · rcases List.mem_append.mp hi with z | z
    · exact Nat.le_of_lt ((List.pairwise_append.mp hs).2.2 i z m (by simp))
    · rw [List.mem_singleton.mp z]; exact Nat.le_refl _
  · rw [List.map_append]
    exact ix_last _ _
theorem lawsplit_R {w : Wd} (hw : isW w = true) : ∃ r, fl_split [.d (eW w)] = .ok (.ol false (r.map eW)) [.un] ∧ (∀ u ∈ r, Lst u) ∧ Fal r ∧ r.flatten = w := by
  have key : WO (gl_split [.d (eW w), .un, .un, .un, .un, .un]) (fun _ => False) (fun v _ => ∃ r, v = .ol false (r.map eW) ∧ (∀ u ∈ r, Lst u) ∧ Fal r ∧ r.flatten = w) (fun _ => False) (fun _ => False) (fun _ _ => False) := by
    unfold gl_split
    have lm : 10000 ≤ lim := by decide
    obtain ⟨w6, wL⟩ := isW_len hw
    obtain ⟨L, hL⟩ : ∃ L : Int, L = w.length := ⟨_, rfl⟩
    have hlenL : ∀ {Q : D → Prop}, WL (dLen [eW w]) Q = Q (.int L) := fun {Q} => by
      rw [wl_lenS, hL]
      exact propext ⟨fun z => z.2, fun z => ⟨by omega, z⟩⟩
    simp only [wo_seq, wo_setO, wo_set, wo_for, wx_olst, wx_op, wx_C, wx_un, wx_cons, wx_nil, wx_var, List.getElem?_cons_succ, List.getElem?_cons_zero, wv_d, List.set_cons_zero, List.set_cons_succ, d_ok0, true_and]
    rw [hlenL]
    walk_at "run"
    refine ⟨decide_eq_true (by omega), ?_⟩
    have eL : L.toNat = w.length := by omega
    rw [eL]
    refine wo_range (fun i s => ∃ r left x3 x4, s = [.d (eW w), .ol false (r.map eW), .d (eW left), x3, x4, .un] ∧ r.flatten ++ left = w ∧ (∀ u ∈ r, Lst u) ∧ Fal r ∧ (∀ u, r.getLast? = some u → ∀ k, 1 ≤ k → k ≤ left.length → Lst (left.take k) → ¬ u < left.take k) ∧ left.length + i ≤ w.length ∧ isW left = true ∧ r.length + left.length ≤ 6) ⟨[], w, _, _, rfl, rfl, (fun u hu => nomatch hu), trivial, (fun u hu => nomatch hu), by omega, hw, by simpa using w6⟩ (fun ii s hii => ?_) fun s => ?_
    · rintro ⟨r, left, x3, x4, rfl, ef, hr, hf, hl, hnn, hwl, hlen⟩
      obtain ⟨l6, lL⟩ := isW_len hwl
      walk_at "run"
      rw [show dNe (eW left) (.str "") = _ from ne_nil lL]
      walk_at "run"
      refine wb_cases (fun hne => ?_) fun hne => ?_
      · have hne : left ≠ [] := by simpa using hne
        have hpos := List.length_pos_iff.mpr hne
        walk_at "run"
        refine wq_lcf (xs := List.range left.length) (enc := encN) (p := fun i => leastT (left.take (1 + i))) (h := encN) (w := [.d (eW w), .ol false (r.map eW), .d (eW left), .d (.int (0 + (ii : Int))), x4, .un]) (by rw [List.length_range]; omega) ?_ fun i hi => ?_
        · have ep : (fun i => leastT (left.take (1 + i))) = fun i => leastB (left.take (1 + i)) := by funext i; rw [least_same]
          rw [ep]
          have hne2 : (List.range left.length).filter (fun i => leastB (left.take (1 + i))) ≠ [] := by
            have : 0 ∈ (List.range left.length).filter (fun i => leastB (left.take (1 + i))) := by
              refine List.mem_filter.mpr ⟨List.mem_range.mpr hpos, ?_⟩
              rw [leastB_iff]
              cases left with
              | nil => exact absurd rfl hne
              | cons a l => exact lst_one a
            intro z
            rw [z] at this
            cases this
          obtain ⟨m, hm, hmx, e⟩ := last_of hne2 (List.Pairwise.filter _ List.pairwise_lt_range)
          obtain ⟨hm1, hm2⟩ := List.mem_filter.mp hm
          have hm1 := List.mem_range.mp hm1
          have hm2 := leastB_iff.mp hm2
          have eN : encN m = .int ((1 + m : Nat) : Int) := rfl
          have c1 : dCut none (some ((1 + m : Nat) : Int)) (eW left) = some (.d (eW (left.take (1 + m)))) := d_cutTo' (by omega)
          have c2 : dCut (some ((1 + m : Nat) : Int)) none (eW left) = some (.d (eW (left.drop (1 + m)))) := d_cutFrom (by omega) (by omega)
          obtain ⟨L, hL⟩ : ∃ L : Int, L = left.length := ⟨_, rfl⟩
          have hlenL : ∀ {Q : D → Prop}, WL (dLen [eW left]) Q = Q (.int L) := fun {Q} => by
            rw [wl_lenS, hL]
            exact propext ⟨fun z => z.2, fun z => ⟨by omega, z⟩⟩
          have er : rangeD 1 (L + 1 - 1).toNat = (List.range left.length).map encN := by
            have : (L + 1 - 1).toNat = left.length := by omega
            rw [this]
            unfold rangeD
            apply List.map_congr_left
            intro i _
            unfold encN
            rw [Int.natCast_add]
            rfl
          simp only [wx_op, wx_C, wx_un, wx_cons, wx_nil, wx_var, List.getElem?_cons_succ, List.getElem?_cons_zero, wv_d]
          rw [hlenL]
          walk_at "run"
          refine ⟨⟨by decide, decide_eq_true (by omega)⟩, er, ?_⟩
          rw [e, eN]
          walk_at "run"
          rw [c1]
          walk_at "run"
          refine ⟨by rw [List.length_map]; omega, ?_⟩
          rw [e, eN]
          walk_at "run"
          rw [c2]
          walk_at "run"
          refine ⟨r ++ [left.take (1 + m)], left.drop (1 + m), _, _, by rw [List.map_append]; rfl, ?_, fun u hu => ?_, fal_snoc hf fun u hu => hl u hu (1 + m) (by omega) (by omega) hm2, fun u hu k k1 k2 k3 => ?_, by rw [List.length_drop]; omega, isW_drop hwl _, ?_⟩
          · rw [List.flatten_append, List.append_assoc]
            show r.flatten ++ ((left.take (1 + m) ++ []) ++ left.drop (1 + m)) = w
            rw [List.append_nil, List.take_append_drop, ef]
          · rcases List.mem_append.mp hu with z | z
            · exact hr u z
            · rw [List.mem_singleton.mp z]; exact hm2
          · rw [List.getLast?_append] at hu
            have hu : some (left.take (1 + m)) = some u := hu
            injection hu with hu
            subst hu
            intro z
            have h1 := join_least hm2 k3 z
            rw [← List.take_add] at h1
            rw [List.length_drop] at k2
            have h2 : m + k ∈ (List.range left.length).filter (fun i => leastB (left.take (1 + i))) := by
              refine List.mem_filter.mpr ⟨List.mem_range.mpr (by omega), ?_⟩
              rw [leastB_iff, ← Nat.add_assoc]
              exact h1
            have := hmx _ h2
            omega
          · rw [List.length_append, List.length_drop]
            show r.length + 1 + (left.length - (1 + m)) ≤ 6
            omega
        · have hi := List.mem_range.mp hi
          have eN : encN i = .int ((1 + i : Nat) : Int) := rfl
          have c1 : dCut none (some ((1 + i : Nat) : Int)) (eW left) = some (.d (eW (left.take (1 + i)))) := d_cutTo' (by omega)
          rw [eN]
          walk_at "run"
          rw [c1]
          walk_at "run"
          refine wf_eq (lawleast_spec _ (isW_take hwl (1 + i))) rfl ?_
          walk_at "run"
          split <;> trivial
      · have he : left = [] := by simpa using hne
        subst he
        walk_at "run"
        exact ⟨r, [], _, _, rfl, ef, hr, hf, hl, by simp; omega, hwl, by omega⟩
    · rintro ⟨r, left, x3, x4, rfl, ef, hr, hf, hl, hnn, hwl, hlen⟩
      have he : left = [] := List.eq_nil_of_length_eq_zero (by omega)
      subst he
      walk_at "run"
      exact ⟨r, rfl, hr, hf, by simpa using ef⟩
  cases e : gl_split [.d (eW w), .un, .un, .un, .un, .un] with
  | rt v s =>
    rw [e] at key
    obtain ⟨r, rfl, h1, h2, h3⟩ := key
    refine ⟨r, ?_, h1, h2, h3⟩
    refine fn_gives (ds := [eW w]) ?_
    show WO (gl_split [.d (eW w), .un, .un, .un, .un, .un]) _ _ _ _ _
    rw [e]
    rfl
  | _ => rw [e] at key; exact key.elim
/-! ### brackets opened by the law -/
theorem lawopen_R : ∀ (n : Nat) (b : Br), (lets b).length < n + 1 → Gd b → ∃ c, f_opened_of (n + 1) [.d (eB b)] = .ok (.ol false (c.map eP)) [.un] ∧ fl_open_tree (n + 1) [.d (eB b)] = .ok (.ol false (c.map eP)) [.un] ∧ SM (kB (lets b).length) (2 ^ ((lets b).length - 1)) c ∧ ∀ w, wt c w = op b w
  | n, .lf a, h, hg => by
    obtain ⟨c, e, hc, wc⟩ := opened_R n (.lf a) h hg
    refine ⟨c, e, ?_, hc, wc⟩
    have s1 : IsSum [([a], (1 : Rat))] := (SM.one (k := 10) hg.isL (Nat.le_trans hg.len (by decide)) (by decide +kernel) (Sz.qb ⟨by decide +kernel, by decide +kernel⟩)).sum
    have q : c = [([a], 1)] := sum_ext hc.sum s1 fun w => by
      rw [wc, wt_cons, wt_nil]
      rfl
    subst q
    refine fn_gives (ds := [eW [a]]) ?_
    show WO (gl_open_tree (fl_open_tree n) [.d (eW [a])]) _ _ _ _ _
    unfold gl_open_tree
    walk_at "run"
    rw [isi_s]
    walk_at "run"
    rfl
  | 0, .nd x y, h, hg => by
    have hx := lets_pos x
    have hy := lets_pos y
    rw [lets, List.length_append] at h
    omega
  | n + 1, .nd x y, h, hg => by
    obtain ⟨c, e, hc, wc⟩ := opened_R (n + 1) (.nd x y) h hg
    refine ⟨c, e, ?_, hc, wc⟩
    have hx := lets_pos x
    have hy := lets_pos y
    have h6 := hg.len
    rw [lets, List.length_append] at h h6
    obtain ⟨hLx, hLy⟩ := isL_appL (u := lets x) (v := lets y) hg.isL
    obtain ⟨cx, _, ex, sx, wx⟩ := lawopen_R n x (by omega) ⟨hLx, by omega⟩
    obtain ⟨cy, _, ey, sy, wy⟩ := lawopen_R n y (by omega) ⟨hLy, by omega⟩
    have k1 := kB_le (lets x).length (by omega) (lets y).length (by omega) hx hy h6
    have k2 := kB_max ((lets x).length + (lets y).length) (by omega)
    have n1 : 2 ^ ((lets x).length - 1) * 2 ^ ((lets y).length - 1) ≤ 2 ^ 5 := by
      rw [← Nat.pow_add]
      exact Nat.pow_le_pow_right (by decide) (by omega)
    have n2 : 2 ^ ((lets y).length - 1) * 2 ^ ((lets x).length - 1) ≤ 2 ^ 5 := by rw [Nat.mul_comm]; exact n1
    obtain ⟨c1, e1, s1, w1⟩ := lawjoin_M (deep := 6) sx sy (by decide) (by omega) (by omega)
    obtain ⟨c2, e2, s2, w2⟩ := lawjoin_M (deep := 6) sy sx (by decide) (by omega) (by omega)
    have qm : Qb 1 (-1 : Rat) := Sz.qb ⟨by decide +kernel, by decide +kernel⟩
    obtain ⟨c3, e3, s3, w3⟩ := lawmore_M s1 s2 qm (by omega) (by omega)
    have q : c3 = c := sum_ext s3.sum hc.sum fun w => by
      rw [wc, w3, w1, w2, funext wx, funext wy]
      show _ = conv (op x) (op y) w - conv (op y) (op x) w
      by_cases z : (w.length : Int) ≤ 6
      · rw [if_pos z, if_pos z]; grind
      · rw [if_neg z, if_neg z, conv_len w (op_len x) (op_len y) (by omega), conv_len w (op_len y) (op_len x) (by omega)]; grind
    subst q
    have em : PyData.tuple [.int (-1), .int 1] = pR (-1) := by kernel_rfl
    have eh : fl_hook [.d (eS cx), .d (eS cy)] = .ok (.ol false (c3.map eP)) [.un, .un] := by
      refine fn_gives (ds := [eS cx, eS cy]) ?_
      show WO (gl_hook [.d (eS cx), .d (eS cy)]) _ _ _ _ _
      unfold gl_hook
      walk_at "run"
      refine wf_eq e1 rfl ?_
      walk_at "run"
      refine wf_eq e2 rfl ?_
      walk_at "run"
      rw [em]
      refine wf_eq e3 rfl ?_
      rfl
    refine fn_gives (ds := [.tuple [eB x, eB y]]) ?_
    show WO (gl_open_tree (fl_open_tree (n + 1)) [.d (.tuple [eB x, eB y])]) _ _ _ _ _
    unfold gl_open_tree
    walk_at "run"
    rw [isi_t]
    walk_at "run"
    refine wf_eq ex rfl ?_
    walk_at "run"
    refine wf_eq ey rfl ?_
    walk_at "run"
    refine wf_eq eh rfl ?_
    rfl
/-! ### the bracket of a least word -/
def BrOf (u : Wd) (b : Br) : Prop := f_bracket_so 8 [.d (eW u)] = .ok (.d (eB b)) [.un] ∧ fl_tree 8 [.d (eW u)] = .ok (.d (eB b)) [.un] ∧ lets b = u ∧ Ldg u (op b)
open Classical in
noncomputable def brO (u : Wd) : Br := if h : ∃ b, BrOf u b then Classical.choose h else .lf 0
theorem brO_spec {u : Wd} (hw : isW u = true) (hl : Lst u) : BrOf u (brO u) := by
  have h : ∃ b, BrOf u b := brk_R 7 u (by have := (isW_len hw).1; omega) hw hl
  unfold brO
  rw [dif_pos h]
  exact Classical.choose_spec h
noncomputable def opO (u : Wd) : Wd → Rat := op (brO u)
theorem opO_lead {u : Wd} (hw : isW u = true) (hl : Lst u) : Ldg u (opO u) := (brO_spec hw hl).2.2.2
theorem openedleast_R {u : Wd} (hw : isW u = true) (hl : Lst u) : ∃ c, f_opened_least [.d (eW u)] = .ok (.ol false (c.map eP)) [.un] ∧ fl_open_tree 8 [.d (eB (brO u))] = .ok (.ol false (c.map eP)) [.un] ∧ SM (kB u.length) (2 ^ (u.length - 1)) c ∧ ∀ w, wt c w = opO u w := by
  obtain ⟨h1, h2, h3, h4⟩ := brO_spec hw hl
  obtain ⟨w6, wL⟩ := isW_len hw
  have hg : Gd (brO u) := ⟨by rw [h3]; exact wL, by rw [h3]; exact w6⟩
  obtain ⟨c, e1, e2, hc, wc⟩ := lawopen_R 7 (brO u) (by rw [h3]; omega) hg
  rw [h3] at hc
  refine ⟨c, ?_, e2, hc, wc⟩
  refine fn_gives (ds := [eW u]) ?_
  show WO (g_opened_least [.d (eW u)]) _ _ _ _ _
  unfold g_opened_least
  walk_at "run"
  refine wf_eq h1 rfl ?_
  walk_at "run"
  refine wf_eq e1 rfl ?_
  rfl
theorem lead_mul {u v : Wd} {f g : Wd → Rat} (hf : Ldg u f) (hg : Ldg v g) : Ldg (u ++ v) (conv f g) := by
  have la : (u ++ v).length = u.length + v.length := List.length_append
  constructor
  · rw [conv_split u.length (u ++ v) f g hf.len (by omega), List.take_left' rfl, List.drop_left' rfl, hf.one, hg.one]
    grind
  · intro w hw
    have hlen : w.length = u.length + v.length := by
      by_cases y : w.length = u.length + v.length
      · exact y
      · rw [conv_len w hf.len hg.len y] at hw
        exact absurd rfl hw
    refine ⟨by omega, fun z => ?_⟩
    rw [conv_split u.length w f g hf.len (by omega)] at hw
    have h1 : f (w.take u.length) ≠ 0 := fun q => hw (by rw [q]; grind)
    have h2 : g (w.drop u.length) ≠ 0 := fun q => hw (by rw [q]; grind)
    obtain ⟨k1, k2⟩ := hf.ge _ h1
    obtain ⟨k3, k4⟩ := hg.ge _ h2
    have := app_ge k1 k2 k4
    rw [List.take_append_drop] at this
    exact this z
theorem Ldg.trn {u : Wd} {f : Wd → Rat} (h : Ldg u f) (hl : u.length ≤ 6) : Ldg u (trn 6 f) := by
  have e : DL.trn 6 f = f := by
    funext w
    unfold DL.trn
    by_cases z : (w.length : Int) ≤ 6
    · rw [if_pos z]
    · rw [if_neg z, h.len w (by omega)]
  rw [e]
  exact h
noncomputable def pwF (f : Wd → Rat) (r : List Wd) : Wd → Rat := r.foldl (fun f u => trn 6 (conv f (opO u))) f
theorem pwF_lead : ∀ (r : List Wd) (v : Wd) (f : Wd → Rat), Ldg v f → (∀ u ∈ r, Lst u ∧ isW u = true) → v.length + r.flatten.length ≤ 6 → Ldg (v ++ r.flatten) (pwF f r)
  | [], v, f, h, _, _ => by
    show Ldg (v ++ []) f
    rw [List.append_nil]
    exact h
  | u :: r, v, f, h, hr, hl => by
    have hu := hr u List.mem_cons_self
    have hl2 : v.length + (u.length + r.flatten.length) ≤ 6 := by simpa using hl
    have h2 := (lead_mul h (opO_lead hu.2 hu.1)).trn (by rw [List.length_append]; omega)
    have h3 := pwF_lead r (v ++ u) _ h2 (fun z hz => hr z (List.mem_cons_of_mem _ hz)) (by rw [List.length_append]; omega)
    have e : v ++ (u :: r).flatten = (v ++ u) ++ r.flatten := by simp
    rw [e]
    exact h3
theorem Ldg.unit : Ldg [] (one1 [] 1) := ⟨rfl, fun v hv => by
  have hv2 : (if v = [] then (1 : Rat) else 0) ≠ 0 := hv
  by_cases z : v = []
  · subst z; exact ⟨rfl, lt_irr _⟩
  · rw [if_neg z] at hv2; exact absurd rfl hv2⟩
def bP (n : Nat) : Nat := if n = 0 then 1 else 15 + kB n
theorem bP_le : ∀ n, n < 7 → ∀ m, m < 7 → 1 ≤ m → n + m ≤ 6 → 14 + (bP n + kB m) ≤ bP (n + m) := by decide
theorem bP_max : ∀ n, n < 7 → bP n ≤ 1900 := by decide
theorem pow_step {n : Nat} {c : Tb} {u : Wd} (hc : SM (bP n) (2 ^ n) c) (hu : Lst u ∧ isW u = true) (hl : n + u.length ≤ 6) : ∃ o c', f_opened_least [.d (eW u)] = .ok (.ol false (o.map eP)) [.un] ∧ fl_open_tree 8 [.d (eB (brO u))] = .ok (.ol false (o.map eP)) [.un] ∧ f_joined [.d (eS c), .d (eS o), .d (.int 6)] = .ok (.ol false (c'.map eP)) [.un, .un, .un] ∧ fl_join [.d (eS c), .d (eS o), .d (.int 6)] = .ok (.ol false (c'.map eP)) [.un, .un, .un] ∧ SM (bP (n + u.length)) (2 ^ (n + u.length)) c' ∧ wt c' = trn 6 (conv (wt c) (opO u)) := by
  obtain ⟨o, e1, e2, ho, wo⟩ := openedleast_R hu.2 hu.1
  have hp := List.length_pos_iff.mpr hu.1.1
  have k1 := bP_le n (by omega) u.length (by omega) hp hl
  have k2 := bP_max (n + u.length) (by omega)
  have n1 : 2 ^ n * 2 ^ (u.length - 1) ≤ 2 ^ (n + u.length) := by
    rw [← Nat.pow_add]
    exact Nat.pow_le_pow_right (by decide) (by omega)
  have n2 : 2 ^ (n + u.length) ≤ 2 ^ 6 := Nat.pow_le_pow_right (by decide) hl
  obtain ⟨c1, f1, h1, w1⟩ := joined_M (deep := 6) hc ho (by decide) (by decide) (by omega) (by omega)
  obtain ⟨c2, f2, h2, w2⟩ := lawjoin_M (deep := 6) hc ho (by decide) (by omega) (by omega)
  have q : c2 = c1 := sum_ext h2.sum h1.sum fun w => by rw [w1, w2]
  subst q
  exact ⟨o, c2, e1, e2, f1, f2, h1.mono k1 n1, funext fun w => by rw [w1, show wt o = opO u from funext wo]; rfl⟩
theorem power_R {w : Wd} (hw : isW w = true) : ∃ c, f_power_so [.d (eW w)] = .ok (.ol false (c.map eP)) [.un] ∧ fl_power [.d (eW w)] = .ok (.d (eS c)) [.un] ∧ SM (bP w.length) (2 ^ w.length) c ∧ Ldg w (wt c) ∧ ∃ r, wt c = pwF (one1 [] 1) r ∧ (∀ u ∈ r, Lst u ∧ isW u = true) ∧ Fal r ∧ r.flatten = w := by
  obtain ⟨r, er, hr1, hr2, hr3⟩ := falling_of_R hw
  obtain ⟨r', er', hr1', hr2', hr3'⟩ := lawsplit_R hw
  have qr : r' = r := fal_one hr1' hr1 hr2' hr2 (hr3'.trans hr3.symm)
  subst qr
  obtain ⟨w6, wL⟩ := isW_len hw
  have hrw : ∀ u ∈ r', Lst u ∧ isW u = true := fun u hu => ⟨hr1 u hu, by
    unfold isW
    rw [mem_isL wL hr3 u hu, Bool.and_true]
    exact decide_eq_true (by have := mem_len hr3 u hu; omega)⟩
  have b1 : SM (bP 0) (2 ^ 0) bare := bare_SM
  have key1 : WO (g_power_so [.d (eW w), .un, .un]) (fun _ => False) (fun u _ => ∃ c, u = .ol false (c.map eP) ∧ SM (bP w.length) (2 ^ w.length) c ∧ wt c = pwF (one1 [] 1) r') (fun _ => False) (fun _ => False) (fun _ _ => False) := by
    unfold g_power_so
    walk_at "run"
    refine wf_eq bare_R rfl ?_
    walk_at "run"
    refine wf_eq er rfl ?_
    walk_at "run"
    refine wo_loop (enc := eW) (fun q s => ∃ c n x2, s = [.d (eW w), .ol false (c.map eP), x2] ∧ SM (bP n) (2 ^ n) c ∧ n + q.flatten.length = w.length ∧ pwF (wt c) q = pwF (one1 [] 1) r' ∧ ∀ u ∈ q, Lst u ∧ isW u = true) r' _ ⟨bare, 0, _, rfl, b1, by rw [hr3]; omega, by rw [wt_bare], hrw⟩ ?_ ?_
    · rintro u q s ⟨c, n, x2, rfl, hc, hn, hp, hq⟩
      have hn2 : n + (u.length + q.flatten.length) = w.length := by simpa using hn
      obtain ⟨o, c', e1, e2, f1, f2, h1, w1⟩ := pow_step hc (hq u List.mem_cons_self) (by omega)
      walk_at "run"
      refine wf_eq e1 rfl ?_
      walk_at "run"
      refine wf_eq f1 rfl ?_
      exact ⟨c', n + u.length, _, rfl, h1, by omega, by rw [← hp, w1]; rfl, fun z hz => hq z (List.mem_cons_of_mem _ hz)⟩
    · rintro s ⟨c, n, x2, rfl, hc, hn, hp, hq⟩
      walk_at "run"
      have hn2 : n = w.length := by simpa using hn
      subst hn2
      exact ⟨c, rfl, hc, hp⟩
  have key2 : WO (gl_power [.d (eW w), .un, .un]) (fun _ => False) (fun u _ => ∃ c, u = .d (eS c) ∧ SM (bP w.length) (2 ^ w.length) c ∧ wt c = pwF (one1 [] 1) r') (fun _ => False) (fun _ => False) (fun _ _ => False) := by
    unfold gl_power
    walk_at "run"
    have ebare : PyData.list [.tuple [.str "", .tuple [.int 1, .int 1]]] = eS bare := by kernel_rfl
    rw [ebare]
    refine wf_eq er' rfl ?_
    walk_at "run"
    refine wo_loop (enc := eW) (fun q s => ∃ c n x2, s = [.d (eW w), .d (eS c), x2] ∧ SM (bP n) (2 ^ n) c ∧ n + q.flatten.length = w.length ∧ pwF (wt c) q = pwF (one1 [] 1) r' ∧ ∀ u ∈ q, Lst u ∧ isW u = true) r' _ ⟨bare, 0, _, rfl, b1, by rw [hr3]; omega, by rw [wt_bare], hrw⟩ ?_ ?_
    · rintro u q s ⟨c, n, x2, rfl, hc, hn, hp, hq⟩
      have hn2 : n + (u.length + q.flatten.length) = w.length := by simpa using hn
      have hu := hq u List.mem_cons_self
      obtain ⟨o, c', e1, e2, f1, f2, h1, w1⟩ := pow_step hc hu (by omega)
      walk_at "run"
      refine wf_eq (brO_spec hu.2 hu.1).2.1 rfl ?_
      walk_at "run"
      refine wf_eq e2 rfl ?_
      walk_at "run"
      refine wf_eq f2 rfl ?_
      exact ⟨c', n + u.length, _, rfl, h1, by omega, by rw [← hp, w1]; rfl, fun z hz => hq z (List.mem_cons_of_mem _ hz)⟩
    · rintro s ⟨c, n, x2, rfl, hc, hn, hp, hq⟩
      walk_at "run"
      have hn2 : n = w.length := by simpa using hn
      subst hn2
      exact ⟨c, rfl, hc, hp⟩
  have lead : Ldg w (pwF (one1 [] 1) r') := by
    have := pwF_lead r' [] (one1 [] 1) Ldg.unit hrw (by rw [hr3]; simpa using w6)
    rw [hr3] at this
    exact this
  cases e1 : g_power_so [.d (eW w), .un, .un] with
  | rt v s =>
    rw [e1] at key1
    obtain ⟨c, rfl, hc, wc⟩ := key1
    cases e2 : gl_power [.d (eW w), .un, .un] with
    | rt v2 s2 =>
      rw [e2] at key2
      obtain ⟨c2, rfl, hc2, wc2⟩ := key2
      have q : c2 = c := sum_ext hc2.sum hc.sum fun w => by rw [wc, wc2]
      subst q
      refine ⟨c2, ?_, ?_, hc, by rw [wc]; exact lead, r', wc, hrw, hr2, hr3⟩
      · refine fn_gives (ds := [eW w]) ?_
        show WO (g_power_so [.d (eW w), .un, .un]) _ _ _ _ _
        rw [e1]
        rfl
      · refine fn_gives (ds := [eW w]) ?_
        show WO (gl_power [.d (eW w), .un, .un]) _ _ _ _ _
        rw [e2]
        rfl
    | _ => rw [e2] at key2; exact key2.elim
  | _ => rw [e1] at key1; exact key1.elim
end DL
set_option Elab.async false
set_option linter.all false
set_option maxRecDepth 100000
set_option maxHeartbeats 4000000
namespace DL
open PySem PySem.Spec L2
open PyProof.Rows hiding St
open PySem.W (dataLe dataLt alike)
open Evl (Ex ex_l ex_t ex_rd)
/-! DL69: dict comprehensions; {k: v} anywhere; texts turned about -/
section
variable {K : PySem.W.Frag} {T : List (Addr × Str)} {B : Addr} {F G H : Hp} {σ : St} {s : S}
end
/-- F without the place p -/
def lessP (F : Hp) (p : Addr) : Hp := fun a => if a = p then none else F a
theorem gr_back {T : List (Addr × Str)} {F F1 F4 : Hp} {p : Addr} {u : HO} (hu : ∀ ps, u ≠ .tbl ps) (g1 : Gr T F F1) (fp : F1 p = none) (g4 : Gr T (upd F1 p u) F4) : lessP F4 p p = none ∧ Gr T F (lessP F4 p) ∧ F4 p = some u ∧ ∀ z, upd (lessP F4 p) p z = upd F4 p z := by
  refine ⟨if_pos rfl, ⟨fun a o h nt => ?_, fun ht => ?_⟩, g4.ex p _ upd_same hu, fun z => ?_⟩
  · have h1 := g1.ex a o h nt
    have na : a ≠ p := ne_of_none h1 fp
    show (if a = p then none else F4 a) = some o
    rw [if_neg na]
    exact g4.ex a o (by rw [upd_ne na]; exact h1) nt
  · rw [g4.same ht, g1.same ht]
    funext a
    show (if a = p then none else upd F p u a) = F a
    by_cases na : a = p
    · rw [if_pos na, na, ← g1.same ht, fp]
    · rw [if_neg na, upd_ne na]
  · funext a
    unfold upd
    by_cases na : a = p
    · rw [if_pos na, if_pos na]
    · rw [if_neg na, if_neg na]
      show (if a = p then none else F4 a) = F4 a
      rw [if_neg na]
theorem upd_back {F4 : Hp} {p : Addr} {u : HO} (h : F4 p = some u) : upd (lessP F4 p) p u = F4 := by
  funext a
  unfold upd lessP
  by_cases na : a = p
  · rw [if_pos na, na, h]
  · rw [if_neg na, if_neg na]
/-! ### {k: v for ..} -/
def compD (tgt : D → S → Option S) (tt : M Bool) (fk fv : M D) (vs : List Nat) : List D → List Key → List D → S → Res (List Key × List D)
  | [], ks, xs, s => .ok (ks, xs) s
  | x :: r, ks, xs, s => match tgt x s with
    | none => .bad
    | some s1 => match tt s1 with
      | .ok true s2 => (match fk s2 with
        | .ok k s3 => (match fv s3 with
          | .ok v s4 => (match keyD k with
            | some kk => compD tgt tt fk fv vs r (putKs ks kk) (putD ks xs kk v) (wipeS s4 vs)
            | none => .bad)
          | _ => .bad)
        | _ => .bad)
      | .ok false s2 => compD tgt tt fk fv vs r ks xs (wipeS s2 vs)
      | _ => .bad
def oDc (fi : M (List D)) (tgt : D → S → Option S) (tt : M Bool) (fk fv : M D) (vs : List Nat) : M SV := fun s => (fi s).bind fun items s1 => if items.length ≤ lim then (match compD tgt tt fk fv vs items [] [] (wipeS s1 vs) with
  | .ok ds s2 => .ok (.od false ds.1 ds.2) (restS s1 s2 vs)
  | _ => .bad) else .bad
def PvD (X : Cx) (T : List (Addr × Str)) (B : Addr) (F G : Hp) (σ : St) (s : S) (Q : VK) (tgt : D → S → Option S) (tt : M Bool) (fk fv : M D) (vs : List Nat) (p : Addr) (items : List D) (i : Nat) (H' : Hp) : Prop :=
  ∃ F' G' s' xs kvs, Gr T F F' ∧ Ex G G' ∧ F' p = none ∧ IS X.K T B (upd F' p (.dK kvs)) G' H' (L2.wipe σ vs) s' ∧ RpA X.K G' (kvs.map (·.2)) xs ∧ kvs.length ≤ i ∧ (kvs.map (·.1)).Nodup ∧
    match compD tgt tt fk fv vs (items.drop i) (kvs.map (·.1)) xs s' with
    | .ok ds s2 => ∀ F2 G2 H2, Gr T F F2 → Ex G G2 → IS X.K T B F2 G2 H2 (some (.ref p) :: σ) (.od false ds.1 ds.2 :: restS s s2 vs) → Q (.ref p) H2
    | _ => False
section
variable {X : Cx} {T : List (Addr × Str)} {B : Addr} {W : WX} {tg : Expr}
end
end DL
set_option Elab.async false
set_option linter.all false
set_option maxRecDepth 100000
set_option maxHeartbeats 4000000
namespace DL
open PySem PySem.Spec L2
open PyProof.Rows hiding St
open PySem.W (dataLe dataLt alike)
open Evl (Ex ex_l ex_t ex_rd)
/-! DL70: texts turned about; {k: v} anywhere; dict comprehensions reckoned -/
section
variable {X : Cx} {T : List (Addr × Str)} {B : Addr} {W : WX}
def revS (z : Str) : Str := ⟨z.cps.toList.reverse.toArray⟩
def tRevS (te : TE) : TE := fun σ H Q => te σ H fun x H1 => ∃ z, x = .str z ∧ z.length ≤ sizeLine ∧ Q (.str (revS z)) H1
def dRev : D → Option D
  | .str z => if z.length ≤ lim then some (.str (revS z)) else none
  | _ => none
/-! ### {k: v} -/
theorem IS.lessT {K : PySem.W.Frag} {F G H : Hp} {σ : St} {s : S} {p : Addr} {u : HO} (I : IS K T B (upd F p u) G H σ s) (hp : F p = none) (hu : ∀ ps, u ≠ .tbl ps) (hc : ∀ c q, LamX.CodeO c q ≠ u) : IS K T B F G H σ s := by
  have ne : ∀ {a w}, F a = some w → a ≠ p := fun e => ne_of_none e hp
  have up : ∀ {a w}, F a = some w → upd F p u a = some w := fun {a w} e => by rw [upd_ne (ne e)]; exact e
  have tb : LamX.Tabs T F := fun q hq => by
    obtain ⟨ps, h1, h2, h3⟩ := I.tb q hq
    have n1 : q.1 ≠ p := fun z => by
      rw [z, upd_same] at h1
      exact hu ps (Option.some.inj h1)
    rw [upd_ne n1] at h1
    refine ⟨ps, h1, h2, fun pos cv hcv => ?_⟩
    obtain ⟨c, e1, e2⟩ := h3 pos cv hcv
    have n2 : c ≠ p := fun z => by
      rw [z, upd_same] at e2
      exact hc _ _ (Option.some.inj e2).symm
    rw [upd_ne n2] at e2
    exact ⟨c, e1, e2⟩
  exact ⟨I.len, fun a w e => I.fr a w (up e), I.gh, fun a w e => I.dj a w (up e), tb, fun i y hy => (I.sl i y hy).mono (Ex.refl G) fun q w h1 h2 => ⟨h2, h1, fun h3 => by
    have nq : q ≠ p := fun z => by
      rw [z, upd_same] at h3
      cases h3
    rw [upd_ne nq] at h3
    exact h3⟩, I.ap, I.tc⟩
theorem PoX.addT {F F0 G : Hp} {σ : St} {c : Exc} {s : S} {p : Addr} {u : HO} (h : PoX X T B W F G σ c s) (g0 : Gr T F F0) (hp : F0 p = none) (hu : ∀ ps, u ≠ .tbl ps) (hc : ∀ c q, LamX.CodeO c q ≠ u) : PoX X T B W (upd F0 p u) G σ c s := fun F' G' H' C dd fs g e I => by
  obtain ⟨h1, h2, h3, h4⟩ := gr_back hu g0 hp g
  refine h (lessP F' p) G' H' C dd fs h2 e ?_
  have J : IS X.K T B (upd (lessP F' p) p u) G' H' σ s := by rw [upd_back h3]; exact I
  exact J.lessT h1 hu hc
end
section
variable {s : S} {Qv : SV → S → Prop} {X : Exc → S → Prop}
/-- {fk x: fv x for x in xs}, the slots as they were -/
def putAll : List (Key × D) → List Key → List D → List Key × List D
  | [], ks, xs => (ks, xs)
  | (k, v) :: r, ks, xs => putAll r (putKs ks k) (putD ks xs k v)
end
end DL
set_option Elab.async false
set_option linter.all false
set_option maxRecDepth 100000
set_option maxHeartbeats 4000000
namespace DL
open PySem PySem.Spec L2
open PyProof.Rows hiding St
open PySem.W (dataLe dataLt alike)
/-! DL71: sums flipped -/
noncomputable def g_flipped : S → Out :=
  gRet (oCall f_rows_of [] (mCons (mF (oDc (mUn dSeq (mVar 0)) (tTupT (tConss (tName 1) (tConss (tName 2) tNils)) 2) (M.ret true) (mUn dRev (mVar 1)) (mIf (mTru (mOp dEq (mOp dMod (mUn dLen (mCons (mVar 1) mNil)) (mC (.int 2))) (mC (.int 1)))) (mF (oCall f_turned_below [] (mCons (mVar 2) mNil))) (mVar 2)) [1, 2])) mNil))
noncomputable def f_flipped : S → Res SV := fnR 3 g_flipped
def sg (n : Nat) : Rat := if n % 2 = 1 then -1 else 1
def flp (f : Wd → Rat) (w : Wd) : Rat := sg w.length * f w.reverse
/-! ### joins turned about -/
/-! ### mixings turned about -/
def dvR (x : Nat) (f : Wd → Rat) : Wd → Rat := fun u => f (u ++ [x])
/-! ### flipped -/
def flT (a : Tb) : Tb := a.map fun p => (p.1.reverse, sg p.1.length * p.2)
end DL
set_option Elab.async false
set_option linter.all false
set_option maxRecDepth 100000
set_option maxHeartbeats 4000000
namespace DL
open PySem PySem.Spec L2
open PyProof.Rows hiding St
open PySem.W (EachIs dataLe dataLt alike AllAlike Sortable)
/-! DL72: list(text), sorted(text), x.pop(i), x.insert(i, e), tuple(xs), one thing or another -/
section
variable {X : Cx} {T : List (Addr × Str)} {B : Addr} {W : WX}
open Evl (Ex ex_l ex_t ex_rd)
def chs (x : Str) : List V := x.cps.toList.map fun c => .str ⟨#[c]⟩
def chD (x : Str) : List D := x.cps.toList.map fun c => .str ⟨#[c]⟩
def dChs : D → Option (List D)
  | .str x => if x.cps.size ≤ lim then some (chD x) else none
  | _ => none
def dSortS : D → Option (List D)
  | .str x => if x.cps.size ≤ lim ∧ sortOk (chD x) = true then some ((chD x).mergeSort (dataLe false id)) else none
  | _ => none
def oListS (f : M D) : M SV := mUn (fun d => (dChs d).map (.ol false ·)) f
def oSortS (f : M D) : M SV := mUn (fun d => (dSortS d).map (.ol false ·)) f
/-- x.pop(e) -/
def mPopAt (i : Nat) (f : M D) : M D := fun s => match s[i]? with
  | some (.ol _ _) => (f s).bind fun v s1 => match s1[i]?, v with
    | some (.ol r xs), .int j => if 0 ≤ j ∧ j.toNat < xs.length ∧ xs.length ≤ lim then (match xs[j.toNat]? with
      | some d => .ok d (s1.set i (.ol r (xs.eraseIdx j.toNat)))
      | none => .bad) else .bad
    | _, _ => .bad
  | _ => .bad
theorem RpA.eraseIdx {K : PySem.W.Frag} {G : Hp} : ∀ {vs : List V} {ds : List D}, RpA K G vs ds → ∀ k : Nat, RpA K G (vs.eraseIdx k) (ds.eraseIdx k)
  | _, _, .nil, _ => .nil
  | _, _, .cons _ t, 0 => t
  | _, _, .cons h t, k + 1 => .cons h (RpA.eraseIdx t k)
end
section
variable {s : S} {Qv : SV → S → Prop} {Qd : D → S → Prop} {X : Exc → S → Prop}
theorem wx_listS {f : M D} : WQ (oListS f s) Qv X = WQ (f s) (fun d s1 => WL (dChs d) fun xs => Qv (.ol false xs) s1) X := by
  unfold oListS
  rw [wx_un]
  refine wx_ext fun d s1 => ?_
  cases dChs d <;> rfl
theorem wx_sortS {f : M D} : WQ (oSortS f s) Qv X = WQ (f s) (fun d s1 => WL (dSortS d) fun xs => Qv (.ol false xs) s1) X := by
  unfold oSortS
  rw [wx_un]
  refine wx_ext fun d s1 => ?_
  cases dSortS d <;> rfl
def WPop (z : Option SV) (v : D) (k : Bool → List D → D → Nat → Prop) : Prop := match z, v with
  | some (.ol r xs), .int j => ∃ d, (0 ≤ j ∧ j.toNat < xs.length ∧ xs.length ≤ lim) ∧ xs[j.toNat]? = some d ∧ k r xs d j.toNat
  | _, _ => False
theorem wx_popAt {i : Nat} {f : M D} : WQ (mPopAt i f s) Qd X = WL ((s[i]?).bind fun v => match v with | .ol _ _ => some () | _ => none) fun _ => WQ (f s) (fun v s1 => WPop (s1[i]?) v fun r xs d j => Qd d (s1.set i (.ol r (xs.eraseIdx j)))) X := by
  unfold mPopAt
  cases s[i]? with
  | none => rfl
  | some v =>
    cases v with
    | ol r xs =>
      show WQ ((f s).bind _) _ _ = WQ _ _ _
      rw [wx_bind]
      refine wx_ext fun y s1 => ?_
      cases s1[i]? with
      | none => rfl
      | some x =>
        cases x with
        | ol r2 ys =>
          cases y with
          | int j =>
            show WQ (if _ then _ else _) _ _ = (∃ d, _ ∧ _ ∧ _)
            by_cases h : 0 ≤ j ∧ j.toNat < ys.length ∧ ys.length ≤ lim
            · rw [if_pos h]
              have e : ys[j.toNat]? = some ys[j.toNat] := List.getElem?_eq_getElem h.2.1
              rw [e]
              apply propext
              constructor
              · exact fun q => ⟨_, h, rfl, q⟩
              · rintro ⟨d, _, e2, q⟩
                cases e2
                exact q
            · rw [if_neg h]
              apply propext
              constructor
              · exact fun z => z.elim
              · exact fun ⟨d, h1, _⟩ => absurd h1 h
          | _ => rfl
        | _ => rfl
    | _ => rfl
theorem wpop_ol {r : Bool} {xs : List D} {j : Int} {k : Bool → List D → D → Nat → Prop} : WPop (some (.ol r xs)) (.int j) k = ∃ d, (0 ≤ j ∧ j.toNat < xs.length ∧ xs.length ≤ lim) ∧ xs[j.toNat]? = some d ∧ k r xs d j.toNat := rfl
end
end DL
set_option Elab.async false
set_option linter.all false
set_option maxRecDepth 100000
set_option maxHeartbeats 4000000
namespace DL
open PySem PySem.Spec L2
open PyProof.Rows hiding St
open PySem.W (dataLe dataLt alike)
/-! DL73: opened brackets weigh every mixing of two words nought -/
def Lf (f : Wd → Rat) (u v : Wd) : Rat := ((laidL u v).map f).sum
theorem laid_nilL (v : Wd) : laidL [] v = [v] := by cases v <;> simp [laidL]
theorem laid_nilR (u : Wd) : laidL u [] = [u] := by cases u <;> simp [laidL]
theorem Lf_nilL (f : Wd → Rat) (v : Wd) : Lf f [] v = f v := by unfold Lf; rw [laid_nilL]; simp [Rat.add_zero]
theorem Lf_nilR (f : Wd → Rat) (u : Wd) : Lf f u [] = f u := by unfold Lf; rw [laid_nilR]; simp [Rat.add_zero]
theorem Lf_cons (f : Wd → Rat) (a b : Nat) (u v : Wd) : Lf f (a :: u) (b :: v) = Lf (dv a f) u (b :: v) + Lf (dv b f) (a :: u) v := by
  unfold Lf
  rw [laidL]
  rw [List.map_append, List.sum_append, List.map_map, List.map_map]
  rfl
theorem Lf_add (f g : Wd → Rat) (u v : Wd) : Lf (fun w => f w + g w) u v = Lf f u v + Lf g u v := sum_add' f g _
theorem Lf_mul (c : Rat) (f : Wd → Rat) (u v : Wd) : Lf (fun w => c * f w) u v = c * Lf f u v := sum_mul' c f _
theorem Lf_sub (f g : Wd → Rat) (u v : Wd) : Lf (fun w => f w - g w) u v = Lf f u v - Lf g u v := by
  have e : (fun w => f w - g w) = fun w => f w + (-1) * g w := by funext w; grind
  rw [e, Lf_add, Lf_mul]
  grind
/-- weighs no mixing of two words -/
structure Prim (f : Wd → Rat) : Prop where
  nil : f [] = 0
  two : ∀ a u b v, Lf f (a :: u) (b :: v) = 0
theorem conv_cons (f g : Wd → Rat) (x : Nat) (w : Wd) : conv f g (x :: w) = f [] * g (x :: w) + conv (dv x f) g w := rfl
theorem Lf_dvc (f g : Wd → Rat) (a : Nat) (u v : Wd) : Lf (dv a (conv f g)) u v = f [] * Lf (dv a g) u v + Lf (conv (dv a f) g) u v := by
  have e : dv a (conv f g) = fun w => f [] * dv a g w + conv (dv a f) g w := rfl
  rw [e, Lf_add, Lf_mul]
theorem Lf_conv {g : Wd → Rat} (hg : Prim g) : ∀ (n : Nat) (f : Wd → Rat) (u v : Wd), u.length + v.length ≤ n → Lf (conv f g) u v = conv (fun x => Lf f x v) g u + conv (fun y => Lf f u y) g v
  | n, f, [], v, _ => by
    rw [Lf_nilL]
    have e : conv (fun x => Lf f x v) g [] = 0 := by show _ * g [] = 0; rw [hg.nil]; grind
    have e2 : (fun y => Lf f [] y) = f := by funext y; exact Lf_nilL f y
    rw [e, e2]
    grind
  | n, f, a :: u, [], _ => by
    rw [Lf_nilR]
    have e : conv (fun y => Lf f (a :: u) y) g [] = 0 := by show _ * g [] = 0; rw [hg.nil]; grind
    have e2 : (fun x => Lf f x []) = f := by funext y; exact Lf_nilR f y
    rw [e, e2]
    grind
  | 0, f, a :: u, b :: v, h => by simp at h
  | n + 1, f, a :: u, b :: v, h => by
    have h1 : u.length + (b :: v).length ≤ n := by simp at h ⊢; omega
    have h2 : (a :: u).length + v.length ≤ n := by simp at h ⊢; omega
    rw [Lf_cons, Lf_dvc, Lf_dvc, Lf_conv hg n (dv a f) u (b :: v) h1, Lf_conv hg n (dv b f) (a :: u) v h2]
    have hz := hg.two a u b v
    rw [Lf_cons] at hz
    have c1 : conv (fun x => Lf f x (b :: v)) g (a :: u) = f (b :: v) * g (a :: u) + (conv (fun x => Lf (dv a f) x (b :: v)) g u + conv (fun x => Lf (dv b f) (a :: x) v) g u) := by
      rw [conv_cons, Lf_nilL]
      have e : dv a (fun x => Lf f x (b :: v)) = fun x => Lf (dv a f) x (b :: v) + Lf (dv b f) (a :: x) v := by funext x; exact Lf_cons f a b x v
      rw [e, conv_addL]
    have c2 : conv (fun y => Lf f (a :: u) y) g (b :: v) = f (a :: u) * g (b :: v) + (conv (fun y => Lf (dv a f) u (b :: y)) g v + conv (fun y => Lf (dv b f) (a :: u) y) g v) := by
      rw [conv_cons, Lf_nilR]
      have e : dv b (fun y => Lf f (a :: u) y) = fun y => Lf (dv a f) u (b :: y) + Lf (dv b f) (a :: u) y := by funext y; exact Lf_cons f a b u y
      rw [e, conv_addL]
    have c3 : conv (fun y => Lf (dv a f) u y) g (b :: v) = f (a :: u) * g (b :: v) + conv (fun y => Lf (dv a f) u (b :: y)) g v := by
      rw [conv_cons, Lf_nilR]
      rfl
    have c4 : conv (fun x => Lf (dv b f) x v) g (a :: u) = f (b :: v) * g (a :: u) + conv (fun x => Lf (dv b f) (a :: x) v) g u := by
      rw [conv_cons, Lf_nilL]
      rfl
    rw [c1, c2, c3, c4]
    grind
theorem conv_at {g : Wd → Rat} {h : Wd → Rat} (hz : ∀ x, x ≠ [] → h x = 0) (u : Wd) : conv h g u = h [] * g u := by
  have e : h = one1 [] (h []) := by
    funext x
    unfold one1
    by_cases hx : x = []
    · rw [if_pos hx, hx]
    · rw [if_neg hx, hz x hx]
  rw [e, conv_one]
  simp [one1]
theorem Prim.Lf_conv {f g : Wd → Rat} (hf : Prim f) (hg : Prim g) (a : Nat) (u : Wd) (b : Nat) (v : Wd) : Lf (conv f g) (a :: u) (b :: v) = f (b :: v) * g (a :: u) + f (a :: u) * g (b :: v) := by
  rw [DL.Lf_conv hg _ f _ _ (Nat.le_refl _)]
  rw [conv_at (h := fun x => Lf f x (b :: v)) (fun x hx => by
    cases x with
    | nil => exact absurd rfl hx
    | cons c x => exact hf.two c x b v), conv_at (h := fun y => Lf f (a :: u) y) (fun y hy => by
    cases y with
    | nil => exact absurd rfl hy
    | cons c y => exact hf.two a u c y), Lf_nilL, Lf_nilR]
theorem Prim.hook {f g : Wd → Rat} (hf : Prim f) (hg : Prim g) : Prim (fun w => conv f g w - conv g f w) where
  nil := by show f [] * g [] - g [] * f [] = 0; rw [hf.nil]; grind
  two a u b v := by
    rw [Lf_sub, hf.Lf_conv hg, hg.Lf_conv hf]
    grind
/-! whole weights; the letters stay -/
/-! sides exchanged, the round of three -/
/-! sharper sizes -/
/-! texts: heads, tails, letters sorted -/
theorem cut_pre {w : Wd} {k : Nat} (h : w.length ≤ lim) : dCut none (some (k : Int)) (eW w) = some (.d (eW (w.take k))) := by
  show (if (tx w).length ≤ lim then some (SV.d (.str (cutS (tx w) none (some (k : Int))))) else none) = _
  rw [tx_len, if_pos h, cut_to']
  rfl
end DL
set_option Elab.async false
set_option linter.all false
set_option maxRecDepth 100000
set_option maxHeartbeats 4000000
namespace DL
open PySem PySem.Spec L2
open PyProof.Rows hiding St
/-! DL74: the greatest word of a mixing -/
theorem laid_inv {a b : Nat} {u v x : Wd} (h : x ∈ laidL (a :: u) (b :: v)) : (∃ x', x = a :: x' ∧ x' ∈ laidL u (b :: v)) ∨ ∃ x', x = b :: x' ∧ x' ∈ laidL (a :: u) v := by
  rw [laidL] at h
  rcases List.mem_append.mp h with z | z
  · obtain ⟨x', h1, h2⟩ := List.mem_map.mp z
    exact .inl ⟨x', h2.symm, h1⟩
  · obtain ⟨x', h1, h2⟩ := List.mem_map.mp z
    exact .inr ⟨x', h2.symm, h1⟩
theorem laid_consL {a : Nat} {u v x : Wd} (h : x ∈ laidL u v) : a :: x ∈ laidL (a :: u) v := by
  cases v with
  | nil =>
    rw [laid_nilR] at h ⊢
    rw [List.mem_singleton.mp h]
    exact List.mem_singleton.mpr rfl
  | cons b v =>
    rw [laidL]
    exact List.mem_append_left _ (List.mem_map.mpr ⟨x, h, rfl⟩)
theorem laid_consR {b : Nat} {u v x : Wd} (h : x ∈ laidL u v) : b :: x ∈ laidL u (b :: v) := by
  cases u with
  | nil =>
    rw [laid_nilL] at h ⊢
    rw [List.mem_singleton.mp h]
    exact List.mem_singleton.mpr rfl
  | cons a u =>
    rw [laidL]
    exact List.mem_append_right _ (List.mem_map.mpr ⟨x, h, rfl⟩)
theorem laid_app : ∀ (u v : Wd), u ++ v ∈ laidL u v
  | [], v => by rw [laid_nilL]; exact List.mem_singleton.mpr rfl
  | a :: u, v => laid_consL (laid_app u v)
theorem clt {a b : Nat} {x y : Wd} : a :: x < b :: y ↔ a < b ∨ a = b ∧ x < y := List.cons_lt_cons_iff
theorem nclt {a b : Nat} {x y : Wd} (h : ¬ a :: x < b :: y) : b < a ∨ a = b ∧ ¬ x < y := by
  rw [clt] at h
  rcases Nat.lt_trichotomy a b with z | z | z
  · exact absurd (.inl z) h
  · exact .inr ⟨z, fun y => h (.inr ⟨z, y⟩)⟩
  · exact .inl z
theorem ncons {a : Nat} {x y : Wd} (h : ¬ x < y) : ¬ a :: x < a :: y := fun z => by
  rcases clt.mp z with y | ⟨_, y⟩
  · exact Nat.lt_irrefl _ y
  · exact h y
/-- what stands ahead of the lesser one may stand ahead of the greater one -/
theorem lay_more : ∀ (n : Nat) (p a b : Wd), p.length + a.length + b.length ≤ n → ¬ a < b → ∀ x ∈ laidL (p ++ a) b, ∃ y ∈ laidL a (p ++ b), ¬ y < x
  | n, p, a, [], _, _, x, hx => by
    rw [laid_nilR] at hx
    rw [List.mem_singleton.mp hx, List.append_nil]
    refine ⟨p ++ a, ?_, lt_irr _⟩
    rename_i h0 h1
    clear hx h0 h1
    induction p with
    | nil => rw [laid_nilR]; exact List.mem_singleton.mpr rfl
    | cons c p ih => exact laid_consR ih
  | 0, p, a, f :: b, h, _, x, hx => by simp at h
  | n + 1, p, [], f :: b, h, hab, x, hx => absurd (List.nil_lt_cons f b) hab
  | n + 1, [], g :: a, f :: b, h, hab, x, hx => ⟨x, hx, lt_irr _⟩
  | n + 1, c :: p, g :: a, f :: b, h, hab, x, hx => by
    rcases laid_inv (show x ∈ laidL (c :: (p ++ g :: a)) (f :: b) from hx) with ⟨x', rfl, hx'⟩ | ⟨x', rfl, hx'⟩
    · obtain ⟨y, hy, hl⟩ := lay_more n p (g :: a) (f :: b) (by simp at h ⊢; omega) hab x' hx'
      exact ⟨c :: y, laid_consR hy, ncons hl⟩
    · rcases nclt hab with z | ⟨z, z2⟩
      · refine ⟨g :: (a ++ (c :: p ++ f :: b)), laid_consL (laid_app _ _), fun q => ?_⟩
        rcases clt.mp q with q | ⟨q, _⟩
        · omega
        · omega
      · subst z
        have e : c :: (p ++ g :: a) = (c :: p ++ [g]) ++ a := by simp
        rw [e] at hx'
        obtain ⟨y, hy, hl⟩ := lay_more n (c :: p ++ [g]) a b (by simp at h ⊢; omega) z2 x' hx'
        refine ⟨g :: y, laid_consL ?_, ncons hl⟩
        have e2 : c :: p ++ g :: b = c :: p ++ [g] ++ b := by simp
        rw [e2]
        exact hy
/-- no end is less -/
def Ab (u l : Wd) : Prop := ∀ k, k < u.length → ¬ u.drop k < l
theorem Ab.tail {a : Nat} {u l : Wd} (h : Ab (a :: u) l) : Ab u l := fun k hk => h (k + 1) (by simp; omega)
theorem lay_top : ∀ (u : Wd) {l x : Wd}, Ab u l → x ∈ laidL u l → ¬ u ++ l < x
  | [], l, x, _, hx => by
    rw [laid_nilL] at hx
    rw [List.mem_singleton.mp hx]
    exact lt_irr _
  | c :: u, [], x, _, hx => by
    rw [laid_nilR] at hx
    rw [List.mem_singleton.mp hx, List.append_nil]
    exact lt_irr _
  | c :: u, d :: l, x, h, hx => by
    rcases laid_inv hx with ⟨x', rfl, hx'⟩ | ⟨x', rfl, hx'⟩
    · exact ncons (lay_top u h.tail hx')
    · rcases nclt (h 0 (by simp)) with z | ⟨z, z2⟩
      · intro q
        rcases clt.mp q with q | ⟨q, _⟩ <;> omega
      · subst z
        obtain ⟨y, hy, hl⟩ := lay_more _ [c] u l (Nat.le_refl _) z2 x' hx'
        exact ncons (nlt_tra (lay_top u h.tail hy) hl)
theorem lay_mono : ∀ (v u l x : Wd), v.length = u.length → v < u → x ∈ laidL v l → ∃ y ∈ laidL u l, x < y
  | [], u, l, x, hl, hlt, hx => by
    cases u with
    | nil => cases hlt
    | cons b u => simp at hl
  | a :: v, [], l, x, hl, hlt, hx => by simp at hl
  | a :: v, b :: u, [], x, hl, hlt, hx => by
    rw [laid_nilR] at hx
    rw [List.mem_singleton.mp hx]
    exact ⟨b :: u, by rw [laid_nilR]; exact List.mem_singleton.mpr rfl, hlt⟩
  | a :: v, b :: u, d :: l, x, hl, hlt, hx => by
    rcases laid_inv hx with ⟨x', rfl, hx'⟩ | ⟨x', rfl, hx'⟩
    · rcases clt.mp hlt with z | ⟨z, z2⟩
      · exact ⟨b :: (u ++ d :: l), laid_consL (laid_app _ _), clt.mpr (.inl z)⟩
      · subst z
        obtain ⟨y, hy, hxy⟩ := lay_mono v u (d :: l) x' (by simpa using hl) z2 hx'
        exact ⟨a :: y, laid_consL hy, clt.mpr (.inr ⟨rfl, hxy⟩)⟩
    · obtain ⟨y, hy, hxy⟩ := lay_mono (a :: v) (b :: u) l x' hl hlt hx'
      exact ⟨d :: y, laid_consR hy, clt.mpr (.inr ⟨rfl, hxy⟩)⟩
/-! how often -/
def unsh : Wd → List (Wd × Wd)
  | [] => [([], [])]
  | d :: x => (unsh x).map (fun p => (d :: p.1, p.2)) ++ (unsh x).map fun p => (p.1, d :: p.2)
theorem unsh_mem : ∀ (x : Wd) {p q : Wd}, (p, q) ∈ unsh x → x ∈ laidL p q
  | [], p, q, h => by
    cases List.mem_singleton.mp h
    rw [laid_nilL]
    exact List.mem_singleton.mpr rfl
  | d :: x, p, q, h => by
    rcases List.mem_append.mp h with z | z
    · obtain ⟨⟨p', q'⟩, h1, h2⟩ := List.mem_map.mp z
      cases h2
      exact laid_consL (unsh_mem x h1)
    · obtain ⟨⟨p', q'⟩, h1, h2⟩ := List.mem_map.mp z
      cases h2
      exact laid_consR (unsh_mem x h1)
theorem sh_app (y : Wd) : ∀ (x : Wd) (f g : Wd → Rat), sh f g (x ++ y) = ((unsh x).map fun p => sh (fun z => f (p.1 ++ z)) (fun z => g (p.2 ++ z)) y).sum
  | [], f, g => by
    show sh f g y = [sh (fun z => f z) (fun z => g z) y].sum
    simp [Rat.add_zero]
  | d :: x, f, g => by
    show sh f g (d :: (x ++ y)) = _
    rw [sh_cons, sh_app y x, sh_app y x]
    show _ = (List.map _ ((unsh x).map (fun p => (d :: p.1, p.2)) ++ (unsh x).map fun p => (p.1, d :: p.2))).sum
    rw [List.map_append, List.sum_append, List.map_map, List.map_map]
    rfl
theorem sh_unsh (x : Wd) (f g : Wd → Rat) : sh f g x = ((unsh x).map fun p => f p.1 * g p.2).sum := by
  have e := sh_app [] x f g
  rw [List.append_nil] at e
  rw [e]
  congr 1
  exact List.map_congr_left fun p _ => by
    rw [sh_nil, List.append_nil, List.append_nil]
theorem cnt_laid (u l x : Wd) : cntQ (laidL u l) x = sh (one1 u 1) (one1 l 1) x := by
  rw [sh_one]
  grind
theorem one1_app (p u z : Wd) : one1 (p ++ u) 1 (p ++ z) = one1 u 1 z := by
  unfold one1
  by_cases h : z = u
  · rw [h, if_pos rfl, if_pos rfl]
  · rw [if_neg h, if_neg fun y => h (List.append_cancel_left y)]
theorem laid_join : ∀ {a b t r x y : Wd}, x ∈ laidL a b → y ∈ laidL t r → x ++ y ∈ laidL (a ++ t) (b ++ r)
  | [], [], t, r, x, y, hx, hy => by
    rw [laid_nilL] at hx
    rw [List.mem_singleton.mp hx]
    exact hy
  | [], b0 :: b, t, r, x, y, hx, hy => by
    rw [laid_nilL] at hx
    rw [List.mem_singleton.mp hx]
    have := laid_join (a := []) (b := b) (x := b) (by rw [laid_nilL]; exact List.mem_singleton.mpr rfl) hy
    exact laid_consR this
  | a0 :: a, [], t, r, x, y, hx, hy => by
    rw [laid_nilR] at hx
    rw [List.mem_singleton.mp hx]
    have := laid_join (a := a) (b := []) (x := a) (by rw [laid_nilR]; exact List.mem_singleton.mpr rfl) hy
    exact laid_consL this
  | a0 :: a, b0 :: b, t, r, x, y, hx, hy => by
    rcases laid_inv hx with ⟨x', rfl, hx'⟩ | ⟨x', rfl, hx'⟩
    · exact laid_consL (laid_join hx' hy)
    · exact laid_consR (laid_join hx' hy)
termination_by a b => a.length + b.length
theorem lt_app : ∀ (u : Wd) {x y : Wd}, u ++ x < u ++ y ↔ x < y
  | [], _, _ => Iff.rfl
  | a :: u, x, y => by
    show a :: (u ++ x) < a :: (u ++ y) ↔ _
    rw [clt]
    constructor
    · rintro (z | ⟨_, z⟩)
      · exact absurd z (Nat.lt_irrefl _)
      · exact (lt_app u).mp z
    · exact fun z => .inr ⟨rfl, (lt_app u).mpr z⟩
theorem one1_not {p u : Wd} (h : ¬ ∃ t, u = p ++ t) : (fun z => one1 u 1 (p ++ z)) = fun _ => (0 : Rat) := by
  funext z
  unfold one1
  exact if_neg fun e => h ⟨z, e.symm⟩
theorem one1_pre {p u : Wd} : (fun z => one1 (p ++ u) 1 (p ++ z)) = one1 u 1 := by
  funext z
  exact one1_app p u z
theorem lt_len {b t r : Wd} (h : b.length = t.length) (k : b < t) : b ++ r < t ++ r := by
  rcases lt_pre k with ⟨e, rfl⟩ | z
  · have : e = [] := by simpa using h
    rw [this, List.append_nil] at k
    exact absurd k (lt_irr _)
  · exact z r r
theorem lt_len' {b t r : Wd} (h : b.length = t.length) (k : b < t) : b < t ++ r := by
  rcases lt_pre k with ⟨e, rfl⟩ | z
  · have : e = [] := by simpa using h
    rw [this, List.append_nil] at k
    exact absurd k (lt_irr _)
  · have := z [] r
    rwa [List.append_nil] at this
/-- how often the greatest one stands in it -/
theorem lay_often {u l : Wd} (h : Ab u l) (hl : l ≠ []) : cntQ (laidL u l) (u ++ l) = 1 + if l.isSuffixOf u = true then cntQ (laidL (u.take (u.length - l.length)) l) u else 0 := by
  rw [cnt_laid, sh_app]
  have key : ∀ p ∈ unsh u, sh (fun z => one1 u 1 (p.1 ++ z)) (fun z => one1 l 1 (p.2 ++ z)) l = one1 u 1 p.1 * one1 [] 1 p.2 + if l.isSuffixOf u = true then one1 (u.take (u.length - l.length)) 1 p.1 * one1 l 1 p.2 else 0 := by
    rintro ⟨a, b⟩ hp
    have hm := unsh_mem u hp
    have hlen := laidL_len _ _ _ hm
    simp only
    by_cases ha : ∃ t, u = a ++ t
    · obtain ⟨t, ht⟩ := ha
      by_cases hb : ∃ r, l = b ++ r
      · obtain ⟨r, hr⟩ := hb
        have htb : t.length = b.length := by
          have := congrArg List.length ht
          rw [List.length_append] at this
          omega
        by_cases hb0 : b = []
        · subst hb0
          have ht0 : t = [] := by simpa using htb
          subst ht0
          have e2 : one1 l 1 [] = (0 : Rat) := if_neg fun z => hl z.symm
          have e3 : one1 u 1 a = (1 : Rat) := if_pos (by rw [ht, List.append_nil])
          have e4 : (fun z => one1 u 1 (a ++ z)) = one1 [] 1 := by
            rw [ht]
            exact one1_pre
          rw [e4, e2, e3, sh_unitL]
          have e5 : one1 l 1 ([] ++ l) = (1 : Rat) := if_pos rfl
          rw [e5, show one1 [] 1 [] = (1 : Rat) from if_pos rfl]
          split <;> grind
        · have hj := laid_join hm (laid_app t r)
          rw [← ht, ← hr] at hj
          have h1 := lay_top u h hj
          have h2 : ¬ l < t ++ r := fun z => h1 ((lt_app u).mpr z)
          have h3 : ¬ t < l := by
            have := h a.length (by
              have := congrArg List.length ht
              rw [List.length_append] at this
              have : 0 < b.length := List.length_pos_iff.mpr hb0
              omega)
            rw [ht, List.drop_left] at this
            exact this
          have h4 : t = b := by
            rcases lt_tri t b with z | z | z
            · exact absurd (by rw [hr]; exact lt_len' htb z) h3
            · exact z
            · exact absurd (by rw [hr]; exact lt_len htb.symm z) h2
          subst h4
          have h5 : r = [] := Classical.byContradiction fun z => h3 (by rw [hr]; exact pre_lt t z)
          subst h5
          rw [List.append_nil] at hr
          subst hr
          have e4 : (fun z => one1 u 1 (a ++ z)) = one1 l 1 := by
            rw [ht]
            exact one1_pre
          have e5 : (fun z => one1 l 1 (l ++ z)) = one1 [] 1 := by
            have := one1_pre (p := l) (u := [])
            rw [List.append_nil] at this
            exact this
          have hs : l.isSuffixOf u = true := by
            rw [List.isSuffixOf_iff_suffix]
            exact ⟨a, ht.symm⟩
          have e6 : u.take (u.length - l.length) = a := by
            rw [ht, List.length_append, Nat.add_sub_cancel, List.take_left]
          rw [e4, e5, if_pos hs, e6, sh_comm, sh_unitL]
          rw [show one1 l 1 l = (1 : Rat) from if_pos rfl, show one1 a 1 a = (1 : Rat) from if_pos rfl, show one1 [] 1 l = (0 : Rat) from if_neg hl]
          grind
      · rw [one1_not hb, sh_zeroR]
        have e1 : one1 [] 1 b = (0 : Rat) := if_neg fun z => hb ⟨l, by rw [z]; rfl⟩
        have e2 : one1 l 1 b = (0 : Rat) := if_neg fun z => hb ⟨[], by rw [z, List.append_nil]⟩
        rw [e1, e2]
        split <;> grind
    · rw [one1_not ha, sh_zeroL]
      have e1 : one1 u 1 a = (0 : Rat) := if_neg fun z => ha ⟨[], by rw [z, List.append_nil]⟩
      have e2 : one1 (u.take (u.length - l.length)) 1 a = (0 : Rat) := if_neg fun z => ha ⟨_, by rw [z]; exact (List.take_append_drop _ _).symm⟩
      rw [e1, e2]
      split <;> grind
  rw [List.map_congr_left key]
  rw [sum_add', ← sh_unsh]
  have e1 : sh (one1 u 1) (one1 [] 1) u = 1 := by
    rw [sh_comm, sh_unitL]
    simp [one1]
  rw [e1]
  congr 1
  by_cases hs : l.isSuffixOf u = true
  · simp only [hs, if_true]
    rw [← sh_unsh, cnt_laid]
  · simp only [hs, Bool.false_eq_true, if_false]
    exact sum_zero' _
end DL
set_option Elab.async false
set_option linter.all false
set_option maxRecDepth 100000
set_option maxHeartbeats 4000000
local macro_rules | `(tactic| walk_at "run") => `(tactic| try simp only [DL.wo_seq, DL.wo_nil, DL.wo_set, DL.wo_setO, DL.wo_ret, DL.wo_if, DL.wo_drop, DL.wo_asg, DL.wo_par, DL.wo_aug, DL.wo_for, DL.wo_raise, DL.wo_app, DL.wo_setIx, DL.wo_nx, DL.wo_rt, DL.wo_bk, DL.wo_ct, DL.wo_ex, DL.wx_ok, DL.wx_ex, DL.wx_op, DL.wx_un, DL.wx_C, DL.wx_ret, DL.wx_var, DL.wx_nil, DL.wx_cons, DL.wx_tru, DL.wx_not, DL.wx_and, DL.wx_or, DL.wx_andV, DL.wx_orV, DL.wx_notV, DL.wx_if, DL.wx_chain, DL.wx_tup, DL.wx_lst, DL.wx_olst, DL.wx_oD, DL.wx_F, DL.wx_list, DL.wx_nop, DL.wx_p, DL.wx_sl, DL.wx_call, DL.wx_callW, DL.wx_callR, DL.wx_pix, DL.wx_plen, DL.wx_din, DL.wx_dget2, DL.wx_move, DL.wx_why, DL.wl_some, DL.wf_okD, DL.wf_okL, DL.wf_okM, DL.wf_okT, DL.wf_ex, DL.wv_d, DL.wv_ol, DL.wv_od, DL.wv_fd, DL.wb_t, DL.wb_f, DL.wt_b, DL.wh_d, DL.wh_ol, DL.wh_od, DL.wh_fd, DL.wm_d, DL.wm_ol, DL.wm_od, DL.wm_fd, DL.dat_d, DL.dat_ol, DL.dat_od, DL.dat_fd, DL.d_add, DL.d_sub, DL.d_lt, DL.d_le, DL.d_gt, DL.d_ge, DL.d_tru, DL.d_eqInt, DL.d_neg, DL.tg_name, DL.tg_tup2, DL.tg_tup3, DL.ixv_l, DL.ixv_t, DL.ixv_s, DL.ixv_dd, DL.ixv_ol, DL.ixv_od, DL.ixv_fd, DL.ix_t0, DL.ix_t1, DL.ix_t2, DL.ix_l0, DL.ix_l1, DL.ix_l2, DL.d_asB, DL.d_ok0, DL.d_ok1, DL.d_ok2, DL.d_ok3, DL.d_ok4, DL.key_s, DL.key_i, DL.len_ol, DL.len_l, DL.len_t, DL.it_l, DL.it_t, DL.seq_l, DL.seq_t, DL.tru_i, DL.tru_l, DL.tru_n, DL.lk_od, DL.lk_odi, DL.isD_od, DL.isD_fd, DL.isD_d, DL.if_tt, DL.pick_nil, DL.pick_cons, DL.wl_addS, DL.wl_lenS, DL.seq_S, DL.tg_eP, DL.wl_mod, DL.wl_mulI, DL.wl_divI, DL.it_S, DL.wl_powI, DL.wl_rng1, DL.wl_rng2, DL.wx_callB, DL.wx_eqB, DL.wo_clear, DL.wx_pop, DL.wbr_d, DL.tg_list2, DL.tg_list3, DL.wx_dictR, DL.rest_nil, DL.rest_cons, DL.rst_d, DL.rst_un, DL.wx_cat, DL.wl_cat, DL.wx_disp1, DL.key_W, DL.wx_minS, DL.wipe_nil, DL.wipe_cons, DL.wx_rep, DL.wl_catS, DL.wrep_ol, DL.wx_sortD, DL.wx_listS, DL.wx_sortS, DL.wx_popAt, DL.wpop_ol, DL.wx_peek, DL.wx_pickB, List.set_cons_zero, List.set_cons_succ, List.getElem?_cons_zero, List.getElem?_cons_succ, Option.bind_some, Option.map_some, List.nil_append, List.cons_append, List.append_nil, List.map_cons, List.map_nil, and_true, true_and, reduceIte, Bool.false_eq_true, Bool.not_true, Bool.not_false])
namespace DL
open PySem PySem.Spec L2
open PyProof.Rows hiding St
open PySem.W (dataLe dataLt alike)
/-! DL75: the mixing of a word's falling row -/
theorem ab_row {l : Wd} : ∀ (r : List Wd), (∀ c ∈ r, Lst c) → (∀ c ∈ r, ¬ c < l) → Ab r.flatten l
  | [], _, _ => fun k hk => by simp at hk
  | c :: r, h1, h2 => fun k hk => by
    have ih := ab_row r (fun x hx => h1 x (List.mem_cons_of_mem _ hx)) fun x hx => h2 x (List.mem_cons_of_mem _ hx)
    have hc := h1 c List.mem_cons_self
    show ¬ (c ++ r.flatten).drop k < l
    by_cases hkc : k < c.length
    · rw [List.drop_append_of_le_length (by omega)]
      have a1 : ¬ c.drop k < c := by
        by_cases k0 : k = 0
        · rw [k0]; exact lt_irr _
        · exact lt_asy (hc.2 k (by omega) hkc)
      have a2 : ¬ c.drop k < l := nlt_tra a1 (h2 c List.mem_cons_self)
      intro z
      by_cases e : r.flatten = []
      · rw [e, List.append_nil] at z; exact a2 z
      · exact a2 (lt_tra (pre_lt _ e) z)
    · have hl : (c ++ r.flatten).length = c.length + r.flatten.length := List.length_append
      have hk2 : k < (c ++ r.flatten).length := hk
      have e : (c ++ r.flatten).drop k = r.flatten.drop (k - c.length) := by
        rw [List.drop_append, List.drop_eq_nil_of_le (by omega), List.nil_append]
      rw [e]
      exact ih _ (by omega)
theorem row_cnt {l : Wd} (hl : l ≠ []) : ∀ (n : Nat) (r : List Wd), r.length ≤ n → (∀ c ∈ r, Lst c) → (∀ c ∈ r, ¬ c < l) → (r.Pairwise fun a b => ¬ a < b) → cntQ (laidL r.flatten l) (r.flatten ++ l) = ((1 + r.count l : Nat) : Rat)
  | n, [], _, _, _, _ => by
    show cntQ (laidL [] l) l = _
    rw [laid_nilL]
    simp [cntQ]
  | 0, _ :: _, h, _, _, _ => by simp at h
  | n + 1, c0 :: r0, h, h1, h2, h3 => by
    obtain ⟨r, c, e⟩ := snoc_of (l := c0 :: r0) (by simp)
    rw [e] at h h1 h2 h3 ⊢
    clear e
    have hp := List.pairwise_append.mp h3
    have ab := ab_row _ h1 h2
    rw [lay_often ab hl]
    have ef : (r ++ [c]).flatten = r.flatten ++ c := by simp
    by_cases hc : c = l
    · subst hc
      have hs : c.isSuffixOf (r ++ [c]).flatten = true := by
        rw [List.isSuffixOf_iff_suffix]
        exact ⟨r.flatten, ef.symm⟩
      rw [if_pos hs, ef, List.length_append, Nat.add_sub_cancel, List.take_left, row_cnt hl n r (by simp at h; omega) (fun x hx => h1 x (List.mem_append_left _ hx)) (fun x hx => h2 x (List.mem_append_left _ hx)) hp.1, List.count_append]
      simp
      grind
    · have hlt : l < c := by
        rcases lt_tri l c with z | z | z
        · exact z
        · exact absurd z.symm hc
        · exact absurd z (h2 c (by simp))
      have abc : Ab (r ++ [c]).flatten c := ab_row _ h1 fun x hx => by
        rcases List.mem_append.mp hx with z | z
        · exact hp.2.2 x z c (by simp)
        · rw [List.mem_singleton.mp z]; exact lt_irr _
      have hs : ¬ l.isSuffixOf (r ++ [c]).flatten = true := fun z => by
        obtain ⟨a, ea⟩ := List.isSuffixOf_iff_suffix.mp z
        have := abc a.length (by
          have := congrArg List.length ea
          rw [List.length_append] at this
          have : 0 < l.length := List.length_pos_iff.mpr hl
          omega)
        rw [← ea, List.drop_left] at this
        exact this hlt
      have h0 : (r ++ [c]).count l = 0 := by
        rw [List.count_eq_zero]
        intro z
        rcases List.mem_append.mp z with z | z
        · exact hp.2.2 l z c (by simp) hlt
        · exact hc (List.mem_singleton.mp z).symm
      rw [if_neg hs, h0]
      simp
      exact Rat.add_zero 1
/-- u is the greatest word, weighed one -/
structure Tp (u : Wd) (f : Wd → Rat) : Prop where
  le : ∀ v, f v ≠ 0 → v.length = u.length ∧ ¬ u < v
  one : f u = 1
theorem sum_ne0 {α : Type} {f : α → Rat} : ∀ {l : List α}, (l.map f).sum ≠ 0 → ∃ x ∈ l, f x ≠ 0
  | [], h => absurd rfl h
  | a :: l, h => by
    by_cases z : f a = 0
    · rw [List.map_cons, List.sum_cons, z, Rat.zero_add] at h
      obtain ⟨x, hx, h2⟩ := sum_ne0 h
      exact ⟨x, List.mem_cons_of_mem _ hx, h2⟩
    · exact ⟨a, List.mem_cons_self, z⟩
theorem Tp.lay {u l : Wd} {f : Wd → Rat} (h : Tp u f) (ab : Ab u l) :
    (∀ x, sh f (one1 l 1) x ≠ 0 → x.length = u.length + l.length ∧ ¬ u ++ l < x) ∧ sh f (one1 l 1) (u ++ l) = cntQ (laidL u l) (u ++ l) := by
  have hx : ∀ p, f p ≠ 0 → ∀ x ∈ laidL p l, ¬ u ++ l < x ∧ (p ≠ u → x ≠ u ++ l) := fun p hp x hx => by
    obtain ⟨h1, h2⟩ := h.le p hp
    rcases lt_tri p u with z | z | z
    · obtain ⟨y, hy, hxy⟩ := lay_mono _ _ l x h1 z hx
      have := lay_top u ab hy
      refine ⟨fun q => this (lt_tra q hxy), fun _ e => this (by rw [← e]; exact hxy)⟩
    · rw [z] at hx
      exact ⟨lay_top u ab hx, fun q => absurd z q⟩
    · exact absurd z h2
  constructor
  · intro x hne
    rw [sh_unsh] at hne
    obtain ⟨⟨p, q⟩, hp, hq⟩ := sum_ne0 hne
    simp only at hq
    have f0 : f p ≠ 0 := fun z => hq (by rw [z, Rat.zero_mul])
    have ql : q = l := Classical.byContradiction fun z => hq (by rw [show one1 l 1 q = (0 : Rat) from if_neg z, Rat.mul_zero])
    subst ql
    have := unsh_mem x hp
    exact ⟨by rw [laidL_len _ _ _ this, (h.le p f0).1], (hx p f0 x this).1⟩
  · rw [cnt_laid, sh_unsh, sh_unsh]
    congr 1
    refine List.map_congr_left fun ⟨p, q⟩ hp => ?_
    simp only
    by_cases ql : q = l
    · subst ql
      have hm := unsh_mem _ hp
      by_cases z : p = u
      · rw [z, h.one, show one1 u 1 u = (1 : Rat) from if_pos rfl]
      · rw [show one1 u 1 p = (0 : Rat) from if_neg z]
        have : f p = 0 := Classical.byContradiction fun y => (hx p y _ hm).2 z rfl
        rw [this]
    · rw [show one1 l 1 q = (0 : Rat) from if_neg ql, Rat.mul_zero, Rat.mul_zero]
/-- what one more least word makes of it -/
noncomputable def mxS (d : List Wd) (f : Wd → Rat) (u : Wd) : Wd → Rat := fun w => trn 6 (sh f (one1 u 1)) w * (1 / ((1 + d.count u : Nat) : Rat))
noncomputable def mxF (f : Wd → Rat) : List Wd → List Wd → Wd → Rat
  | _, [] => f
  | d, u :: q => mxF (mxS d f u) (d ++ [u]) q
theorem inv_mul {n : Nat} (h : n ≠ 0) : ((n : Nat) : Rat) * (1 / (n : Rat)) = 1 := by
  have : ((n : Nat) : Rat) ≠ 0 := by exact_mod_cast h
  grind
theorem Tp.step {l : Wd} {d : List Wd} {f : Wd → Rat} (h : Tp d.flatten f) (hd : ∀ x ∈ d, Lst x) (hf : (d ++ [l]).Pairwise fun a b => ¬ a < b) (hl : l ≠ []) (h6 : (d.flatten ++ l).length ≤ 6) : Tp (d.flatten ++ l) (mxS d f l) := by
  have hp := List.pairwise_append.mp hf
  have hle : ∀ x ∈ d, ¬ x < l := fun x hx => hp.2.2 x hx l (by simp)
  obtain ⟨h1, h2⟩ := h.lay (ab_row d hd hle)
  refine ⟨fun v hv => ?_, ?_⟩
  · have hs : trn 6 (sh f (one1 l 1)) v ≠ 0 := fun z => hv (by unfold mxS; rw [z, Rat.zero_mul])
    have hs2 : sh f (one1 l 1) v ≠ 0 := fun z => hs (by unfold trn; rw [z]; split <;> rfl)
    obtain ⟨a, b⟩ := h1 v hs2
    exact ⟨by rw [a, List.length_append], b⟩
  · unfold mxS trn
    rw [if_pos (by omega), h2, row_cnt hl _ d (Nat.le_refl _) hd hle hp.1]
    exact inv_mul (by omega)
noncomputable def g_scaledO : S → Out :=
  gRet (mIf (mTru (mOp dNe (mOp dIx (mVar 1) (mC (.int 0))) (mC (.int 0)))) (oLc (mUn dSeq (mVar 0)) (tTupT (tConss (tName 2) (tConss (tName 3) tNils)) 2) (M.ret true) (mTup (mCons (mVar 2) (mCons (mF (oCall f_times [] (mCons (mVar 3) (mCons (mVar 1) mNil)))) mNil))) [2, 3]) (oLst mNil))
noncomputable def f_scaledO : S → Res SV := fnR 4 g_scaledO
noncomputable def g_mixing_so : S → Out :=
  gSeq (gSetO 1 (oCallW f_bare_one [] [] mNil mNil))
  (gSeq (gSet 2 (mC (.str "")))
  (gSeq (gSet 3 (mC (.int 1)))
  (gSeq (gFor (mUn dSeq (mF (oCall f_falling_of [] (mCons (mVar 0) mNil)))) (tName 4) (gSeq (gSet 3 (mIf (mTru (mOp dEq (mVar 4) (mVar 2))) (mOp dAdd (mVar 3) (mC (.int 1))) (mC (.int 1))))
  (gSeq (gSetO 1 (oCall f_scaledO [] (mCons (mF (oCallW f_mixed [0, 1, 2] [.int (6)] (mCons (mVar 1) (mCons (mLst (mCons (mTup (mCons (mVar 4) (mCons (mC (.tuple [.int 1, .int 1])) mNil))) mNil)) mNil)) mNil)) (mCons (mF (oCall f_over [] (mCons (mC (.tuple [.int 1, .int 1])) (mCons (mTup (mCons (mVar 3) (mCons (mC (.int 1)) mNil))) mNil)))) mNil))))
  (gSet 2 (mVar 4)))))
  (gRet (oMove 1)))))
noncomputable def f_mixing_so : S → Res SV := fnR 5 g_mixing_so
noncomputable def g_mixing_of : S → Out :=
  gSeq (gDrop (mF (oCall f_need_word [] (mCons (mVar 0) mNil))))
  (gRet (oCall f_mixing_so [] (mCons (mVar 0) mNil)))
noncomputable def f_mixing_of : S → Res SV := fnR 1 g_mixing_of
noncomputable def gl_mixing : S → Out :=
  gSeq (gSet 1 (mLst (mCons (mTup (mCons (mC (.str "")) (mCons (mTup (mCons (mC (.int 1)) (mCons (mC (.int 1)) mNil))) mNil))) mNil)))
  (gSeq (gSet 2 (mF (oCall fl_split [] (mCons (mVar 0) mNil))))
  (gSeq (gFor (mUn dRng1 (mUn dLen (mCons (mVar 2) mNil))) (tName 3) (gSeq (gSet 4 (mUn dLen (mCons (mF (oLc (mUn dSeq (mF (oSl (mVar 2) mNoP (mP (mOp dAdd (mVar 3) (mC (.int 1))))))) (tName 5) (mTru (mOp dEq (mVar 5) (mOp dIx (mVar 2) (mVar 3)))) (mVar 5) [5])) mNil)))
  (gSet 1 (mF (oCall fl_often [] (mCons (mF (oCall fl_mix [] (mCons (mVar 1) (mCons (mLst (mCons (mTup (mCons (mOp dIx (mVar 2) (mVar 3)) (mCons (mTup (mCons (mC (.int 1)) (mCons (mC (.int 1)) mNil))) mNil))) mNil)) (mCons (mC (.int 6)) mNil))))) (mCons (mTup (mCons (mC (.int 1)) (mCons (mVar 4) mNil))) mNil)))))))
  (gRet (oD (mVar 1)))))
noncomputable def fl_mixing : S → Res SV := fnR 6 gl_mixing

theorem Tp.unit : Tp [] (one1 [] 1) := ⟨fun v hv => by
  have : v = [] := Classical.byContradiction fun z => hv (if_neg z)
  rw [this]
  exact ⟨rfl, lt_irr _⟩, rfl⟩
/-- the greatest word stands last -/
theorem Tp.last {w : Wd} {c : Tb} (hc : IsSum c) (h : Tp w (wt c)) : ∃ c', c = c' ++ [(w, 1)] := by
  have hm : (w, (1 : Rat)) ∈ c := (hc.mem _).mpr ⟨(by decide : (1 : Rat) ≠ 0), h.one⟩
  obtain ⟨s, t, rfl⟩ := List.append_of_mem hm
  refine ⟨s, ?_⟩
  cases t with
  | nil => rfl
  | cons p t =>
    exfalso
    have hp := List.pairwise_map.mp hc.up
    have h1 := (List.pairwise_append.mp hp).2.1
    have h2 : wlt w p.1 = true := (List.pairwise_cons.mp h1).1 p (by simp)
    have hpm : p ∈ s ++ (w, (1 : Rat)) :: p :: t := by simp
    have h3 := h.le p.1 (by rw [wt_mem hc.nd hpm]; exact hc.nz p hpm)
    have h4 := of_decide_eq_true h2
    rcases h4 with z | z
    · omega
    · exact h3.2 z.2
end DL
set_option Elab.async false
set_option linter.all false
set_option maxRecDepth 100000
set_option maxHeartbeats 4000000
namespace DL
open PySem PySem.Spec L2
open PyProof.Rows hiding St
open Evl (Ex ex_l ex_t ex_rd)
/-! DL76: a def handed in as a value, and called -/
section
variable {X : Cx} {CX : CXT} {k i : Nat} {f : Addr} {fd : FuncData} {ps : List Str} {sp : L2.Sp} {dvs : List V} {ds : List Value} {E : St → XK} {x : Str} {p pos : Pos} {e : Expr} {es : List Expr} {t : TA}
def tCallLD (i : Nat) (f : Addr) (sp : L2.Sp) (dvs : List V) (E : St → XK) (t : TA) : TE := fun σ H Q => σ[i]? = some (some (.ref f)) ∧ t σ H fun vs H1 => sp (vs ++ dvs) H1 Q (E σ)
end
section
variable {X : Cx} {T : List (Addr × Str)} {B : Addr} {W : WX} {k k' n : Nat} {f : S → Res SV} {x y : Str} {p p2 pos kpos npos : Pos} {e : Expr} {es : List Expr} {dds : List D} {fa : M (List D)}
/-- y(e, ..), y a name that holds the def g -/
noncomputable def oCallV (i : Nat) (g : Str) (f : S → Res SV) (dds : List D) (fa : M (List D)) : M SV := fun s => match s[i]? with
  | some (.fv x) => if x = g then oCall f dds fa s else .bad
  | _ => .bad
/-- f(e, y=g), g a def -/
def oCallF (f : S → Res SV) (g : Str) (fe : M D) : M SV := fun s => (fe s).bind fun d s1 => match f [.d d, .fv g] with
  | .ok rv _ => if rv.rf = true then .bad else .ok rv s1
  | .ex c _ => .ex c s1
  | .bad => .bad
end
section
variable {s : S} {Qv : SV → S → Prop} {X : Exc → S → Prop}
theorem wx_callV {i : Nat} {g : Str} {f : S → Res SV} {dds : List D} {fa : M (List D)} : WQ (oCallV i g f dds fa s) Qv X = WL ((s[i]?).bind fun v => match v with | .fv x => if x = g then some () else none | _ => none) fun _ => WQ (oCall f dds fa s) Qv X := by
  unfold oCallV
  cases s[i]? with
  | none => rfl
  | some v =>
    cases v with
    | fv x =>
      show WQ (if x = g then _ else _) Qv X = WL (if x = g then some () else none) _
      by_cases h : x = g
      · rw [if_pos h, if_pos h]; rfl
      · rw [if_neg h, if_neg h]; rfl
    | _ => rfl
theorem fv_same {g : Str} : (if g = g then some () else none) = some () := if_pos rfl
theorem wx_callF {f : S → Res SV} {g : Str} {fe : M D} : WQ (oCallF f g fe s) Qv X = WQ (fe s) (fun d s1 => WF (f [.d d, .fv g]) (fun v _ => Qv v s1) (fun c _ => X c s1)) X := by
  unfold oCallF
  rw [wx_bind]
  refine wx_ext fun d s1 => ?_
  cases f [.d d, .fv g] with
  | ok v as =>
    show WQ (if v.rf = true then _ else _) _ _ = (v.rf = false ∧ _)
    cases v.rf with
    | true => simp [WQ]
    | false => simp [WQ]
  | ex c as => rfl
  | bad => rfl
end
end DL
set_option Elab.async false
set_option linter.all false
set_option maxRecDepth 100000
set_option maxHeartbeats 4000000
namespace DL
open PySem PySem.Spec L2
open PyProof.Rows hiding St
/-! DL77: sums told by powers: the leading words -/
/-! ### a sum by leading words -/
def sP (P : Wd → Wd → Rat) (t : Tb) (w : Wd) : Rat := (t.map fun p => p.2 * P p.1 w).sum
theorem IsSum.cons {p : Wd × Rat} {t : Tb} (h : IsSum (p :: t)) : IsSum t ∧ ∀ q ∈ t, wlt p.1 q.1 = true := by
  have hp := List.pairwise_cons.mp h.up
  refine ⟨⟨hp.2, fun q hq => h.nz q (List.mem_cons_of_mem _ hq)⟩, fun q hq => hp.1 q.1 (List.mem_map.mpr ⟨q, hq, rfl⟩)⟩
section
variable {P : Wd → Wd → Rat} (hP : ∀ u, isW u = true → Ldg u (P u))
include hP
end
end DL
set_option Elab.async false
set_option linter.all false
set_option maxRecDepth 100000
set_option maxHeartbeats 4000000
local macro_rules | `(tactic| walk_at "run") => `(tactic| try simp only [DL.wo_seq, DL.wo_nil, DL.wo_set, DL.wo_setO, DL.wo_ret, DL.wo_if, DL.wo_drop, DL.wo_asg, DL.wo_par, DL.wo_aug, DL.wo_for, DL.wo_raise, DL.wo_app, DL.wo_setIx, DL.wo_nx, DL.wo_rt, DL.wo_bk, DL.wo_ct, DL.wo_ex, DL.wx_ok, DL.wx_ex, DL.wx_op, DL.wx_un, DL.wx_C, DL.wx_ret, DL.wx_var, DL.wx_nil, DL.wx_cons, DL.wx_tru, DL.wx_not, DL.wx_and, DL.wx_or, DL.wx_andV, DL.wx_orV, DL.wx_notV, DL.wx_if, DL.wx_chain, DL.wx_tup, DL.wx_lst, DL.wx_olst, DL.wx_oD, DL.wx_F, DL.wx_list, DL.wx_nop, DL.wx_p, DL.wx_sl, DL.wx_call, DL.wx_callW, DL.wx_callR, DL.wx_pix, DL.wx_plen, DL.wx_din, DL.wx_dget2, DL.wx_move, DL.wx_why, DL.wl_some, DL.wf_okD, DL.wf_okL, DL.wf_okM, DL.wf_okT, DL.wf_ex, DL.wv_d, DL.wv_ol, DL.wv_od, DL.wv_fd, DL.wb_t, DL.wb_f, DL.wt_b, DL.wh_d, DL.wh_ol, DL.wh_od, DL.wh_fd, DL.wm_d, DL.wm_ol, DL.wm_od, DL.wm_fd, DL.dat_d, DL.dat_ol, DL.dat_od, DL.dat_fd, DL.d_add, DL.d_sub, DL.d_lt, DL.d_le, DL.d_gt, DL.d_ge, DL.d_tru, DL.d_eqInt, DL.d_neg, DL.tg_name, DL.tg_tup2, DL.tg_tup3, DL.ixv_l, DL.ixv_t, DL.ixv_s, DL.ixv_dd, DL.ixv_ol, DL.ixv_od, DL.ixv_fd, DL.ix_t0, DL.ix_t1, DL.ix_t2, DL.ix_l0, DL.ix_l1, DL.ix_l2, DL.d_asB, DL.d_ok0, DL.d_ok1, DL.d_ok2, DL.d_ok3, DL.d_ok4, DL.key_s, DL.key_i, DL.len_ol, DL.len_l, DL.len_t, DL.it_l, DL.it_t, DL.seq_l, DL.seq_t, DL.tru_i, DL.tru_l, DL.tru_n, DL.lk_od, DL.lk_odi, DL.isD_od, DL.isD_fd, DL.isD_d, DL.if_tt, DL.pick_nil, DL.pick_cons, DL.wl_addS, DL.wl_lenS, DL.seq_S, DL.tg_eP, DL.wl_mod, DL.wl_mulI, DL.wl_divI, DL.it_S, DL.wl_powI, DL.wl_rng1, DL.wl_rng2, DL.wx_callB, DL.wx_eqB, DL.wo_clear, DL.wx_pop, DL.wbr_d, DL.tg_list2, DL.tg_list3, DL.wx_dictR, DL.rest_nil, DL.rest_cons, DL.rst_d, DL.rst_un, DL.wx_cat, DL.wl_cat, DL.wx_disp1, DL.key_W, DL.wx_minS, DL.wipe_nil, DL.wipe_cons, DL.wx_rep, DL.wl_catS, DL.wrep_ol, DL.wx_sortD, DL.wx_callV, DL.wx_callF, DL.fv_same, DL.wm_fv, DL.wm_sp, DL.wx_listS, DL.wx_sortS, DL.wx_popAt, DL.wpop_ol, DL.wx_peek, DL.wx_pickB, List.set_cons_zero, List.set_cons_succ, List.getElem?_cons_zero, List.getElem?_cons_succ, Option.bind_some, Option.map_some, List.nil_append, List.cons_append, List.append_nil, List.map_cons, List.map_nil, and_true, true_and, reduceIte, Bool.false_eq_true, Bool.not_true, Bool.not_false])
namespace DL
open PySem PySem.Spec L2
open PyProof.Rows hiding St
open PySem.W (dataLe dataLt alike)
/-! DL78: to_powers, from_powers -/
noncomputable def g_put_back : S → Out :=
  gSeq (gSetO 2 (oLst mNil))
  (gSeq (gFor (mUn dSeq (mVar 0)) (tTupT (tConss (tName 3) (tConss (tName 4) tNils)) 2) (gSetO 2 (oCallB 2 f_added [] (mCons (mF (oCall f_scaled [] (mCons (mF (oCallV 1 "power_so" f_power_so [] (mCons (mVar 3) mNil))) (mCons (mVar 4) mNil)))) mNil))))
  (gRet (oMove 2)))
noncomputable def f_put_back : S → Res SV := fnR 5 g_put_back
noncomputable def g_from_powers : S → Out :=
  gRet (oCallF f_put_back "power_so" (mVar 0))
noncomputable def f_from_powers : S → Res SV := fnR 1 g_from_powers
noncomputable def g_to_powers : S → Out :=
  gSeq (gSetO 1 (oLst mNil))
  (gSeq (gSet 2 (mVar 0))
  (gSeq (gWhile (mTru (mOp dNe (mVar 2) (mLst mNil))) (gSeq (gAsg (mOp dIx (mVar 2) (mC (.int 0))) (tTupT (tConss (tName 3) (tConss (tName 4) tNils)) 2))
  (gSeq (gApp 1 (mTup (mCons (mVar 3) (mCons (mVar 4) mNil))))
  (gSet 2 (mF (oCall f_taken [] (mCons (mVar 2) (mCons (mF (oCall f_scaled [] (mCons (mF (oCall f_power_so [] (mCons (mVar 3) mNil))) (mCons (mVar 4) mNil)))) mNil))))))))
  (gRet (oMove 1))))
noncomputable def f_to_powers : S → Res SV := fnR 5 g_to_powers
noncomputable def gl_words : S → Out :=
  gSeq (gSet 2 (mLst (mCons (mC (.str "")) mNil)))
  (gSeq (gFor (mUn dRng1 (mVar 1)) (tName 3) (gSeq (gSet 4 (mLst mNil))
  (gSeq (gFor (mUn dSeq (mVar 2)) (tName 5) (gSet 4 (mF (oCat (mVar 4) (mF (oLc (mUn dSeq (mF (oSl (mC (.str "abcd")) mNoP (mP (mVar 0))))) (tName 6) (M.ret true) (mOp dAdd (mVar 5) (mVar 6)) [6]))))))
  (gSet 2 (mVar 4)))))
  (gRet (oD (mVar 2))))
noncomputable def fl_words : S → Res SV := fnR 7 gl_words
noncomputable def gl_least_words : S → Out :=
  gRet (oLc (mUn dSeq (mF (oCall fl_words [] (mCons (mVar 0) (mCons (mVar 1) mNil))))) (tName 2) (mTru (mF (oCall fl_least [] (mCons (mVar 2) mNil)))) (mVar 2) [2])
noncomputable def fl_least_words : S → Res SV := fnR 3 gl_least_words
noncomputable def gl_lie_rows : S → Out :=
  gSeq (gSetO 4 (fun s => .ok (.od false [] []) s))
  (gSeq (gFor (mUn dRng1 (mF (oCallR 0 f_draw [] (mCons (mOp dAdd (mVar 3) (mC (.int 1))) mNil)))) (tName 5) (gSeq (gSet 6 (mF (oCall fl_least_words [] (mCons (mVar 1) (mCons (mOp dAdd (mC (.int 1)) (mF (oCallR 0 f_draw [] (mCons (mVar 2) mNil)))) mNil)))))
  (gIf (mTru (mOp dNe (mVar 6) (mLst mNil))) (gDrop (mF (oCallR 4 fl_put [] (mCons (mF (oCallR 0 fl_of [] (mCons (mVar 6) mNil))) (mCons (mF (oCallR 0 fl_tame [] mNil)) mNil))))) gNil)))
  (gRet (oCall fl_rows [] (mCons (mVar 4) mNil))))
noncomputable def fl_lie_rows : S → Res SV := fnR 7 gl_lie_rows
noncomputable def gl_unfold : S → Out :=
  gSeq (gSet 1 (mLst mNil))
  (gSeq (gFor (mUn dSeq (mVar 0)) (tTupT (tConss (tName 2) (tConss (tName 3) tNils)) 2) (gSet 1 (mF (oCall fl_more [] (mCons (mVar 1) (mCons (mF (oCall (fl_open_tree 8) [] (mCons (mF (oCall (fl_tree 8) [] (mCons (mVar 2) mNil))) mNil))) (mCons (mVar 3) mNil)))))))
  (gRet (oD (mVar 1))))
noncomputable def fl_unfold : S → Res SV := fnR 4 gl_unfold
noncomputable def gl_of_powers : S → Out :=
  gSeq (gSetO 1 (oLst mNil))
  (gSeq (gFor (mUn dSeq (mVar 0)) (tTupT (tConss (tName 2) (tConss (tName 3) tNils)) 2) (gSetO 1 (oCallB 1 fl_more [] (mCons (mF (oCall fl_power [] (mCons (mVar 2) mNil))) (mCons (mVar 3) mNil)))))
  (gRet (oMove 1)))
noncomputable def fl_of_powers : S → Res SV := fnR 4 gl_of_powers
noncomputable def powT (u : Wd) : Tb := if h : isW u = true then Classical.choose (power_R h) else []
noncomputable def pwW (u : Wd) : Wd → Rat := wt (powT u)
end DL
set_option Elab.async false
set_option linter.all false
set_option maxRecDepth 100000
set_option maxHeartbeats 4000000
namespace DL
open PySem PySem.Spec L2
open PyProof.Rows hiding St
open PySem.W (dataLe dataLt alike)
/-! DL79: all words, least ones, bracket rows drawn, unfolded -/
def abc (m : Nat) : Wd := [97, 98, 99, 100].take m
def wordsL (m : Nat) : Nat → List Wd
  | 0 => [[]]
  | n + 1 => (wordsL m n).flatMap fun h => (abc m).map fun c => h ++ [c]
theorem abc_len {m : Nat} (h : m ≤ 4) : (abc m).length = m := by unfold abc; rw [List.length_take]; simp; omega
theorem abc_isL {m : Nat} : ∀ c ∈ abc m, c ∈ [97, 98, 99, 100] := fun c hc => List.mem_of_mem_take hc
theorem wordsL_len {m : Nat} (h : m ≤ 4) : ∀ n, (wordsL m n).length = m ^ n
  | 0 => rfl
  | n + 1 => by
    show ((wordsL m n).flatMap _).length = _
    rw [List.length_flatMap]
    have e : (wordsL m n).map (fun h => ((abc m).map fun c => h ++ [c]).length) = (wordsL m n).map fun _ => m := List.map_congr_left fun x _ => by rw [List.length_map, abc_len h]
    rw [e, List.map_const', List.sum_replicate_nat, wordsL_len h n, Nat.pow_succ]
theorem wordsL_mem {m : Nat} : ∀ n, ∀ w ∈ wordsL m n, isL w = true ∧ w.length = n
  | 0, w, hw => by
    rw [List.mem_singleton.mp hw]
    exact ⟨rfl, rfl⟩
  | n + 1, w, hw => by
    obtain ⟨h, hh, h2⟩ := List.mem_flatMap.mp hw
    obtain ⟨c, hc, rfl⟩ := List.mem_map.mp h2
    obtain ⟨i1, i2⟩ := wordsL_mem n h hh
    have hcm := abc_isL c hc
    refine ⟨?_, by rw [List.length_append, i2]; rfl⟩
    unfold isL at *
    rw [List.all_append, i1]
    simpa using hcm
theorem words_R {m n : Nat} (hm : m ≤ 4) (hn : n ≤ 6) : fl_words [.d (.int m), .d (.int n)] = .ok (.d (.list ((wordsL m n).map eW))) [.un, .un] := by
  refine fn_gives (ds := [.int m, .int n]) ?_
  show WO (gl_words [.d (.int m), .d (.int n), .un, .un, .un, .un, .un]) _ _ _ _ _
  unfold gl_words
  have lm : (5000 : Nat) ≤ lim := by decide
  have pw : ∀ i, i ≤ 6 → (wordsL m i).length ≤ 4096 := fun i hi => by
    rw [wordsL_len hm]
    exact Nat.le_trans (Nat.pow_le_pow_left hm i) (Nat.le_trans (Nat.pow_le_pow_right (by decide) hi) (by decide))
  walk_at "run"
  refine ⟨decide_eq_true (by omega), ?_⟩
  rw [show ((n : Nat) : Int).toNat = n from rfl]
  have e0 : PyData.list [.str ""] = .list ((wordsL m 0).map eW) := by kernel_rfl
  rw [e0]
  refine wo_range (fun i s => ∃ x3 x4 x5, s = [.d (.int m), .d (.int n), .d (.list ((wordsL m i).map eW)), x3, x4, x5, .un]) ⟨_, _, _, rfl⟩ (fun i s hi ⟨x3, x4, x5, e⟩ => ?_) fun s ⟨x3, x4, x5, e⟩ => ?_
  · subst e
    walk_at "run"
    have hi6 : i + 1 ≤ 6 := by omega
    refine wo_loop (enc := eW) (fun r s => ∃ done x5, s = [.d (.int m), .d (.int n), .d (.list ((wordsL m i).map eW)), .d (.int (0 + (i : Int))), .d (.list ((done.flatMap fun h => (abc m).map fun c => h ++ [c]).map eW)), x5, .un] ∧ done ++ r = wordsL m i) (wordsL m i) _ ⟨[], _, rfl, rfl⟩ ?_ ?_
    · rintro w r s ⟨done, x5, rfl, hd⟩
      have hw : w ∈ wordsL m i := by rw [← hd]; simp
      obtain ⟨wL, wl⟩ := wordsL_mem i w hw
      have hlen : (done ++ [w]).length ≤ 4096 := by
        have h1 := pw i (by omega)
        have h2 := congrArg List.length hd
        simp at h2 ⊢
        omega
      have fl : ∀ d : List Wd, (d.flatMap fun h => (abc m).map fun c => h ++ [c]).length = d.length * m := fun d => by
        rw [List.length_flatMap]
        have e : d.map (fun h => ((abc m).map fun c => h ++ [c]).length) = d.map fun _ => m := List.map_congr_left fun x _ => by rw [List.length_map, abc_len hm]
        rw [e, List.map_const', List.sum_replicate_nat]
      have tot : (done.length + 1) * m ≤ 4096 := by
        have h1 := pw (i + 1) hi6
        rw [wordsL_len hm, Nat.pow_succ] at h1
        have h2 := congrArg List.length hd
        rw [wordsL_len hm] at h2
        simp at h2
        exact Nat.le_trans (Nat.mul_le_mul_right m (by omega)) h1
      walk_at "run"
      refine wq_lc (xs := abc m) (enc := fun c => eW [c]) (h := fun c => eW (w ++ [c])) (w := [.d (.int m), .d (.int n), .d (.list ((wordsL m i).map eW)), .d (.int (0 + (i : Int))), .d (.list ((done.flatMap fun h => (abc m).map fun c => h ++ [c]).map eW)), .d (eW w), .un]) (by rw [abc_len hm]; omega) ?_ fun c hc => ?_
      · walk_at "run"
        rw [show PyData.str "abcd" = eW [97, 98, 99, 100] from congrArg PyData.str abcd, cut_pre (by decide)]
        walk_at "run"
        rw [seqW]
        walk_at "run"
        refine ⟨rfl, ?_, ?_⟩
        · rw [List.length_map, List.length_map, fl, abc_len hm]
          rw [Nat.succ_mul] at tot
          omega
        · refine ⟨done ++ [w], .d (eW w), ?_, by rw [← hd]; simp⟩
          rw [List.flatMap_append, List.map_append]
          simp
      · walk_at "run"
        rw [wl]
        simp
        omega
    · rintro s ⟨done, x5, rfl, hd⟩
      rw [List.append_nil] at hd
      subst hd
      walk_at "run"
      exact ⟨_, _, _, rfl⟩
  · subst e
    walk_at "run"
theorem leastwords_R {m n : Nat} (hm : m ≤ 4) (hn : n ≤ 6) : fl_least_words [.d (.int m), .d (.int n)] = .ok (.ol false (((wordsL m n).filter leastT).map eW)) [.un, .un] := by
  refine fn_gives (ds := [.int m, .int n]) ?_
  show WO (gl_least_words [.d (.int m), .d (.int n), .un]) _ _ _ _ _
  unfold gl_least_words
  have lm : (5000 : Nat) ≤ lim := by decide
  have pw : (wordsL m n).length ≤ 4096 := by
    rw [wordsL_len hm]
    exact Nat.le_trans (Nat.pow_le_pow_left hm n) (Nat.le_trans (Nat.pow_le_pow_right (by decide) hn) (by decide))
  walk_at "run"
  refine wq_lcf (xs := wordsL m n) (enc := eW) (p := leastT) (h := eW) (w := [.d (.int m), .d (.int n), .un]) (by omega) ?_ fun w hw => ?_
  · walk_at "run"
    refine wf_eq (words_R hm hn) rfl ?_
    walk_at "run"
  · obtain ⟨wL, wl⟩ := wordsL_mem n w hw
    walk_at "run"
    refine wf_eq (lawleast_spec w (by unfold isW; rw [wL, Bool.and_true]; exact decide_eq_true (by omega))) rfl ?_
    walk_at "run"
    split <;> trivial
/-- a drawn bracket row -/
structure LR0 (deep most : Nat) (l : Tb) : Prop where
  sum : IsSum l
  wo : ∀ p ∈ l, Lst p.1 ∧ isL p.1 = true ∧ p.1.length ≤ deep
  bd : ∀ p ∈ l, Bd 6 (30 * most) p.2
  len : l.length ≤ most
structure LT0 (deep c : Nat) (t : Tb) : Prop where
  nd : (keys t).Nodup
  wo : ∀ p ∈ t, Lst p.1 ∧ isL p.1 = true ∧ p.1.length ≤ deep
  bd : ∀ p ∈ t, Bd 6 (30 * c) p.2
  len : t.length ≤ c
theorem lookup_memW : ∀ {t : Tb} {w : Wd} {q : Rat}, t.lookup w = some q → (w, q) ∈ t
  | [], _, _, h => by cases h
  | (a, x) :: t, w, q, h => by
    rw [List.lookup_cons] at h
    split at h
    · rename_i e
      cases h
      have : w = a := by simpa using e
      rw [this]
      exact List.mem_cons_self
    · exact List.mem_cons_of_mem _ (lookup_memW h)
theorem LT0.wt {deep c : Nat} {t : Tb} (h : LT0 deep c t) (w : Wd) : Bd 6 (30 * c) (DL.wt t w) := by
  cases e : t.lookup w with
  | none =>
    have : DL.wt t w = 0 := by unfold DL.wt; rw [e]; rfl
    rw [this]
    exact Bd.zero
  | some q =>
    have hm := lookup_memW e
    have : DL.wt t w = q := wt_mem h.nd hm
    rw [this]
    exact h.bd _ hm
theorem LT0.put {deep c : Nat} {t : Tb} (h : LT0 deep c t) {w : Wd} {q : Rat} (hw : Lst w ∧ isL w = true ∧ w.length ≤ deep) (hq : Bd 6 30 q) : LT0 deep (c + 1) (aput t w (DL.wt t w + q)) := by
  refine ⟨nodup_aput h.nd, fun p hp => ?_, fun p hp => ?_, Nat.le_trans (len_aput t w _) (Nat.succ_le_succ h.len)⟩
  · rcases aput_mem hp with z | z
    · exact h.wo p z
    · rw [z]; exact hw
  · rcases aput_mem hp with z | z
    · exact (h.bd p z).mono (by omega)
    · rw [z]
      exact ((h.wt w).add hq).mono (by omega)
theorem LR0.sm {deep most : Nat} {l : Tb} (h : LR0 deep most l) (hd : deep ≤ 6) (hm : most ≤ 100) : SM 12 most l := by
  refine ⟨h.sum, h.len, 6, 30 * most, by decide, by decide, by omega, fun p hp => ⟨(h.wo p hp).2.1, by have := (h.wo p hp).2.2; omega⟩, h.bd⟩
/-! ### unfolding -/
noncomputable def opT (u : Wd) : Tb := @dite _ (isW u = true ∧ Lst u) (Classical.propDecidable _) (fun h => Classical.choose (openedleast_R h.1 h.2)) fun _ => []
end DL
set_option Elab.async false
set_option linter.all false
set_option maxRecDepth 100000
set_option maxHeartbeats 4000000
namespace DL
open PySem PySem.Spec L2
open PyProof.Rows hiding St
open Evl (Ex ex_l ex_t ex_rd)
/-! DL80: list(x), x a name that holds an own list -/
section
variable {X : Cx} {T : List (Addr × Str)} {B : Addr} {W : WX}
def oListB (i : Nat) : M SV := fun s => match s[i]? with
  | some (.ol _ xs) => .ok (.ol false xs) s
  | some (.d a) => (match items a with
    | some xs => .ok (.ol false xs) s
    | none => .bad)
  | _ => .bad
end
section
variable {s : S} {Qv : SV → S → Prop} {X : Exc → S → Prop}
theorem wx_listB {i : Nat} : WQ (oListB i s) Qv X = WL ((s[i]?).bind fun z => match z with | .ol _ xs => some xs | .d a => items a | _ => none) fun xs => Qv (.ol false xs) s := by
  unfold oListB
  cases s[i]? with
  | none => rfl
  | some z =>
    cases z with
    | d a =>
      show WQ (match items a with | some xs => _ | none => _) _ _ = WL (items a) _
      cases items a <;> rfl
    | _ => rfl
end
end DL
set_option Elab.async false
set_option linter.all false
set_option maxRecDepth 100000
set_option maxHeartbeats 4000000
namespace DL
open PySem PySem.Spec L2
open PyProof.Rows hiding St
open Evl (Ex ex_l ex_t ex_rd)
/-! DL81: own objects: attributes, methods, making -/
def putFD (f : Str) (d : D) : List (Str × D) → List (Str × D)
  | [] => [(f, d)]
  | (g, x) :: r => if g = f then (g, d) :: r else (g, x) :: putFD f d r
section
variable {K : PySem.W.Frag} {G : Hp}
end
section
variable {X : Cx} {T : List (Addr × Str)} {B : Addr} {W : WX}
/-- x.f -/
def mFld (i : Nat) (c f : Str) : M D := fun s => match s[i]? with
  | some (.sp _ (.ob c' fs)) => if c' = c then (match fs.lookup f with
    | some d => .ok d s
    | none => .bad) else .bad
  | _ => .bad
/-- x.f = e -/
def gFld (i : Nat) (c f : Str) (fe : M D) : S → Out := fun s => if hasV i s = true then (fe s).out (fun d s1 => match s1[i]? with
  | some (.sp r (.ob c' fs)) => if c' = c ∧ fs.length < 900 then .nx (s1.set i (.sp r (.ob c (putFD f d fs)))) else .bad
  | _ => .bad) else .bad
end
/-! ### methods -/
/-- a method, called with so many, the rest by defaults -/
structure FnM (P : Program) (w : World) (K : PySem.W.Frag) (mg : Str → Option Value) (base : Heap) (k n : Nat) (c m : Str) (f : S → Res SV) (dds : List D) : Prop where
  ex : ∃ (fd : FuncData) (ps : List Str) (dvs : List V) (ds : List Value), FnOk P w K mg base (L2.CX P w) k (He.ma K (He.ga K c) m) fd ps (spF K mg n f) ∧ Binds K fd ps ds ∧ Vals dvs ds ∧ ∀ G, RpA K G dvs dds
  cls : Cls K (He.ga K c)
  me : Meth K (He.ga K c) m (He.ma K (He.ga K c) m)
section
variable {X : Cx} {CX : CXT} {k : Nat} {f C : Addr} {fd : FuncData} {ps : List Str} {sp : L2.Sp} {dvs : List V} {ds : List Value} {E : St → XK} {m : Str} {pos apos : Pos} {e o : Expr} {es : List Expr} {ta : TE} {t : TA}
def tMethD (C : Addr) (m : Str) (sp : L2.Sp) (dvs : List V) (E : St → XK) (ta : TE) (t : TA) : TE := fun σ H Q => ta σ H fun x H1 => ∃ a dx fs, x = .ref a ∧ H1 a = some (.ins C dx fs) ∧ fs.lookup m = none ∧
  t σ H1 fun vs H2 => sp (x :: (vs ++ dvs)) H2 Q (E σ)
end
section
variable {X : Cx} {T : List (Addr × Str)} {B : Addr} {W : WX} {k k' n : Nat} {f : S → Res SV} {c m y : Str} {p pos apos : Pos} {e : Expr} {es : List Expr} {dds : List D} {fa : M (List D)}
/-- y.m(..), y an own object of the class c -/
noncomputable def oMeth (i : Nat) (c m : Str) (f : S → Res SV) (dds : List D) (fa : M (List D)) : M SV := fun s => match s[i]? with
  | some (.sp _ (.ob c' fs)) => if c' = c ∧ fs.lookup m = none then oCallR i f dds fa s else .bad
  | _ => .bad
end
/-! ### making -/
/-- a class: its __init__ -/
structure FnI (P : Program) (w : World) (K : PySem.W.Frag) (mg : Str → Option Value) (base : Heap) (k n : Nat) (c : Str) (f : S → Res SV) (dds : List D) : Prop where
  ex : ∃ (fd : FuncData) (ps : List Str) (dvs : List V) (ds : List Value), FnOk P w K mg base (L2.CX P w) k (He.ma K (He.ga K c) "__init__") fd ps (spF K mg n f) ∧ Binds K fd ps ds ∧ Vals dvs ds ∧ ∀ G, RpA K G dvs dds
  mr : Mk K (He.ga K c) (He.ma K (He.ga K c) "__init__")
  hm : mg c = some (.ref (He.ga K c))
section
variable {X : Cx} {CX : CXT} {k : Nat} {f C : Addr} {fd : FuncData} {ps : List Str} {sp : L2.Sp} {dvs : List V} {ds : List Value} {E : St → XK} {x : Str} {p pos : Pos} {e : Expr} {es : List Expr} {t : TA}
def tMakeD (C : Addr) (sp : L2.Sp) (dvs : List V) (E : St → XK) (t : TA) : TE := fun σ H Q => t σ H fun vs H1 => ∀ x dx, H1 x = none → H1 dx = none → dx ≠ x →
  sp (.ref x :: (vs ++ dvs)) (upd (upd H1 dx (.own x)) x (.ins C dx [])) (fun v H2 => v = .non ∧ Q (.ref x) H2) (E σ)
end
section
variable {X : Cx} {T : List (Addr × Str)} {B : Addr} {W : WX} {k k' n : Nat} {f : S → Res SV} {c : Str} {p pos : Pos} {e : Expr} {es : List Expr} {dds : List D} {fa : M (List D)}
/-- c(..) -/
def oMake (c : Str) (f : S → Res SV) (dds : List D) (fa : M (List D)) : M SV := fun s => (fa s).bind fun ds s1 => match f (.sp true (.ob c []) :: (ds ++ dds).map .d) with
  | .ok (.d .none) (.sp true (.ob c' fs) :: _) => .ok (.sp false (.ob c' fs)) s1
  | .ex x _ => .ex x s1
  | _ => .bad
theorem IS.made {K : PySem.W.Frag} {F G H : Hp} {σ : St} {s : S} (I : IS K T B F G H σ s) {x dx : Addr} (c : Str) (hx : H x = none) (hd : H dx = none) (ne : dx ≠ x) : IS K T B F G (upd (upd H dx (.own x)) x (.ins (He.ga K c) dx [])) (some (.ref x) :: σ) (.sp false (.ob c []) :: s) := by
  have J := I.loose (u := .own x) hd
  have hx2 : upd H dx (.own x) x = none := by rw [upd_ne (fun z => ne z.symm)]; exact hx
  refine J.newO hx2 ⟨x, _, _, rfl, (fun z => nomatch z), upd_same, ⟨dx, [], rfl, rfl, rfl, .nil⟩, J.freshG hx2, J.freshF hx2, fun z hz => ?_⟩
  rw [List.mem_singleton.mp hz]
  exact ⟨by rw [upd_ne ne, upd_same], rfl, I.freshG hd, fun q => nomatch q⟩
end
end DL
set_option Elab.async false
set_option linter.all false
set_option maxRecDepth 100000
set_option maxHeartbeats 4000000
namespace DL
open PySem PySem.Spec L2
open PyProof.Rows hiding St
open Evl (Ex ex_l ex_t ex_rd)
/-! DL82: text that is not reached, try that nothing is raised in; reckoning with objects -/
section
variable {X : Cx} {T : List (Addr × Str)} {B : Addr} {W : WX}
/-- nothing is told -/
def gBad : S → Out := fun _ => .bad
def mBad : M D := fun _ => .bad
/-- try: body, nothing is raised in it -/
def gTryB (g : S → Out) : S → Out := fun s => match g s with
  | .ex _ _ => .bad
  | r => r
end
section
variable {s : S} {Qd : D → S → Prop} {Qv : SV → S → Prop} {N : S → Prop} {R : SV → S → Prop} {B C : S → Prop} {X : Exc → S → Prop}
theorem wx_fld {i : Nat} {c f : Str} : WQ (mFld i c f s) Qd X = WL ((s[i]?).bind fun z => match z with | .sp _ (.ob c' fs) => if c' = c then fs.lookup f else none | _ => none) fun d => Qd d s := by
  unfold mFld
  cases s[i]? with
  | none => rfl
  | some z =>
    cases z with
    | sp r z =>
      cases z with
      | ob c' fs =>
        show WQ (if c' = c then _ else _) Qd X = WL (if c' = c then _ else _) _
        by_cases h : c' = c
        · rw [if_pos h, if_pos h]
          cases fs.lookup f <;> rfl
        · rw [if_neg h, if_neg h]
          rfl
      | nl k xss => rfl
    | _ => rfl
def WFl (z : Option SV) (c f : Str) (d : D) (k : SV → Prop) (_ : Kt k := ⟨⟩) : Prop := match z with
  | some (.sp r (.ob c' fs)) => (c' = c ∧ fs.length < 900) ∧ k (.sp r (.ob c (putFD f d fs)))
  | _ => False
theorem wo_fld {i : Nat} {c f : Str} {fe : M D} : WO (gFld i c f fe s) N R B C X = WH (s[i]?) (fun _ => WQ (fe s) (fun d s1 => WFl (s1[i]?) c f d fun z => N (s1.set i z)) X) := by
  unfold gFld
  rw [has_wo]
  refine wh_ext ?_
  rw [wo_out]
  refine wx_ext fun d s1 => ?_
  cases s1[i]? with
  | none => rfl
  | some z =>
    cases z with
    | sp r z =>
      cases z with
      | ob c' fs =>
        show WO (if _ then _ else _) _ _ _ _ _ = (_ ∧ _)
        by_cases h : c' = c ∧ fs.length < 900
        · rw [if_pos h]
          simp [h, WO]
        · rw [if_neg h]
          simp [h, WO]
      | nl k xss => rfl
    | _ => rfl
theorem wfl_ob {r : Bool} {c f : Str} {fs : List (Str × D)} {d : D} {k : SV → Prop} : WFl (some (.sp r (.ob c fs))) c f d k = (fs.length < 900 ∧ k (.sp r (.ob c (putFD f d fs)))) := by
  unfold WFl
  simp
theorem wx_meth {i : Nat} {c m : Str} {f : S → Res SV} {dds : List D} {fa : M (List D)} : WQ (oMeth i c m f dds fa s) Qv X = WL ((s[i]?).bind fun z => match z with | .sp _ (.ob c' fs) => if c' = c ∧ fs.lookup m = none then some () else none | _ => none) fun _ => WQ (oCallR i f dds fa s) Qv X := by
  unfold oMeth
  cases s[i]? with
  | none => rfl
  | some z =>
    cases z with
    | sp r z =>
      cases z with
      | ob c' fs =>
        show WQ (if _ then _ else _) Qv X = WL (if _ then _ else _) _
        by_cases h : c' = c ∧ fs.lookup m = none
        · rw [if_pos h, if_pos h]; rfl
        · rw [if_neg h, if_neg h]; rfl
      | nl k xss => rfl
    | _ => rfl
/-- what making gives -/
def WMk (r : Res SV) (k : Str → List (Str × D) → Prop) (x : Exc → Prop) (_ : Kt (k, x) := ⟨⟩) : Prop := match r with
  | .ok (.d .none) (.sp true (.ob c fs) :: _) => k c fs
  | .ex c _ => x c
  | _ => False
theorem wx_make {c : Str} {f : S → Res SV} {dds : List D} {fa : M (List D)} : WQ (oMake c f dds fa s) Qv X = WQ (fa s) (fun ds s1 => WMk (f (.sp true (.ob c []) :: (ds ++ dds).map .d)) (fun c' fs => Qv (.sp false (.ob c' fs)) s1) (fun e => X e s1)) X := by
  unfold oMake
  rw [wx_bind]
  refine wx_ext fun ds s1 => ?_
  generalize f (.sp true (.ob c []) :: (ds ++ dds).map .d) = r
  cases r with
  | bad => rfl
  | ex c t => rfl
  | ok v t =>
    cases v with
    | d x =>
      cases x with
      | none =>
        cases t with
        | nil => rfl
        | cons y ys =>
          cases y with
          | sp b z => cases b <;> cases z <;> rfl
          | _ => rfl
      | _ => rfl
    | _ => rfl
theorem wo_tryB {g : S → Out} : WO (gTryB g s) N R B C X = WO (g s) N R B C (fun _ _ => False) := by
  unfold gTryB
  cases g s <;> rfl
end
end DL
set_option Elab.async false
set_option linter.all false
set_option maxRecDepth 100000
set_option maxHeartbeats 4000000
namespace DL
open PySem PySem.Spec L2
open PyProof.Rows hiding St
open Evl (Ex ex_l ex_t ex_rd)
/-! DL83: what the head tells of classes; methods' defaults -/
section
variable {fa : List He.Fa} {fn : List He.DefD} {tf : List He.Defn} {ex : PySem.W.Frag → Bool} {w : World} {K : PySem.W.Frag} {mg : Str → Option Value}
theorem Fc.cls (c : Fc fa fn tf ex w K mg) (i : Nat) {x : Str} (h : fa[i]? = some (.cls x) := by rfl) : Cls K (He.ga K x) := by
  obtain ⟨hp, X, G, s⟩ := c.h
  exact He.cls_ok (s.t.d.fact i h)
end
end DL
set_option Elab.async false
set_option linter.all false
set_option maxRecDepth 100000
set_option maxHeartbeats 4000000
namespace DL
open PySem PySem.Spec L2
open PyProof.Rows hiding St
/-! DL84: reckoning with the attributes of a Folding -/
section
variable {r : Bool} {z : Bx} {k : Unit → Prop} {a b d : D}
theorem wh_sp : WH (some (.sp r z)) k = k () := rfl
theorem wh_fv {x : Str} : WH (some (.fv x)) k = k () := rfl
theorem fo_rest : (if ("Folding" : Str) = "Folding" then List.lookup ("rest" : Str) [(("rest" : Str), a), (("done" : Str), b)] else none) = some a := by kernel_rfl
theorem fo_done : (if ("Folding" : Str) = "Folding" then List.lookup ("done" : Str) [(("rest" : Str), a), (("done" : Str), b)] else none) = some b := by kernel_rfl
theorem fo_step : (if ("Folding" : Str) = "Folding" ∧ List.lookup ("step" : Str) [(("rest" : Str), a), (("done" : Str), b)] = none then some () else none) = some () := if_pos ⟨rfl, by kernel_rfl⟩
theorem fo_run : (if ("Folding" : Str) = "Folding" ∧ List.lookup ("run" : Str) [(("rest" : Str), a), (("done" : Str), b)] = none then some () else none) = some () := if_pos ⟨rfl, by kernel_rfl⟩
theorem fo_told : (if ("Folding" : Str) = "Folding" ∧ List.lookup ("told" : Str) [(("rest" : Str), a), (("done" : Str), b)] = none then some () else none) = some () := if_pos ⟨rfl, by kernel_rfl⟩
theorem fo_back : (if ("Folding" : Str) = "Folding" ∧ List.lookup ("back" : Str) [(("rest" : Str), a), (("done" : Str), b)] = none then some () else none) = some () := if_pos ⟨rfl, by kernel_rfl⟩
theorem fo_left : (if ("Folding" : Str) = "Folding" ∧ List.lookup ("left" : Str) [(("rest" : Str), a), (("done" : Str), b)] = none then some () else none) = some () := if_pos ⟨rfl, by kernel_rfl⟩
theorem fk_rest : List.lookup ("rest" : Str) [(("rest" : Str), a), (("done" : Str), b)] = some a := by kernel_rfl
theorem fk_done : List.lookup ("done" : Str) [(("rest" : Str), a), (("done" : Str), b)] = some b := by kernel_rfl
theorem fk_step : List.lookup ("step" : Str) [(("rest" : Str), a), (("done" : Str), b)] = none := by kernel_rfl
theorem fk_run : List.lookup ("run" : Str) [(("rest" : Str), a), (("done" : Str), b)] = none := by kernel_rfl
theorem fk_told : List.lookup ("told" : Str) [(("rest" : Str), a), (("done" : Str), b)] = none := by kernel_rfl
theorem fk_back : List.lookup ("back" : Str) [(("rest" : Str), a), (("done" : Str), b)] = none := by kernel_rfl
theorem fk_left : List.lookup ("left" : Str) [(("rest" : Str), a), (("done" : Str), b)] = none := by kernel_rfl
theorem fp_rest0 : putFD "rest" d [] = [(("rest" : Str), d)] := rfl
theorem fp_done1 : putFD "done" d [(("rest" : Str), a)] = [(("rest" : Str), a), (("done" : Str), d)] := by kernel_rfl
theorem fp_rest : putFD "rest" d [(("rest" : Str), a), (("done" : Str), b)] = [(("rest" : Str), d), (("done" : Str), b)] := by kernel_rfl
theorem fp_done : putFD "done" d [(("rest" : Str), a), (("done" : Str), b)] = [(("rest" : Str), a), (("done" : Str), d)] := by kernel_rfl
theorem fl_0 : ([] : List (Str × D)).length < 900 := by decide
theorem fl_1 : [(("rest" : Str), a)].length < 900 := by show 1 < 900; decide
theorem fl_2 : [(("rest" : Str), a), (("done" : Str), b)].length < 900 := by show 2 < 900; decide
end
end DL
set_option Elab.async false
set_option linter.all false
set_option maxRecDepth 100000
set_option maxHeartbeats 4000000
local macro_rules | `(tactic| walk_at "run") => `(tactic| try simp only [DL.wo_seq, DL.wo_nil, DL.wo_set, DL.wo_setO, DL.wo_ret, DL.wo_if, DL.wo_drop, DL.wo_asg, DL.wo_par, DL.wo_aug, DL.wo_for, DL.wo_raise, DL.wo_app, DL.wo_setIx, DL.wo_nx, DL.wo_rt, DL.wo_bk, DL.wo_ct, DL.wo_ex, DL.wx_ok, DL.wx_ex, DL.wx_op, DL.wx_un, DL.wx_C, DL.wx_ret, DL.wx_var, DL.wx_nil, DL.wx_cons, DL.wx_tru, DL.wx_not, DL.wx_and, DL.wx_or, DL.wx_andV, DL.wx_orV, DL.wx_notV, DL.wx_if, DL.wx_chain, DL.wx_tup, DL.wx_lst, DL.wx_olst, DL.wx_oD, DL.wx_F, DL.wx_list, DL.wx_nop, DL.wx_p, DL.wx_sl, DL.wx_call, DL.wx_callW, DL.wx_callR, DL.wx_pix, DL.wx_plen, DL.wx_din, DL.wx_dget2, DL.wx_move, DL.wx_why, DL.wl_some, DL.wf_okD, DL.wf_okL, DL.wf_okM, DL.wf_okT, DL.wf_ex, DL.wv_d, DL.wv_ol, DL.wv_od, DL.wv_fd, DL.wb_t, DL.wb_f, DL.wt_b, DL.wh_d, DL.wh_ol, DL.wh_od, DL.wh_fd, DL.wm_d, DL.wm_ol, DL.wm_od, DL.wm_fd, DL.dat_d, DL.dat_ol, DL.dat_od, DL.dat_fd, DL.d_add, DL.d_sub, DL.d_lt, DL.d_le, DL.d_gt, DL.d_ge, DL.d_tru, DL.d_eqInt, DL.d_neg, DL.tg_name, DL.tg_tup2, DL.tg_tup3, DL.ixv_l, DL.ixv_t, DL.ixv_s, DL.ixv_dd, DL.ixv_ol, DL.ixv_od, DL.ixv_fd, DL.ix_t0, DL.ix_t1, DL.ix_t2, DL.ix_l0, DL.ix_l1, DL.ix_l2, DL.d_asB, DL.d_ok0, DL.d_ok1, DL.d_ok2, DL.d_ok3, DL.d_ok4, DL.key_s, DL.key_i, DL.len_ol, DL.len_l, DL.len_t, DL.it_l, DL.it_t, DL.seq_l, DL.seq_t, DL.tru_i, DL.tru_l, DL.tru_n, DL.lk_od, DL.lk_odi, DL.isD_od, DL.isD_fd, DL.isD_d, DL.if_tt, DL.pick_nil, DL.pick_cons, DL.wl_addS, DL.wl_lenS, DL.seq_S, DL.tg_eP, DL.wl_mod, DL.wl_mulI, DL.wl_divI, DL.it_S, DL.wl_powI, DL.wl_rng1, DL.wl_rng2, DL.wx_callB, DL.wx_eqB, DL.wo_clear, DL.wx_pop, DL.wbr_d, DL.tg_list2, DL.tg_list3, DL.wx_dictR, DL.rest_nil, DL.rest_cons, DL.rst_d, DL.rst_un, DL.wx_cat, DL.wl_cat, DL.wx_disp1, DL.key_W, DL.wx_minS, DL.wipe_nil, DL.wipe_cons, DL.wx_rep, DL.wl_catS, DL.wrep_ol, DL.wx_sortD, DL.wx_callV, DL.wx_fld, DL.wh_sp, DL.wh_fv, DL.fo_rest, DL.fk_rest, DL.fk_done, DL.fk_step, DL.fk_run, DL.fk_told, DL.fk_back, DL.fk_left, DL.fo_done, DL.fo_step, DL.fo_run, DL.fo_told, DL.fo_back, DL.fo_left, DL.fp_rest0, DL.fp_done1, DL.fp_rest, DL.fp_done, DL.fl_0, DL.fl_1, DL.fl_2, DL.wo_fld, DL.wfl_ob, DL.wx_meth, DL.wx_make, DL.wo_tryB, DL.wx_listB, DL.wx_callF, DL.fv_same, DL.wm_fv, DL.wm_sp, DL.wx_listS, DL.wx_sortS, DL.wx_popAt, DL.wpop_ol, DL.wx_peek, DL.wx_pickB, List.set_cons_zero, List.set_cons_succ, List.getElem?_cons_zero, List.getElem?_cons_succ, Option.bind_some, Option.map_some, List.nil_append, List.cons_append, List.append_nil, List.map_cons, List.map_nil, and_true, true_and, reduceIte, Bool.false_eq_true, Bool.not_true, Bool.not_false])
namespace DL
open PySem PySem.Spec L2
open PyProof.Rows hiding St
open PySem.W (dataLe dataLt alike)
/-! DL85: bracket rows unfolded and folded -/
noncomputable def g_unfolded : S → Out :=
  gSeq (gSetO 1 (oLst mNil))
  (gSeq (gFor (mUn dSeq (mVar 0)) (tTupT (tConss (tName 2) (tConss (tName 3) tNils)) 2) (gSetO 1 (oCallB 1 f_added [] (mCons (mF (oCall f_scaled [] (mCons (mF (oCall f_opened_least [] (mCons (mVar 2) mNil))) (mCons (mVar 3) mNil)))) mNil))))
  (gRet (oMove 1)))
noncomputable def f_unfolded : S → Res SV := fnR 4 g_unfolded
noncomputable def g_Folding___init__ : S → Out :=
  gSeq (gFld 0 "Folding" "rest" (mF (oList (mVar 1))))
  (gFld 0 "Folding" "done" (mLst mNil))
noncomputable def f_Folding___init__ : S → Res SV := fnR 2 g_Folding___init__
def tp_Stuck : Tpl := [("at", .inr 0), ("word", .inl "stuck")]
noncomputable def g_Folding_step : S → Out :=
  gSeq (gIf (mTru (mOp dEq (mFld 0 "Folding" "rest") (mLst mNil))) (gRet (oD (mC .none))) gNil)
  (gSeq (gAsg (mOp dIx (mFld 0 "Folding" "rest") (mC (.int 0))) (tTupT (tConss (tName 1) (tConss (tName 2) tNils)) 2))
  (gSeq (gIf (mNot (mTru (mF (oCall f_least_so [] (mCons (mVar 1) mNil))))) (gRaise "Stuck" 1 tp_Stuck (mCons (mVar 1) mNil)) gNil)
  (gSeq (gFld 0 "Folding" "rest" (mF (oCall f_taken [] (mCons (mFld 0 "Folding" "rest") (mCons (mF (oCall f_scaled [] (mCons (mF (oCall f_opened_least [] (mCons (mVar 1) mNil))) (mCons (mVar 2) mNil)))) mNil)))))
  (gSeq (gFld 0 "Folding" "done" (mF (oCat (mFld 0 "Folding" "done") (mLst (mCons (mTup (mCons (mVar 1) (mCons (mVar 2) mNil))) mNil)))))
  (gRet (oD (mTup (mCons (mVar 1) (mCons (mVar 2) mNil)))))))))
noncomputable def f_Folding_step : S → Res SV := fnR 3 g_Folding_step
noncomputable def g_Folding_run : S → Out :=
  gSeq (gSet 2 (mC (.int 0)))
  (gSeq (gWhile (mAnd (mTru (mOp dNe (mFld 0 "Folding" "rest") (mLst mNil))) (mOr (mTru (mOp dIsN (mVar 1) (mC .none))) (mTru (mOp dLt (mVar 2) (mVar 1))))) (gSeq (gDrop (mF (oMeth 0 "Folding" "step" f_Folding_step [] mNil)))
  (gAug 2 dAddI (mC (.int 1)))))
  (gRet (oD (mVar 2))))
noncomputable def f_Folding_run : S → Res SV := fnR 3 g_Folding_run
noncomputable def g_Folding_told : S → Out :=
  gRet (oList (mFld 0 "Folding" "done"))
noncomputable def f_Folding_told : S → Res SV := fnR 1 g_Folding_told
noncomputable def g_folded : S → Out :=
  gSeq (gSetO 1 (oMake "Folding" f_Folding___init__ [] (mCons (mVar 0) mNil)))
  (gSeq (gTryB (gDrop (mF (oMeth 1 "Folding" "run" f_Folding_run [.none] mNil))))
  (gRet (oMeth 1 "Folding" "told" f_Folding_told [] mNil)))
noncomputable def f_folded : S → Res SV := fnR 4 g_folded
def obF (rest done : D) : Bx := .ob "Folding" [("rest", rest), ("done", done)]
end DL
set_option Elab.async false
set_option linter.all false
set_option maxRecDepth 100000
set_option maxHeartbeats 4000000
namespace DL
open PySem PySem.Spec L2
open PyProof.Rows hiding St
/-! DL86: rows added, by what they come to -/
section
variable {P : Wd → Wd → Rat}
end
end DL
set_option Elab.async false
set_option linter.all false
set_option maxRecDepth 100000
set_option maxHeartbeats 4000000
namespace DL
open PySem PySem.Spec L2
open PyProof.Rows hiding St
open Evl (Ex ex_l ex_t ex_rd)
/-! DL87: methods and makers called with keywords -/
/-- values and keywords' values in the parameters' order -/
def mKw (ix : List Nat) (dds : List D) (fa fk : M (List D)) : M (List D) := fun s => (fa s).bind fun ds s1 => (fk s1).bind fun zs s2 => .ok (pickL ix (ds ++ zs ++ dds)) s2
structure FnMW (P : Program) (w : World) (K : PySem.W.Frag) (mg : Str → Option Value) (base : Heap) (k n : Nat) (c m : Str) (f : S → Res SV) (a : Nat) (ks : List Str) (ix : List Nat) (dds : List D) : Prop where
  ex : ∃ (fd : FuncData) (ps : List Str) (dvs : List V) (ds : List Value), FnOk P w K mg base (L2.CX P w) k (He.ma K (He.ga K c) m) fd ps (spF K mg n f) ∧ KBd K fd ps (a + 1) ks ds (0 :: ix.map (· + 1)) ∧ Vals dvs ds ∧ ∀ G, RpA K G dvs dds
  cls : Cls K (He.ga K c)
  me : Meth K (He.ga K c) m (He.ma K (He.ga K c) m)
  hl : (ix.all fun i => decide (i < a + ks.length + dds.length)) = true ∧ ix.length + 1 = n
section
variable {X : Cx} {CX : CXT} {k a : Nat} {f C : Addr} {fd : FuncData} {ps ks : List Str} {sp : L2.Sp} {dvs : List V} {ds : List Value} {E : St → XK} {m : Str} {pos apos : Pos} {e o : Expr} {es : List Expr} {kws : List Keyword} {ix : List Nat} {ta : TE} {t tk : TA}
def tMethK (C : Addr) (m : Str) (a n : Nat) (sp : L2.Sp) (ix : List Nat) (dvs : List V) (E : St → XK) (ta : TE) (t tk : TA) : TE := fun σ H Q => ta σ H fun x H1 => ∃ p dx fs, x = .ref p ∧ H1 p = some (.ins C dx fs) ∧ fs.lookup m = none ∧
  t σ H1 fun vs H2 => tk σ H2 fun zs H3 => vs.length = a ∧ zs.length = n ∧ sp (x :: pickL ix (vs ++ zs ++ dvs)) H3 Q (E σ)
end
section
variable {X : Cx} {T : List (Addr × Str)} {B : Addr} {W : WX} {k k' n a : Nat} {f : S → Res SV} {c m y : Str} {p pos apos : Pos} {e : Expr} {es : List Expr} {kws : List Keyword} {ks : List Str} {ix : List Nat} {dds : List D} {fa fk : M (List D)}
end
section
variable {s : S} {Q : List D → S → Prop} {X : Exc → S → Prop}
theorem wx_kwL {ix : List Nat} {dds : List D} {fa fk : M (List D)} : WQ (mKw ix dds fa fk s) Q X = WQ (fa s) (fun ds s1 => WQ (fk s1) (fun zs s2 => Q (pickL ix (ds ++ zs ++ dds)) s2) X) X := by
  unfold mKw
  rw [wx_bind]
  refine wx_ext fun ds s1 => ?_
  rw [wx_bind]
  refine wx_ext fun zs s2 => ?_
  rfl
end
end DL
set_option Elab.async false
set_option linter.all false
set_option maxRecDepth 100000
set_option maxHeartbeats 4000000
namespace DL
open PySem PySem.Spec L2
open PyProof.Rows hiding St
open Evl (Ex ex_l ex_t ex_rd)
/-! DL88: makers called with keywords -/
structure FnIW (P : Program) (w : World) (K : PySem.W.Frag) (mg : Str → Option Value) (base : Heap) (k n : Nat) (c : Str) (f : S → Res SV) (a : Nat) (ks : List Str) (ix : List Nat) (dds : List D) : Prop where
  ex : ∃ (fd : FuncData) (ps : List Str) (dvs : List V) (ds : List Value), FnOk P w K mg base (L2.CX P w) k (He.ma K (He.ga K c) "__init__") fd ps (spF K mg n f) ∧ KBd K fd ps (a + 1) ks ds (0 :: ix.map (· + 1)) ∧ Vals dvs ds ∧ ∀ G, RpA K G dvs dds
  mr : Mk K (He.ga K c) (He.ma K (He.ga K c) "__init__")
  hm : mg c = some (.ref (He.ga K c))
  hl : (ix.all fun i => decide (i < a + ks.length + dds.length)) = true ∧ ix.length + 1 = n
section
variable {X : Cx} {CX : CXT} {k a : Nat} {f C : Addr} {fd : FuncData} {ps ks : List Str} {sp : L2.Sp} {dvs : List V} {ds : List Value} {E : St → XK} {x : Str} {p pos : Pos} {e : Expr} {es : List Expr} {kws : List Keyword} {ix : List Nat} {t tk : TA}
def tMakeW (C : Addr) (a n : Nat) (sp : L2.Sp) (ix : List Nat) (dvs : List V) (E : St → XK) (t tk : TA) : TE := fun σ H Q => t σ H fun vs H1 => tk σ H1 fun zs H2 => vs.length = a ∧ zs.length = n ∧ ∀ x dx, H2 x = none → H2 dx = none → dx ≠ x →
  sp (.ref x :: pickL ix (vs ++ zs ++ dvs)) (upd (upd H2 dx (.own x)) x (.ins C dx [])) (fun v H3 => v = .non ∧ Q (.ref x) H3) (E σ)
end
section
variable {X : Cx} {T : List (Addr × Str)} {B : Addr} {W : WX} {k k' n a : Nat} {f : S → Res SV} {c : Str} {p pos : Pos} {e : Expr} {es : List Expr} {kws : List Keyword} {ks : List Str} {ix : List Nat} {dds : List D} {fa fk : M (List D)}
end
end DL
set_option Elab.async false
set_option linter.all false
set_option maxRecDepth 100000
set_option maxHeartbeats 4000000
namespace DL
open PySem PySem.Spec L2
open PyProof.Rows hiding St
/-! DL89: the first word of a sum that weighs no mixing is least -/
end DL
set_option Elab.async false
set_option linter.all false
set_option maxRecDepth 100000
set_option maxHeartbeats 4000000
namespace DL
open PySem PySem.Spec L2
open PyProof.Rows hiding St
open PySem.W
/-! DL90: a, *b, c = a list -/
section
variable {prog : Program} {w : World} {A : Around} {E : Value → Shared → Prop} {s : Shared}
end
section
variable {X : Cx} {pos : Pos}
def gStarL (K : PySem.W.Frag) (n i : Nat) (t : TGs) : TG := fun v σ H Q => ∃ a xs, v = .ref a ∧ SqL K H a xs ∧ n ≤ xs.length + 1 ∧ xs.length ≤ 16384 ∧
  ∀ p, H p = none → t (xs.take i ++ [.ref p] ++ (xs.drop i).drop (xs.length + 1 - n)) σ (upd H p (.lst ((xs.drop i).take (xs.length + 1 - n)))) Q
end
end DL
set_option Elab.async false
set_option linter.all false
set_option maxRecDepth 100000
set_option maxHeartbeats 4000000
namespace DL
open PySem PySem.Spec L2
open PyProof.Rows hiding St
open Evl (Ex ex_l ex_t ex_rd)
/-! DL91: targets with a star -/
section
variable {X : Cx} {T : List (Addr × Str)} {B : Addr} {W : WX}
/-- a, *b, c = e: e a list -/
def gStar (n i : Nat) (f : M D) (r : List D → S → Option S) : S → Out := fun s => (f s).out fun d s1 => match d with
  | .list xs => if n ≤ xs.length + 1 ∧ xs.length ≤ 16000 then (match r (xs.take i ++ [.list ((xs.drop i).take (xs.length + 1 - n))] ++ (xs.drop i).drop (xs.length + 1 - n)) s1 with
    | some s2 => .nx s2
    | none => .bad) else .bad
  | _ => .bad
end
end DL
set_option Elab.async false
set_option linter.all false
set_option maxRecDepth 100000
set_option maxHeartbeats 4000000
namespace DL
open PySem PySem.Spec L2
open PyProof.Rows hiding St
/-! DL92: reckoning with star targets -/
section
variable {s : S} {N : S → Prop} {R : SV → S → Prop} {B C : S → Prop} {X : Exc → S → Prop}
def WSt (d : D) (n i : Nat) (r : List D → S → Option S) (s1 : S) (k : S → Prop) (_ : Kt k := ⟨⟩) : Prop := match d with
  | .list xs => (n ≤ xs.length + 1 ∧ xs.length ≤ 16000) ∧ WL (r (xs.take i ++ [.list ((xs.drop i).take (xs.length + 1 - n))] ++ (xs.drop i).drop (xs.length + 1 - n)) s1) k
  | _ => False
theorem wo_star {n i : Nat} {f : M D} {r : List D → S → Option S} : WO (gStar n i f r s) N R B C X = WQ (f s) (fun d s1 => WSt d n i r s1 N) X := by
  unfold gStar
  rw [wo_out]
  refine wx_ext fun d s1 => ?_
  cases d with
  | list xs =>
    show WO (if _ then _ else _) _ _ _ _ _ = (_ ∧ _)
    by_cases h : n ≤ xs.length + 1 ∧ xs.length ≤ 16000
    · rw [if_pos h]
      cases r (xs.take i ++ [.list ((xs.drop i).take (xs.length + 1 - n))] ++ (xs.drop i).drop (xs.length + 1 - n)) s1 with
      | none => simp [h, WO, WL]
      | some s2 => simp [h, WO, WL]
    · rw [if_neg h]
      simp [h, WO]
  | _ => rfl
theorem wst_l {xs : List D} {n i : Nat} {r : List D → S → Option S} {s1 : S} {k : S → Prop} : WSt (.list xs) n i r s1 k = ((n ≤ xs.length + 1 ∧ xs.length ≤ 16000) ∧ WL (r (xs.take i ++ [.list ((xs.drop i).take (xs.length + 1 - n))] ++ (xs.drop i).drop (xs.length + 1 - n)) s1) k) := rfl
end
end DL
set_option Elab.async false
set_option linter.all false
set_option maxRecDepth 100000
set_option maxHeartbeats 4000000
namespace DL
section
open PySem PySem.Calls PyProof.Rows PyProof.V PySem.Spec PySem.W
/-! DL93: dict != dict of alike ones, dict(x) of a dict -/
variable {prog : Program} {w : World} {κ : Type} [DecidableEq κ] {knd : PySem.KeyKind prog w κ} {A : Around} {E : Value → Shared → Prop} {s : Shared}
end
open PySem PySem.Spec L2
open PyProof.Rows hiding St
open Evl (Ex ex_l ex_t ex_rd)
section
variable {X : Cx} {T : List (Addr × Str)} {B : Addr} {W : WX}
def rNeDD (K : PySem.W.Frag) : R2 := fun x y H Q => ∃ a b oa ob ks ls, x = .ref a ∧ y = .ref b ∧ H a = some (.frz oa (.dK ks)) ∧ H b = some (.frz ob (.dK ls)) ∧ ks.length = ls.length ∧ (∀ p ∈ ks, ∃ u, valV ls p.1 = some u ∧ ∃ d, Dp K H p.2 d ∧ Dp K H u d ∧ SeqAt.shaped d = true) ∧ Q (.bl false) H
/-! ### in the layer -/
open Classical in
/-- x != y, two dicts that are one in data -/
noncomputable def dNeT (x y : D) : Option D := match x with
  | .dict kvs => if x = y ∧ kindD kvs = false ∧ (kvs.map (·.1)).Nodup ∧ ∀ p ∈ kvs, SeqAt.shaped p.2 = true then some (.bool false) else none
  | _ => none
def keysK (kvs : List (D × D)) : Option (List Key) := kvs.mapM fun p => keyD p.1
def oDictD (f : M D) : M SV := mUn (fun d => match d with
  | .dict kvs => if kindD kvs = false then (keysK kvs).map fun ks => .od false ks (kvs.map (·.2)) else none
  | _ => none) f
/-! ### reckoning -/
theorem wx_dictD {s : S} {Q : SV → S → Prop} {Xx : Exc → S → Prop} {f : M D} : WQ (oDictD f s) Q Xx = WQ (f s) (fun d s1 => WL (match d with
  | .dict kvs => if kindD kvs = false then (keysK kvs).map fun ks => SV.od false ks (kvs.map (·.2)) else none
  | _ => none) fun v => Q v s1) Xx := wx_un
end
end DL
set_option Elab.async false
set_option linter.all false
set_option maxRecDepth 100000
set_option maxHeartbeats 4000000
local macro_rules | `(tactic| walk_at "run") => `(tactic| try simp only [DL.wo_seq, DL.wo_nil, DL.wo_set, DL.wo_setO, DL.wo_ret, DL.wo_if, DL.wo_drop, DL.wo_asg, DL.wo_par, DL.wo_aug, DL.wo_for, DL.wo_raise, DL.wo_app, DL.wo_setIx, DL.wo_nx, DL.wo_rt, DL.wo_bk, DL.wo_ct, DL.wo_ex, DL.wx_ok, DL.wx_ex, DL.wx_op, DL.wx_un, DL.wx_C, DL.wx_ret, DL.wx_var, DL.wx_nil, DL.wx_cons, DL.wx_tru, DL.wx_not, DL.wx_and, DL.wx_or, DL.wx_andV, DL.wx_orV, DL.wx_notV, DL.wx_if, DL.wx_chain, DL.wx_tup, DL.wx_lst, DL.wx_olst, DL.wx_oD, DL.wx_F, DL.wx_list, DL.wx_nop, DL.wx_p, DL.wx_sl, DL.wx_call, DL.wx_callW, DL.wx_callR, DL.wx_pix, DL.wx_plen, DL.wx_din, DL.wx_dget2, DL.wx_move, DL.wx_why, DL.wl_some, DL.wf_okD, DL.wf_okL, DL.wf_okM, DL.wf_okT, DL.wf_ex, DL.wv_d, DL.wv_ol, DL.wv_od, DL.wv_fd, DL.wb_t, DL.wb_f, DL.wt_b, DL.wh_d, DL.wh_ol, DL.wh_od, DL.wh_fd, DL.wm_d, DL.wm_ol, DL.wm_od, DL.wm_fd, DL.dat_d, DL.dat_ol, DL.dat_od, DL.dat_fd, DL.d_add, DL.d_sub, DL.d_lt, DL.d_le, DL.d_gt, DL.d_ge, DL.d_tru, DL.d_eqInt, DL.d_neg, DL.tg_name, DL.tg_tup2, DL.tg_tup3, DL.ixv_l, DL.ixv_t, DL.ixv_s, DL.ixv_dd, DL.ixv_ol, DL.ixv_od, DL.ixv_fd, DL.ix_t0, DL.ix_t1, DL.ix_t2, DL.ix_l0, DL.ix_l1, DL.ix_l2, DL.d_asB, DL.d_ok0, DL.d_ok1, DL.d_ok2, DL.d_ok3, DL.d_ok4, DL.key_s, DL.key_i, DL.len_ol, DL.len_l, DL.len_t, DL.it_l, DL.it_t, DL.seq_l, DL.seq_t, DL.tru_i, DL.tru_l, DL.tru_n, DL.lk_od, DL.lk_odi, DL.isD_od, DL.isD_fd, DL.isD_d, DL.if_tt, DL.pick_nil, DL.pick_cons, DL.wl_addS, DL.wl_lenS, DL.seq_S, DL.tg_eP, DL.wl_mod, DL.wl_mulI, DL.wl_divI, DL.it_S, DL.wl_powI, DL.wl_rng1, DL.wl_rng2, DL.wx_callB, DL.wx_eqB, DL.wo_clear, DL.wx_pop, DL.wbr_d, DL.tg_list2, DL.tg_list3, DL.wx_dictR, DL.wx_dictD, DL.rest_nil, DL.rest_cons, DL.rst_d, DL.rst_un, DL.wx_cat, DL.wl_cat, DL.wx_disp1, DL.key_W, DL.wx_minS, DL.wipe_nil, DL.wipe_cons, DL.wx_rep, DL.wl_catS, DL.wrep_ol, DL.wx_sortD, DL.wx_callV, DL.wx_fld, DL.wo_star, DL.wst_l, DL.wx_kwL, DL.wh_sp, DL.wh_fv, DL.fo_rest, DL.fk_rest, DL.fk_done, DL.fk_step, DL.fk_run, DL.fk_told, DL.fk_back, DL.fk_left, DL.fo_done, DL.fo_step, DL.fo_run, DL.fo_told, DL.fo_back, DL.fo_left, DL.fp_rest0, DL.fp_done1, DL.fp_rest, DL.fp_done, DL.fl_0, DL.fl_1, DL.fl_2, DL.wo_fld, DL.wfl_ob, DL.wx_meth, DL.wx_make, DL.wo_tryB, DL.wx_listB, DL.wx_callF, DL.fv_same, DL.wm_fv, DL.wm_sp, DL.wx_listS, DL.wx_sortS, DL.wx_popAt, DL.wpop_ol, DL.wx_peek, DL.wx_pickB, List.set_cons_zero, List.set_cons_succ, List.getElem?_cons_zero, List.getElem?_cons_succ, Option.bind_some, Option.map_some, List.nil_append, List.cons_append, List.append_nil, List.map_cons, List.map_nil, and_true, true_and, reduceIte, Bool.false_eq_true, Bool.not_true, Bool.not_false])
namespace DL
open PySem PySem.Spec L2
open PyProof.Rows hiding St
open PySem.W (dataLe dataLt alike)
/-! DL94: tables of sums by letters; led -/
noncomputable def g_need_table : S → Out :=
  gIf (mTru (mUn dAny (mCons (mF (oLc (mUn dKeys (mVar 0)) (tName 1) (M.ret true) (mOp dNe (mF (oCall f_weight_of [] (mCons (mPix 0 (mVar 1)) (mCons (mC (.str "")) mNil)))) (mC (.tuple [.int 0, .int 1]))) [1])) mNil))) (gRaise "HasConstant" 0 tp_HasConstant mNil) gNil
noncomputable def f_need_table : S → Res SV := fnR 2 g_need_table
noncomputable def g_own : S → Out :=
  gRet (oLst (mCons (mTup (mCons (mVar 0) (mCons (mC (.tuple [.int 1, .int 1])) mNil))) mNil))
noncomputable def f_own : S → Res SV := fnR 1 g_own
noncomputable def g_led_so : S → Out :=
  gSeq (gSetO 3 (oLst mNil))
  (gSeq (gFor (mUn dSeq (mVar 0)) (tTupT (tConss (tName 4) (tConss (tName 5) tNils)) 2) (gSeq (gSet 6 (mF (oCallW f_bare_one [] [] mNil mNil)))
  (gSeq (gFor (mUn dSeq (mVar 4)) (tName 7) (gSet 6 (mF (oCallW f_joined [0, 1, 2] [] (mCons (mVar 6) (mCons (mDget2 1 (mVar 7) (mF (oCall f_own [] (mCons (mVar 7) mNil)))) mNil)) (mCons (mVar 2) mNil)))))
  (gSetO 3 (oCallB 3 f_added [] (mCons (mF (oCall f_scaled [] (mCons (mVar 6) (mCons (mVar 5) mNil)))) mNil))))))
  (gRet (oMove 3)))
noncomputable def f_led_so : S → Res SV := fnR 8 g_led_so
noncomputable def g_led : S → Out :=
  gSeq (gDrop (mF (oCallW f_need_depth [0, 1, 2] [.int (0), .int (6)] (mCons (mVar 2) mNil) mNil)))
  (gSeq (gDrop (mF (oCall f_need_table [] (mCons (mVar 1) mNil))))
  (gRet (oCall f_led_so [] (mCons (mVar 0) (mCons (mVar 1) (mCons (mVar 2) mNil))))))
noncomputable def f_led : S → Res SV := fnR 3 g_led
noncomputable def gl_table : S → Out :=
  gSeq (gSetO 3 (fun s => .ok (.od false [] []) s))
  (gSeq (gFor (mUn dSeq (mF (oSl (mC (.str "abcd")) mNoP (mP (mVar 1))))) (tName 4) (gIf (mTru (mOp dGt (mF (oCallR 0 f_draw [] (mCons (mC (.int 4)) mNil))) (mC (.int 0)))) (gSetIx 3 (mVar 4) (mF (oCallR 0 fl_bare_sum [] (mCons (mVar 1) (mCons (mC (.int 2)) (mCons (mVar 2) mNil)))))) gNil))
  (gRet (oMove 3)))
noncomputable def fl_table : S → Res SV := fnR 5 gl_table
noncomputable def gl_led : S → Out :=
  gSeq (gSet 3 (mLst mNil))
  (gSeq (gFor (mUn dSeq (mVar 0)) (tTupT (tConss (tName 4) (tConss (tName 5) tNils)) 2) (gSeq (gSet 6 (mLst (mCons (mTup (mCons (mC (.str "")) (mCons (mTup (mCons (mC (.int 1)) (mCons (mC (.int 1)) mNil))) mNil))) mNil)))
  (gSeq (gFor (mUn dSeq (mVar 4)) (tName 7) (gSet 6 (mF (oCall fl_join [] (mCons (mVar 6) (mCons (mDget2 1 (mVar 7) (mLst (mCons (mTup (mCons (mVar 7) (mCons (mTup (mCons (mC (.int 1)) (mCons (mC (.int 1)) mNil))) mNil))) mNil))) (mCons (mVar 2) mNil)))))))
  (gSet 3 (mF (oCall fl_more [] (mCons (mVar 3) (mCons (mVar 6) (mCons (mVar 5) mNil)))))))))
  (gRet (oD (mVar 3))))
noncomputable def fl_led : S → Res SV := fnR 8 gl_led

abbrev Gt := List (Wd × Tb)
def gK (l : Gt) : List Key := l.map fun p => kW p.1
def gX (l : Gt) : List D := l.map fun p => eS p.2
def gR (l : Gt) : List (D × D) := l.map fun p => (eW p.1, eS p.2)
def gD (l : Gt) : D := .dict (gR l)
def gkeys (l : Gt) : List Wd := l.map (·.1)
def gput : Gt → Wd → Tb → Gt
  | [], w, q => [(w, q)]
  | (a, p) :: r, w, q => if a = w then (a, q) :: r else (a, p) :: gput r w q
open Classical in
theorem glook_mem : ∀ {t : Gt} {w : Wd} {q : Tb}, t.lookup w = some q → (w, q) ∈ t
  | [], _, _, h => by cases h
  | (a, x) :: r, w, q, h => by
    rw [List.lookup_cons] at h
    by_cases e : w = a
    · rw [e, beq_self_eq_true] at h
      cases h
      rw [e]
      exact List.mem_cons_self
    · rw [beq_false_of_ne e] at h
      exact List.mem_cons_of_mem _ (glook_mem h)
/-! ### what comes of a table -/
def ownT (a : Wd) : Tb := [(a, 1)]
def gAt (t : Gt) (a : Wd) : Tb := (t.lookup a).getD (ownT a)
def hereF (deep : Int) (g : Wd → Wd → Rat) (f : Wd → Rat) : Wd → Wd → Rat
  | [] => f
  | a :: r => hereF deep g (trn deep (conv f (g [a]))) r
def ledS (deep : Int) (g : Wd → Wd → Rat) : Tb → Wd → Rat
  | [], _ => 0
  | p :: r, w => hereF deep g (one1 [] 1) p.1 w * p.2 + ledS deep g r w
/-- a table of small sums -/
structure GtOk (j n : Nat) (t : Gt) : Prop where
  nd : (gkeys t).Nodup
  ks : ∀ p ∈ t, isL p.1 = true ∧ p.1.length = 1
  sm : ∀ p ∈ t, SM j n p.2
theorem bools_mapF {α : Type} (f : α → Bool) : ∀ l : List α, bools (l.map fun x => PyData.bool (f x)) = some (l.map f)
  | [] => rfl
  | x :: r => by
    show (bools (r.map fun x => PyData.bool (f x))).map (f x :: ·) = _
    rw [bools_mapF f r]
    rfl
theorem any_map {α : Type} (f : α → Bool) (l : List α) : dAny [.list (l.map fun x => PyData.bool (f x))] = some (.bool (l.any f)) := by
  show (bools _).map _ = _
  rw [bools_mapF]
  simp
section
variable {j n : Nat} {t : Gt}
theorem GtOk.at (h : GtOk j n t) (hj : 1 ≤ j) (hn : 1 ≤ n) {a : Nat} (ha : isL [a] = true) : SM j n (gAt t [a]) := by
  unfold gAt
  cases e : t.lookup [a] with
  | none => exact (SM.one ha (by show 1 ≤ 400; decide) (by decide +kernel) qb1).mono hj hn
  | some q => exact h.sm _ (glook_mem e)
/-- a drawn table -/
structure GtD (most : Nat) (t : Gt) : Prop where
  nd : (gkeys t).Nodup
  ks : ∀ p ∈ t, isL p.1 = true ∧ p.1.length = 1
  ts : ∀ p ∈ t, TS0 2 most p.2
  len : t.length ≤ 4
theorem GtD.ok {most : Nat} {t : Gt} (h : GtD most t) (hm : most ≤ 4) : GtOk 7 most t := ⟨h.nd, h.ks, fun p hp => (h.ts p hp).sm hm⟩
end
end DL
set_option Elab.async false
set_option linter.all false
set_option maxRecDepth 100000
set_option maxHeartbeats 4000000
namespace DL
open PySem PySem.Spec L2
open PyProof.Rows hiding St
open PySem.W (dataLe dataLt alike)
/-! DL95: own lists of own lists -/
open Evl (Ex ex_l ex_t ex_rd)
abbrev Cl := List (Addr × HO)
def putL (H : Hp) : Cl → Hp
  | [] => H
  | c :: r => upd (putL H r) c.1 c.2
def adr (L : Cl) : List Addr := L.map (·.1)
def delL (H : Hp) (A : List Addr) : Hp := fun a => if a ∈ A then none else H a
theorem putL_out {H : Hp} : ∀ {L : Cl} {a : Addr}, a ∉ adr L → putL H L a = H a
  | [], _, _ => rfl
  | c :: r, a, h => by
    show upd (putL H r) c.1 c.2 a = H a
    rw [upd_ne (fun z => h (by rw [z]; exact List.mem_cons_self)), putL_out fun z => h (List.mem_cons_of_mem _ z)]
theorem putL_in {H : Hp} : ∀ {L : Cl} {c : Addr × HO}, (adr L).Nodup → c ∈ L → putL H L c.1 = some c.2
  | [], _, _, h => nomatch h
  | c :: r, c', hn, h => by
    have h2 := List.nodup_cons.mp hn
    show upd (putL H r) c.1 c.2 c'.1 = _
    rcases List.mem_cons.mp h with z | z
    · rw [z, upd_same]
    · rw [upd_ne (fun e => h2.1 (List.mem_map.mpr ⟨c', z, e⟩))]
      exact putL_in h2.2 z
theorem putL_cases {H : Hp} {L : Cl} {a : Addr} {u : HO} (hn : (adr L).Nodup) (h : putL H L a = some u) : (a, u) ∈ L ∨ (a ∉ adr L ∧ H a = some u) := by
  by_cases e : a ∈ adr L
  · obtain ⟨c, hc, rfl⟩ := List.mem_map.mp e
    rw [putL_in hn hc] at h
    cases h
    exact .inl hc
  · rw [putL_out e] at h
    exact .inr ⟨e, h⟩
theorem delL_some {H : Hp} {A : List Addr} {a : Addr} {u : HO} (h : delL H A a = some u) : a ∉ A ∧ H a = some u := by
  unfold delL at h
  split at h
  · cases h
  · exact ⟨by assumption, h⟩
theorem delL_of {H : Hp} {A : List Addr} {a : Addr} {o : Option HO} (h : a ∉ A) (e : H a = o) : delL H A a = o := by
  unfold delL
  rw [if_neg h]
  exact e
theorem delL_in {H : Hp} {A : List Addr} {a : Addr} (h : a ∈ A) : delL H A a = none := by
  unfold delL
  rw [if_pos h]
theorem delL_none {H : Hp} {A : List Addr} {a : Addr} (h : H a = none) : delL H A a = none := by
  unfold delL
  split
  · rfl
  · exact h
/-! ### a list is named otherwise in the abstract heap -/
structure Cnv (H H' : Hp) : Prop where
  to : ∀ {X : Cx} {pins : List (Addr × Obj)} {σ : St} {s : Shared}, Inv X pins σ H s → Inv X pins σ H' s
theorem Cnv.refl (H : Hp) : Cnv H H := ⟨fun I => I⟩
theorem Cnv.trans {H H1 H2 : Hp} (a : Cnv H H1) (b : Cnv H1 H2) : Cnv H H2 := ⟨fun I => b.to (a.to I)⟩
theorem cnv_toE {H : Hp} {d : Addr} {vs : List V} (h : H d = some (.lst vs)) : Cnv H (upd H d (LstE d vs)) := ⟨fun {X pins σ s} I => by
  obtain ⟨z, its, n, r, e⟩ := (show ObjOk X.prog X.w H s.heap d (.lst vs) from I.hok d _ h)
  exact I.write (x := d) (e := d) (t' := s.toks) (h' := s.heap) (by rw [h]; trivial) (.inl rfl) (fun b v _ q => q) ⟨_, e⟩ ⟨⟨z, its, n, r, e⟩, ⟨_, e⟩, fun h1 h2 ⟨z, its, n, r, e⟩ q => ⟨z, its, n, r, q _ e⟩⟩⟩
theorem cnv_ofE {H : Hp} {d : Addr} {vs : List V} (h : H d = some (LstE d vs)) : Cnv H (upd H d (.lst vs)) := ⟨fun {X pins σ s} I => by
  obtain ⟨⟨z, its, n, r, e⟩, _⟩ := (show ObjOk X.prog X.w H s.heap d (LstE d vs) from I.hok d _ h)
  exact I.write (x := d) (e := d) (t' := s.toks) (h' := s.heap) (by rw [h]; exact True.intro) (.inl rfl) (fun b v _ q => q) ⟨_, e⟩ ⟨z, its, n, r, e⟩⟩
abbrev Ql := List (Addr × List V)
def Ql.ls (qs : Ql) : Cl := qs.map fun q => (q.1, .lst q.2)
def Ql.es (qs : Ql) : Cl := qs.map fun q => (q.1, LstE q.1 q.2)
def Ql.ad (qs : Ql) : List Addr := qs.map (·.1)
theorem Ql.adr_ls (qs : Ql) : adr qs.ls = qs.ad := by unfold adr Ql.ls Ql.ad; rw [List.map_map]; rfl
theorem Ql.adr_es (qs : Ql) : adr qs.es = qs.ad := by unfold adr Ql.es Ql.ad; rw [List.map_map]; rfl
theorem Ql.mem_ls {qs : Ql} {q : Addr × List V} (h : q ∈ qs) : (q.1, HO.lst q.2) ∈ qs.ls := List.mem_map.mpr ⟨q, h, rfl⟩
theorem Ql.mem_es {qs : Ql} {q : Addr × List V} (h : q ∈ qs) : (q.1, LstE q.1 q.2) ∈ qs.es := List.mem_map.mpr ⟨q, h, rfl⟩
theorem Ql.mem_ad {qs : Ql} {q : Addr × List V} (h : q ∈ qs) : q.1 ∈ qs.ad := List.mem_map.mpr ⟨q, h, rfl⟩
theorem cnv_lsE {H : Hp} : ∀ {qs : Ql}, qs.ad.Nodup → (∀ q ∈ qs, H q.1 = some (.lst q.2)) → Cnv H (putL H qs.es)
  | [], _, _ => Cnv.refl _
  | q :: r, hn, h => by
    have h2 := List.nodup_cons.mp hn
    refine (cnv_lsE h2.2 fun c hc => h c (List.mem_cons_of_mem _ hc)).trans (cnv_toE ?_)
    rw [putL_out (by rw [Ql.adr_es]; exact h2.1)]
    exact h q List.mem_cons_self
theorem cnv_esL {H : Hp} : ∀ {qs : Ql}, qs.ad.Nodup → (∀ q ∈ qs, H q.1 = some (LstE q.1 q.2)) → Cnv H (putL H qs.ls)
  | [], _, _ => Cnv.refl _
  | q :: r, hn, h => by
    have h2 := List.nodup_cons.mp hn
    refine (cnv_esL h2.2 fun c hc => h c (List.mem_cons_of_mem _ hc)).trans (cnv_ofE ?_)
    rw [putL_out (by rw [Ql.adr_ls]; exact h2.1)]
    exact h q List.mem_cons_self
theorem pe_cnv {X : Cx} {e : Expr} {t : TE} (h : PE X e t) : PE X e (fun σ H Q => ∃ H', Cnv H H' ∧ t σ H' fun v H1 => ∃ H2, Cnv H1 H2 ∧ Q v H2) := ⟨fun pins s σ H Q I ⟨H', c, q⟩ => thn (h.run pins s σ H' _ (c.to I) q) fun u s1 ⟨v, H1, I1, r, H2, c2, q2⟩ => ⟨v, H2, c2.to I1, r, q2⟩⟩
theorem ps_cnv {X : Cx} {st : Stmt} {t : TS} (h : PS X st t) : PS X st (fun D σ H => ∃ H', Cnv H H' ∧ t ⟨fun σ' H1 => ∃ H2, Cnv H1 H2 ∧ D.nx σ' H2, fun v H1 => ∃ H2, Cnv H1 H2 ∧ D.rt v H2, fun σ' H1 => ∃ H2, Cnv H1 H2 ∧ D.bk σ' H2, fun σ' H1 => ∃ H2, Cnv H1 H2 ∧ D.ct σ' H2⟩ σ H') := ⟨fun pins s σ H D I ⟨H', c, q⟩ => thn (h.run pins s σ H' _ (c.to I) q) fun f s1 q => by
  cases f with
  | next => obtain ⟨σ', H1, I1, H2, c2, q2⟩ := q; exact ⟨σ', H2, c2.to I1, q2⟩
  | brk => obtain ⟨σ', H1, I1, H2, c2, q2⟩ := q; exact ⟨σ', H2, c2.to I1, q2⟩
  | cont => obtain ⟨σ', H1, I1, H2, c2, q2⟩ := q; exact ⟨σ', H2, c2.to I1, q2⟩
  | ret v => obtain ⟨x, σ', H1, I1, r, H2, c2, q2⟩ := q; exact ⟨x, σ', H2, c2.to I1, r, q2⟩⟩
/-! ### held, and free again -/
def isNl : SV → Bool
  | .sp _ (.nl _ _) => true
  | _ => false
def nlF (s : S) : Bool := s.all fun x => !isNl x
theorem nlF_get {s : S} {i : Nat} {x : SV} (h : nlF s = true) (e : s[i]? = some x) : isNl x = false := by
  have := List.all_eq_true.mp h x (List.mem_of_getElem? e)
  simpa using this
section
variable {K : PySem.W.Frag} {T : List (Addr × Str)} {B : Addr} {F F' G G' H H' : Hp} {σ : St} {s : S} {x : SV} {o : Option V}
theorem SlR.keepN (h : SlR K B F G H x o) (hn : isNl x = false) (e : Ex G G') (k : x.own = true → ∀ p u, o = some (.ref p) → H p = some u → inn u = false → G p = none → F p = none → G' p = none ∧ H' p = some u ∧ F' p = none)
    (kc : ∀ p y, H p = some (.own y) → G p = none → G' p = none ∧ H' p = some (.own y)) : SlR K B F' G' H' x o := by
  cases x with
  | un => trivial
  | d y =>
    obtain ⟨v, h1, h2⟩ := h
    exact ⟨v, h1, h2.mono e⟩
  | ol r xs =>
    obtain ⟨p, vs, h1, h2, h3, h4, h5, h6⟩ := h
    obtain ⟨k1, k2, k3⟩ := k rfl p _ h1 h3 rfl h5 h6
    exact ⟨p, vs, h1, h2, k2, h4.mono e, k1, k3⟩
  | od r ks xs =>
    obtain ⟨p, vs, h1, h2, h3, h4, h5, h6, h7⟩ := h
    obtain ⟨k1, k2, k3⟩ := k rfl p _ h1 h3 rfl h6 h7
    exact ⟨p, vs, h1, h2, k2, h4, h5.mono e, k1, k3⟩
  | fd r ks xs =>
    obtain ⟨p, vs, ob, h1, h2, h3, h4, h5, h6, h7⟩ := h
    obtain ⟨k1, k2, k3⟩ := k rfl p _ h1 h3 rfl h6 h7
    exact ⟨p, vs, ob, h1, h2, k2, h4, h5.mono e, k1, k3⟩
  | fv y => exact h
  | sp r z =>
    cases z with
    | nl kk xss => cases hn
    | ob c fs =>
      obtain ⟨p, u, C, h1, h2, h3, h4, h5, h6, h7⟩ := h
      obtain ⟨k1, k2, k3⟩ := k rfl p _ h1 h3 h4.inn h5 h6
      refine ⟨p, u, C, h1, h2, k2, h4.mono e, k1, k3, fun c hc => ?_⟩
      obtain ⟨a1, a2, a3, a4⟩ := h7 c hc
      obtain ⟨dx, vs, _, e2, _⟩ := h4
      rw [e2] at hc
      have e3 := List.mem_singleton.mp hc
      rw [e3] at a1 a3 ⊢
      obtain ⟨b1, b2⟩ := kc _ _ a1 a3
      exact ⟨b2, rfl, b1, fun q => nomatch q⟩
/-- what a slot of own lists is -/
theorem IS.nl {r : Bool} {k : Option (List Key)} {xss : List (List D)} {i : Nat} (I : IS K T B F G H σ s) (hx : s[i]? = some (.sp r (.nl k xss))) : ∃ (p : Addr) (qs : Ql), slA σ i = some (.ref p) ∧ (r = true → p = B) ∧ H p = some (nlU k (qs.map fun q => .ref q.1)) ∧ qs.ad.Nodup ∧ RpAA K G (qs.map (·.2)) xss ∧ (∀ ks, k = some ks → ks.length = qs.length ∧ ks.Nodup) ∧ G p = none ∧ F p = none ∧ p ∉ qs.ad ∧ ∀ q ∈ qs, H q.1 = some (LstE q.1 q.2) ∧ G q.1 = none ∧ F q.1 = none := by
  obtain ⟨p, u, C, h1, h2, h3, h4, h5, h6, h7⟩ := I.sl i _ hx
  have hin := h4.inn
  obtain ⟨qs, e1, e2, e3, e4, e5⟩ := h4
  subst e1 e2
  have hq : ∀ q ∈ qs, H q.1 = some (LstE q.1 q.2) ∧ G q.1 = none ∧ F q.1 = none := fun q hq => by
    obtain ⟨a1, a2, a3, a4⟩ := h7 (q.1, LstE q.1 q.2) (List.mem_map.mpr ⟨q, hq, rfl⟩)
    exact ⟨a1, a3, a4 rfl⟩
  refine ⟨p, qs, h1, h2, h3, e3, e4, e5, h5, h6, fun z => ?_, hq⟩
  obtain ⟨q, hqm, rfl⟩ := List.mem_map.mp z
  rw [(hq q hqm).1] at h3
  rw [← Option.some.inj h3] at hin
  cases hin
/-- the cells of a slot are held: they must stay, and the inner lists are plain ones -/
theorem IS.hold {r : Bool} {k : Option (List Key)} {xss : List (List D)} {i : Nat} {p : Addr} {qs : Ql} {u : HO} (I : IS K T B F G H σ s) (hx : s[i]? = some (.sp r (.nl k xss))) (hn : nlF (s.set i .un) = true) (hp : slA σ i = some (.ref p)) (hu : H p = some u) (iu : inn u = false) (nd : qs.ad.Nodup) (gp : G p = none) (fp : F p = none) (pq : p ∉ qs.ad)
    (hq : ∀ q ∈ qs, H q.1 = some (LstE q.1 q.2) ∧ G q.1 = none ∧ F q.1 = none) : IS K T B (putL F ((p, u) :: qs.ls)) G (putL H qs.ls) σ (s.set i .un) := by
  have hi : i < s.length := (List.getElem?_eq_some_iff.mp hx).1
  have adL : (adr ((p, u) :: qs.ls)).Nodup := by
    show (p :: adr qs.ls).Nodup
    rw [Ql.adr_ls]
    exact List.nodup_cons.mpr ⟨pq, nd⟩
  have adq : (adr qs.ls).Nodup := by rw [Ql.adr_ls]; exact nd
  have inA : ∀ {a w}, (a, w) ∈ qs.ls → ∃ vs, w = .lst vs ∧ H a = some (LstE a vs) ∧ G a = none ∧ F a = none := fun {a w} h => by
    obtain ⟨q, hqm, e⟩ := List.mem_map.mp h
    cases e
    obtain ⟨h1, h2, h3⟩ := hq q hqm
    exact ⟨q.2, rfl, h1, h2, h3⟩
  have gA : ∀ {a}, a ∈ adr qs.ls → G a = none ∧ F a = none := fun {a} h => by
    obtain ⟨c, hc, rfl⟩ := List.mem_map.mp h
    obtain ⟨vs, _, _, h1, h2⟩ := inA hc
    exact ⟨h1, h2⟩
  have exF : Ex F (putL F ((p, u) :: qs.ls)) := fun a w h => by
    rw [putL_out (fun z => ?_)]
    · exact h
    · rcases List.mem_cons.mp z with z | z
      · rw [z, fp] at h
        cases h
      · rw [(gA z).2] at h
        cases h
  have back : ∀ {j z}, (s.set i .un)[j]? = some z → z = .un ∨ (s[j]? = some z ∧ i ≠ j) := fun {j z} h => by
    rw [List.getElem?_set] at h
    by_cases e : i = j
    · subst e
      simp [hi] at h
      exact .inl h.symm
    · simp [e] at h
      exact .inr ⟨h, e⟩
  refine ⟨by simp [I.len], fun a w h => ?_, fun a w h => ?_, fun a w h => ?_, I.tb.ext exF, fun j y hy => ?_, fun j l y z q ne hy hz oy oz ay az => ?_, fun a xs e => by
    rcases putL_cases adq e with z | ⟨_, z⟩
    · obtain ⟨vs, k, _⟩ := inA z
      cases k
    · exact I.tc a xs z⟩
  · rcases putL_cases adL h with z | ⟨z1, z2⟩
    · rcases List.mem_cons.mp z with z | z
      · cases z
        rw [putL_out (by rw [Ql.adr_ls]; exact pq)]
        exact hu
      · exact putL_in adq z
    · rw [putL_out fun y => z1 (List.mem_cons_of_mem _ y)]
      exact I.fr a w z2
  · rw [putL_out fun z => by rw [(gA z).1] at h; cases h]
    exact I.gh a w h
  · rcases putL_cases adL h with z | ⟨z1, z2⟩
    · rcases List.mem_cons.mp z with z | z
      · cases z
        exact gp
      · obtain ⟨vs, _, _, h1, _⟩ := inA z
        exact h1
    · exact I.dj a w z2
  · rcases back hy with rfl | ⟨hy2, nij⟩
    · trivial
    · refine (I.sl j y hy2).keepN (nlF_get hn hy) (Ex.refl G) (fun oy q w f1 f2 fi f3 f4 => ?_) fun q y1 h1 h2 => ?_
      · have np : q ≠ p := fun e => I.ap i j _ y p nij hx hy2 rfl oy hp (by rw [f1, e])
        have nq : q ∉ adr qs.ls := fun z => by
          obtain ⟨c, hc, e⟩ := List.mem_map.mp z
          obtain ⟨vs, _, h1, _⟩ := inA hc
          rw [e, f2] at h1
          cases h1
          cases fi
        exact ⟨f3, by rw [putL_out nq]; exact f2, by rw [putL_out (fun z => (List.mem_cons.mp z).elim np nq)]; exact f4⟩
      · have nq : q ∉ adr qs.ls := fun z => by
          obtain ⟨c, hc, e⟩ := List.mem_map.mp z
          obtain ⟨vs, _, h3, _⟩ := inA hc
          rw [e, h1] at h3
          cases h3
        exact ⟨h2, by rw [putL_out nq]; exact h1⟩
  · have q1 : ∀ {j : Nat} {y : SV}, (s.set i .un)[j]? = some y → y.own = true → s[j]? = some y := fun {j y} h w => by
      rcases back h with rfl | ⟨h2, _⟩
      · cases w
      · exact h2
    exact I.ap j l y z q ne (q1 hy oy) (q1 hz oz) oy oz ay az
/-! Rp without lists that are taken away -/
mutual
theorem Rp.delL {A : List Addr} (hp : ∀ p ∈ A, ∃ vs, G p = some (.lst vs)) : ∀ {v : V} {d : D}, Rp K G v d → noL d = true → Rp K (DL.delL G A) v d
  | _, _, .non, _ => .non
  | _, _, .bl b, _ => .bl b
  | _, _, .int i, _ => .int i
  | _, _, .str x, _ => .str x
  | _, _, .lst _ _, h => by simp [noL] at h
  | _, _, .tup hg r, h => .tup (delL_of (fun z => by obtain ⟨vs, e⟩ := hp _ z; rw [e] at hg; cases hg) hg) (RpA.delL hp r (by simpa [noL] using h))
  | _, _, .tpK hk, _ => .tpK hk
  | _, _, .dct _ _ _, h => by simp [noL] at h
  | _, _, .dcT _ _ _ _, h => by simp [noL] at h
theorem RpA.delL {A : List Addr} (hp : ∀ p ∈ A, ∃ vs, G p = some (.lst vs)) : ∀ {vs : List V} {ds : List D}, RpA K G vs ds → noLs ds = true → RpA K (DL.delL G A) vs ds
  | _, _, .nil, _ => .nil
  | _, _, .cons h r, hn => by
    obtain ⟨h1, h2⟩ := He.ba (show (noL _ && noLs _) = true from hn)
    exact .cons (Rp.delL hp h h1) (RpA.delL hp r h2)
end
/-- cells that are held are lent as data -/
theorem IS.lentL {B' : Addr} {L : Ql} {v : V} {rv : SV} {σ' : St} {s' : S} (I : IS K T B F G H σ s) (nd : L.ad.Nodup) (hL : ∀ q ∈ L, F q.1 = some (.lst q.2)) (e : Ex (putL G L.ls) G')
    (J : IS K [] B' (restH (putL G L.ls) H none) G' H' (some v :: σ') (rv :: s')) (ok : rvOk rv = true) : Ex G (delL G' L.ad) ∧ IS K T B F (delL G' L.ad) H' (some v :: σ) (rv :: s) := by
  have nd2 : (adr L.ls).Nodup := by rw [Ql.adr_ls]; exact nd
  have gp : ∀ q ∈ L, G' q.1 = some (.lst q.2) := fun q hq => e _ _ (putL_in nd2 (Ql.mem_ls hq))
  have gL : ∀ p ∈ L.ad, ∃ vs, G' p = some (.lst vs) := fun p hp => by
    obtain ⟨q, hq, rfl⟩ := List.mem_map.mp hp
    exact ⟨_, gp q hq⟩
  have fL : ∀ {p : Addr}, p ∈ L.ad → ∃ vs, F p = some (.lst vs) := fun {p} hp => by
    obtain ⟨q, hq, rfl⟩ := List.mem_map.mp hp
    exact ⟨_, hL q hq⟩
  have no : ∀ {a}, G a ≠ none → a ∉ L.ad := fun {a} h z => by
    obtain ⟨vs, z2⟩ := fL z
    exact h (I.dj a _ z2)
  have exG : Ex G (delL G' L.ad) := fun a o h => by
    have n := no (a := a) (by rw [h]; exact fun z => nomatch z)
    exact delL_of n (e a o (by rw [putL_out (by rw [Ql.adr_ls]; exact n)]; exact h))
  have kf : ∀ {a u}, a ∉ L.ad → H a = some u → G a = none → restH (putL G L.ls) H none a = some u := fun {a u} n h g => rest_of (by rw [putL_out (by rw [Ql.adr_ls]; exact n)]; exact g) (fun z => by cases z) h
  have main : IS K T B F (delL G' L.ad) H' σ s := by
    refine ⟨I.len, fun a u h => ?_, fun a u h => J.gh a u (delL_some h).2, fun a u h => ?_, I.tb, fun j y hy => ?_, I.ap, fun a xs h => delL_of (fun z => by
      obtain ⟨vs, z2⟩ := gL a z
      rw [J.gh _ _ z2] at h
      cases h) (J.tc a xs h)⟩
    · by_cases n : a ∈ L.ad
      · obtain ⟨q, hq, rfl⟩ := List.mem_map.mp n
        rw [hL q hq] at h
        cases h
        exact J.gh _ _ (gp q hq)
      · exact J.fr a u (kf n (I.fr a u h) (I.dj a u h))
    · by_cases n : a ∈ L.ad
      · exact delL_in n
      · exact delL_none (J.dj a u (kf n (I.fr a u h) (I.dj a u h)))
    · refine (I.sl j y hy).keep exG (fun oy q u f1 f2 fi f3 f4 => ?_) fun q u h1 h2 h3 => ?_
      · have nq : q ∉ L.ad := fun z => by
          obtain ⟨vs, z2⟩ := fL z
          rw [f4] at z2
          cases z2
        have z := kf nq f2 f3
        exact ⟨delL_none (J.dj q u z), J.fr q u z, f4⟩
      · have nq : q ∉ L.ad := fun z => by
          obtain ⟨vs, z2⟩ := fL z
          rw [I.fr _ _ z2] at h1
          cases h1
          cases h2
        have z := kf nq h1 h3
        exact ⟨delL_none (J.dj q u z), J.fr q u z, fun z => z⟩
  refine ⟨exG, ?_⟩
  have fF : ∀ {q : Addr}, restH (putL G L.ls) H none q = none → q ∉ L.ad → F q = none := fun {q} h n => by
    cases z : F q with
    | none => rfl
    | some u => rw [kf n (I.fr q u z) (I.dj q u z)] at h; cases h
  have hd := J.head
  cases rv with
  | un => cases ok
  | fd _ _ _ => cases ok
  | od _ _ _ => cases ok
  | fv _ => cases ok
  | sp _ _ => cases ok
  | d d =>
    obtain ⟨w, e1, e2⟩ := hd
    cases e1
    exact main.pushD (Rp.delL gL e2 ok)
  | ol r2 ys =>
    cases r2 with
    | true => cases ok
    | false =>
      obtain ⟨q, vs3, m1, m2, m3, m4, m5, m6⟩ := hd
      cases m1
      have nq : q ∉ L.ad := fun z => by
        obtain ⟨vs, z2⟩ := gL q z
        rw [m5] at z2
        cases z2
      refine main.push ⟨q, vs3, rfl, (fun z => nomatch z), m3, RpA.delL gL m4 ok, delL_none m5, fF m6 nq⟩ fun w q2 j y e1 e2 e3 e4 => ?_
      cases e1
      obtain ⟨q3, u, f1, f2, f3, f4⟩ := (I.sl j y e2).place e3
      rw [e4] at f1
      cases f1
      rw [kf nq f2 f3] at m6
      cases m6
/-- cells that are held are free again -/
theorem IS.free {r : Bool} {k : Option (List Key)} {xss : List (List D)} {i : Nat} {p : Addr} {qs : Ql} (I : IS K T B F G H σ s) (hi : s[i]? = some .un) (hp : slA σ i = some (.ref p)) (hr : r = true → p = B) (fp : F p = some (nlU k (qs.map fun q => .ref q.1))) (nd : qs.ad.Nodup) (pq : p ∉ qs.ad) (hq : ∀ q ∈ qs, F q.1 = some (.lst q.2)) (ra : RpAA K G (qs.map (·.2)) xss)
    (hk : ∀ ks, k = some ks → ks.length = qs.length ∧ ks.Nodup) : IS K T B (delL F (p :: qs.ad)) G (putL H qs.es) σ (s.set i (.sp r (.nl k xss))) := by
  have hl : i < s.length := (List.getElem?_eq_some_iff.mp hi).1
  have nd2 : (adr qs.es).Nodup := by rw [Ql.adr_es]; exact nd
  have isL : ∀ {a}, a ∈ p :: qs.ad → ∃ u, F a = some u ∧ inn u = false ∧ (∀ ps, u ≠ .tbl ps) := fun {a} h => by
    rcases List.mem_cons.mp h with z | z
    · rw [z]
      exact ⟨_, fp, by cases k <;> rfl, fun ps => by cases k <;> exact fun z => nomatch z⟩
    · obtain ⟨q, hqm, rfl⟩ := List.mem_map.mp z
      exact ⟨_, hq q hqm, rfl, fun ps z => nomatch z⟩
  have gA : ∀ {a}, a ∈ p :: qs.ad → G a = none := fun {a} h => by
    obtain ⟨u, z, _⟩ := isL h
    exact I.dj a u z
  have gq : ∀ {a}, a ∈ qs.ad → G a = none := fun h => gA (List.mem_cons_of_mem _ h)
  have tb : LamX.Tabs T (delL F (p :: qs.ad)) := fun q hq2 => by
    obtain ⟨ps, h1, h2, h3⟩ := I.tb q hq2
    refine ⟨ps, delL_of (fun z => ?_) h1, h2, fun pos cv hc => ?_⟩
    · obtain ⟨u, z1, z2, z3⟩ := isL z
      rw [h1] at z1
      cases z1
      exact z3 _ rfl
    · obtain ⟨c, e1, e2⟩ := h3 pos cv hc
      refine ⟨c, e1, delL_of (fun z => ?_) e2⟩
      obtain ⟨u, z1, z2, z3⟩ := isL z
      rw [e2] at z1
      cases z1
      cases z2
  have back : ∀ {j z}, (s.set i (.sp r (.nl k xss)))[j]? = some z → (i = j ∧ z = .sp r (.nl k xss)) ∨ (s[j]? = some z ∧ i ≠ j) := fun {j z} h => by
    rw [List.getElem?_set] at h
    by_cases e : i = j
    · subst e
      simp [hl] at h
      exact .inl ⟨rfl, h.symm⟩
    · simp [e] at h
      exact .inr ⟨h, e⟩
  have plc : ∀ {j y q}, s[j]? = some y → y.own = true → slA σ j = some (.ref q) → q ≠ p := fun {j y q} h1 h2 h3 z => by
    obtain ⟨q2, u, f1, f2, f3, f4⟩ := (I.sl j y h1).place h2
    rw [h3] at f1
    cases f1
    rw [z, fp] at f4
    cases f4
  refine ⟨by simp [I.len], fun a u h => ?_, fun a u h => ?_, fun a u h => I.dj a u (delL_some h).2, tb, fun j y hy => ?_, fun j l y z q ne hy hz oy oz ay az => ?_, fun a xs e => by
    rcases putL_cases nd2 e with z | ⟨_, z⟩
    · obtain ⟨q, _, k⟩ := List.mem_map.mp z
      cases k
    · exact I.tc a xs z⟩
  · obtain ⟨h1, h2⟩ := delL_some h
    rw [putL_out (by rw [Ql.adr_es]; exact fun z => h1 (List.mem_cons_of_mem _ z))]
    exact I.fr a u h2
  · rw [putL_out (by rw [Ql.adr_es]; exact fun z => by rw [gq z] at h; cases h)]
    exact I.gh a u h
  · rcases back hy with ⟨rfl, rfl⟩ | ⟨hy2, nij⟩
    · rw [hp]
      refine ⟨p, _, _, rfl, hr, ?_, ⟨qs, rfl, rfl, nd, ra, hk⟩, gA List.mem_cons_self, delL_in List.mem_cons_self, fun c hc => ?_⟩
      · rw [putL_out (by rw [Ql.adr_es]; exact pq)]
        exact I.fr p _ fp
      · obtain ⟨q, hqm, rfl⟩ := List.mem_map.mp hc
        exact ⟨putL_in nd2 (Ql.mem_es hqm), rfl, gq (Ql.mem_ad hqm), fun _ => delL_in (List.mem_cons_of_mem _ (Ql.mem_ad hqm))⟩
    · refine (I.sl j y hy2).keep (Ex.refl G) (fun oy q u f1 f2 fi f3 f4 => ?_) fun q u h1 h2 h3 => ?_
      · have nq : q ∉ p :: qs.ad := fun z => by
          obtain ⟨w, z1, _⟩ := isL z
          rw [f4] at z1
          cases z1
        exact ⟨f3, by rw [putL_out (by rw [Ql.adr_es]; exact fun z => nq (List.mem_cons_of_mem _ z))]; exact f2, delL_none f4⟩
      · have nq : q ∉ p :: qs.ad := fun z => by
          obtain ⟨w, z1, z2, _⟩ := isL z
          rw [I.fr _ _ z1] at h1
          cases h1
          rw [z2] at h2
          cases h2
        exact ⟨h3, by rw [putL_out (by rw [Ql.adr_es]; exact fun z => nq (List.mem_cons_of_mem _ z))]; exact h1, fun h4 => delL_none h4⟩
  · rcases back hy with ⟨e1, rfl⟩ | ⟨h, n⟩
    · rcases back hz with ⟨e2, rfl⟩ | ⟨h2, n2⟩
      · exact ne (e1.symm.trans e2)
      · rw [← e1, hp] at ay
        cases ay
        exact plc h2 oz az rfl
    · rcases back hz with ⟨e2, rfl⟩ | ⟨h2, n2⟩
      · rw [← e2, hp] at az
        cases az
        exact plc h oy ay rfl
      · exact I.ap j l y z q ne h h2 oy oz ay az
/-- the frame behind holding and freeing -/
theorem gr_free {p : Addr} {u : HO} {qs : Ql} {F4 : Hp} (fp : F p = none) (fq : ∀ q ∈ qs, F q.1 = none) (nd : qs.ad.Nodup) (pq : p ∉ qs.ad) (nt : ∀ ps, u ≠ .tbl ps) (g : Gr T (putL F ((p, u) :: qs.ls)) F4) : Gr T F (delL F4 (p :: qs.ad)) ∧ F4 p = some u ∧ ∀ q ∈ qs, F4 q.1 = some (.lst q.2) := by
  have adL : (adr ((p, u) :: qs.ls)).Nodup := by
    show (p :: adr qs.ls).Nodup
    rw [Ql.adr_ls]
    exact List.nodup_cons.mpr ⟨pq, nd⟩
  have nA : ∀ {a}, a ∈ p :: qs.ad → F a = none := fun {a} h => by
    rcases List.mem_cons.mp h with z | z
    · rw [z]; exact fp
    · obtain ⟨q, hqm, rfl⟩ := List.mem_map.mp z
      exact fq q hqm
  have ne : ∀ {a}, a ∉ p :: qs.ad → a ∉ adr ((p, u) :: qs.ls) := fun {a} h z => h (by
    rcases List.mem_cons.mp z with z | z
    · rw [z]; exact List.mem_cons_self
    · exact List.mem_cons_of_mem _ (by rw [← Ql.adr_ls]; exact z))
  refine ⟨⟨fun a o h n => ?_, fun ht => ?_⟩, g.ex p u (putL_in adL (c := (p, u)) List.mem_cons_self) nt, fun q hq => g.ex q.1 _ (putL_in adL (List.mem_cons_of_mem _ (Ql.mem_ls hq))) (fun ps z => nomatch z)⟩
  · have na : a ∉ p :: qs.ad := fun z => by
      rw [nA z] at h
      cases h
    exact delL_of na (g.ex a o (by rw [putL_out (ne na)]; exact h) n)
  · rw [g.same ht]
    funext a
    by_cases na : a ∈ p :: qs.ad
    · rw [delL_in na, nA na]
    · exact delL_of na (putL_out (ne na))
end
end DL
set_option Elab.async false
set_option linter.all false
set_option maxRecDepth 100000
set_option maxHeartbeats 4000000
namespace DL
open PySem PySem.Spec L2
open PyProof.Rows hiding St
open PySem.W (dataLe dataLt alike)
/-! DL96: own lists of own lists: made, lent, changed -/
open Evl (Ex ex_l ex_t ex_rd)
section
variable {K : PySem.W.Frag} {T : List (Addr × Str)} {B : Addr} {F F' G G' H H' : Hp} {σ : St} {s : S} {x : SV} {o : Option V}
theorem IS.toF {p : Addr} {u : HO} (I : IS K T B F G H (some (.ref p) :: σ) (x :: s)) (ow : x.own = true) (hu : H p = some u) (iu : inn u = false) (gp : G p = none) (fp : F p = none) : IS K T B (upd F p u) G H σ s := by
  have J := I.tail
  refine ⟨J.len, fun a w h => ?_, J.gh, fun a w h => ?_, J.tb.ext (Ex.new fp), fun j y hy => ?_, J.ap, J.tc⟩
  · by_cases e : a = p
    · rw [e, upd_same] at h
      cases h
      rw [e]
      exact hu
    · rw [upd_ne e] at h
      exact J.fr a w h
  · by_cases e : a = p
    · rw [e]
      exact gp
    · rw [upd_ne e] at h
      exact J.dj a w h
  · refine (J.sl j y hy).keep (Ex.refl G) (fun oy q w f1 f2 fi f3 f4 => ?_) fun q w h1 h2 h3 => ?_
    · have nq : q ≠ p := fun e => I.ap 0 (j + 1) x y p (fun z => nomatch z) rfl (by simpa using hy) ow oy rfl (by rw [slA_succ, f1, e])
      exact ⟨f3, f2, by rw [upd_ne nq]; exact f4⟩
    · have nq : q ≠ p := inn_ne hu iu h1 h2
      exact ⟨h3, h1, fun z => by rw [upd_ne nq]; exact z⟩
theorem gr_un {p : Addr} {u : HO} {F4 : Hp} (fp : F p = none) (nt : ∀ ps, u ≠ .tbl ps) (g : Gr T (upd F p u) F4) : ∃ F5, F5 p = none ∧ Gr T F F5 ∧ F4 = upd F5 p u := by
  have h4 : F4 p = some u := g.ex p u upd_same nt
  refine ⟨fun a => if a = p then none else F4 a, if_pos rfl, ⟨fun a o h n => ?_, fun ht => ?_⟩, ?_⟩
  · have na : a ≠ p := ne_of_none h fp
    show (if a = p then none else F4 a) = some o
    rw [if_neg na]
    exact g.ex a o (by rw [upd_ne na]; exact h) n
  · rw [g.same ht]
    funext a
    show (if a = p then none else upd F p u a) = F a
    by_cases na : a = p
    · rw [if_pos na, na, fp]
    · rw [if_neg na, upd_ne na]
  · funext a
    by_cases na : a = p
    · rw [na, upd_same, h4]
    · rw [upd_ne na]
      show F4 a = if a = p then none else F4 a
      rw [if_neg na]
/-- lists that nobody knows turn to inner ones -/
theorem IS.cells {qs : Ql} (I : IS K T B F G H σ s) (nd : qs.ad.Nodup) (hq : ∀ q ∈ qs, H q.1 = some (.lst q.2) ∧ G q.1 = none ∧ F q.1 = none ∧ ∀ j y, s[j]? = some y → y.own = true → slA σ j ≠ some (.ref q.1)) : IS K T B F G (putL H qs.es) σ s := by
  have out : ∀ {a}, (∀ q ∈ qs, a ≠ q.1) → putL H qs.es a = H a := fun {a} h => putL_out (by
    rw [Ql.adr_es]
    intro z
    obtain ⟨q, hqm, e⟩ := List.mem_map.mp z
    exact h q hqm e.symm)
  refine ⟨I.len, fun a u h => ?_, fun a u h => ?_, I.dj, I.tb, fun j y hy => ?_, I.ap, fun a xs e => by
    rcases putL_cases (by rw [Ql.adr_es]; exact nd) e with z | ⟨_, z⟩
    · obtain ⟨q, _, k⟩ := List.mem_map.mp z
      cases k
    · exact I.tc a xs z⟩
  · rw [out fun q hqm e => by rw [e, (hq q hqm).2.2.1] at h; cases h]
    exact I.fr a u h
  · rw [out fun q hqm e => by rw [e, (hq q hqm).2.1] at h; cases h]
    exact I.gh a u h
  · refine (I.sl j y hy).keep (Ex.refl G) (fun oy r u f1 f2 fi f3 f4 => ?_) fun r u h1 h2 h3 => ?_
    · exact ⟨f3, by rw [out fun q hqm e => (hq q hqm).2.2.2 j y hy oy (by rw [f1, e])]; exact f2, f4⟩
    · exact ⟨h3, by rw [out fun q hqm e => by rw [e, (hq q hqm).1] at h1; cases h1; cases h2]; exact h1, fun z => z⟩
theorem RpAA.len {vss : List (List V)} {xss : List (List D)} (h : RpAA K G vss xss) : vss.length = xss.length := by
  induction vss generalizing xss with
  | nil =>
    cases xss with
    | nil => rfl
    | cons _ _ => exact h.elim
  | cons v vss ih =>
    cases xss with
    | nil => exact h.elim
    | cons x xss => exact congrArg Nat.succ (ih h.2)
theorem RpAA.get {vss : List (List V)} {xss : List (List D)} (h : RpAA K G vss xss) {j : Nat} {vs : List V} {xs : List D} (e1 : vss[j]? = some vs) (e2 : xss[j]? = some xs) : RpA K G vs xs := by
  induction vss generalizing xss j with
  | nil => cases e1
  | cons v vss ih =>
    cases xss with
    | nil => exact h.elim
    | cons x xss =>
      cases j with
      | zero =>
        cases e1
        cases e2
        exact h.1
      | succ j => exact ih h.2 (by simpa using e1) (by simpa using e2)
theorem RpAA.set {vss : List (List V)} {xss : List (List D)} (h : RpAA K G vss xss) {vs : List V} {xs : List D} (r : RpA K G vs xs) (j : Nat) : RpAA K G (vss.set j vs) (xss.set j xs) := by
  induction vss generalizing xss j with
  | nil =>
    cases xss with
    | nil => trivial
    | cons _ _ => exact h.elim
  | cons v vss ih =>
    cases xss with
    | nil => exact h.elim
    | cons x xss =>
      cases j with
      | zero => exact ⟨r, h.2⟩
      | succ j => exact ⟨h.1, ih h.2 j⟩
/-- the outer list as data, its cells being shared -/
theorem rp_nl : ∀ {qs : Ql} {xss : List (List D)}, (∀ q ∈ qs, G' q.1 = some (.lst q.2)) → Ex G G' → RpAA K G (qs.map (·.2)) xss → RpA K G' (qs.map fun q => .ref q.1) (xss.map .list)
  | [], [], _, _, _ => .nil
  | [], _ :: _, _, _, h => h.elim
  | _ :: _, [], _, _, h => h.elim
  | q :: qs, xs :: xss, hq, e, h => .cons (.lst (.inl (.inl (hq q List.mem_cons_self))) (h.1.mono e)) (rp_nl (fun c hc => hq c (List.mem_cons_of_mem _ hc)) e h.2)
end
/-! ### [e, .., e] of own lists -/
def oNls : List (M SV) → M (List (List D))
  | [] => M.ret []
  | f :: r => fun s => match f s with
    | .ok (.ol false xs) s1 => (match oNls r s1 with
      | .ok xss s2 => .ok (xs :: xss) s2
      | _ => .bad)
    | _ => .bad
def oNl (fs : List (M SV)) : M SV := fun s => match oNls fs s with
  | .ok xss s1 => if xss.length ≤ lim then .ok (.sp false (.nl none xss)) s1 else .bad
  | _ => .bad
inductive DOs (X : Cx) (T : List (Addr × Str)) (B : Addr) (W : WX) : List Expr → List (M SV) → Prop
  | nil : DOs X T B W [] []
  | cons {e : Expr} {es : List Expr} {f : M SV} {fs : List (M SV)} (h : DO X T B W e f) (t : DOs X T B W es fs) (hs : starEach (e :: es) X.env = (false, eval e X.env) :: starEach es X.env) : DOs X T B W (e :: es) (f :: fs)
theorem dos_nil {X : Cx} {T : List (Addr × Str)} {B : Addr} {W : WX} : DOs X T B W [] [] := .nil
theorem dos_cons {X : Cx} {T : List (Addr × Str)} {B : Addr} {W : WX} {e : Expr} {es : List Expr} {f : M SV} {fs : List (M SV)} (h : DO X T B W e f) (t : DOs X T B W es fs) (hs : starEach (e :: es) X.env = (false, eval e X.env) :: starEach es X.env := by rfl) : DOs X T B W (e :: es) (f :: fs) := .cons h t hs
def AtNl (K : PySem.W.Frag) (F G H : Hp) (σ : St) (s : S) (vs : List V) (xss : List (List D)) : Prop := ∃ qs : Ql, vs = qs.map (fun q => .ref q.1) ∧ qs.ad.Nodup ∧ RpAA K G (qs.map (·.2)) xss ∧ ∀ q ∈ qs, H q.1 = some (.lst q.2) ∧ G q.1 = none ∧ F q.1 = none ∧ ∀ j y, s[j]? = some y → y.own = true → slA σ j ≠ some (.ref q.1)
def TAn (X : Cx) (T : List (Addr × Str)) (B : Addr) (W : WX) (fs : List (M SV)) : TA := fun σ H Q => ∃ F G s, IS X.K T B F G H σ s ∧ match oNls fs s with
  | .ok xss s' => ∀ F' G' H' vs, Gr T F F' → Ex G G' → IS X.K T B F' G' H' σ s' → AtNl X.K F' G' H' σ s' vs xss → Q vs H'
  | _ => False
section
variable {X : Cx} {T : List (Addr × Str)} {B : Addr} {W : WX}
theorem dos_pa {es : List Expr} {fs : List (M SV)} (h : DOs X T B W es fs) : PA X es (TAn X T B W fs) := by
  induction h with
  | nil => exact pa_weak pa_nil fun σ H Q ⟨F, G, s, I, q⟩ => q F G H [] Gr.refl (Ex.refl G) I ⟨[], rfl, List.nodup_nil, trivial, fun q hq => nomatch hq⟩
  | @cons e es f fs h t hs ih =>
    refine pa_weak (pa_cons h ih hs) fun σ H Q ⟨F, G, s, I, q⟩ => ?_
    unfold oNls at q
    refine ⟨F, G, s, I, ?_⟩
    cases ef : f s with
    | bad => rw [ef] at q; exact q.elim
    | ex c s1 => rw [ef] at q; exact q.elim
    | ok x s1 =>
      rw [ef] at q
      intro F1 G1 H1 g1 e1 I1 v I2
      cases x with
      | ol r xs =>
        cases r with
        | true => exact q.elim
        | false =>
          simp only at q
          obtain ⟨p, vs0, m1, m2, m3, m4, m5, m6⟩ := I2.head
          cases m1
          refine ⟨upd F1 p (.lst vs0), G1, s1, I2.toF rfl m3 rfl m5 m6, ?_⟩
          cases er : oNls fs s1 with
          | bad => rw [er] at q; exact q.elim
          | ex c s2 => rw [er] at q; exact q.elim
          | ok xss s2 =>
            rw [er] at q
            intro F4 G4 H4 vs g4 e4 I4 ⟨qs, a1, a2, a3, a4⟩
            obtain ⟨F5, h5, g5, rfl⟩ := gr_un (u := .lst vs0) m6 (fun ps z => nomatch z) g4
            have J := (I4.dropF h5 (m4.mono e4)).tail
            have hp4 : H4 p = some (.lst vs0) := I4.fr p _ upd_same
            have np : ∀ q ∈ qs, q.1 ≠ p := fun q hq z => by
              have z2 := (a4 q hq).2.2.1
              rw [z, upd_same] at z2
              cases z2
            refine q F5 G4 H4 (.ref p :: vs) (g1.trans g5) (e1.trans e4) J ⟨(p, vs0) :: qs, by rw [a1]; rfl, List.nodup_cons.mpr ⟨fun z => ?_, a2⟩, ⟨m4.mono e4, a3⟩, fun q hq => ?_⟩
            · obtain ⟨q, hq, e⟩ := List.mem_map.mp z
              exact np q hq e
            · rcases List.mem_cons.mp hq with z | z
              · subst z
                refine ⟨hp4, I4.dj p _ upd_same, h5, fun j y hy oy z => ?_⟩
                obtain ⟨r, u, f1, f2, f3, f4⟩ := (I4.sl j y hy).place oy
                rw [z] at f1
                cases f1
                rw [upd_same] at f4
                cases f4
              · obtain ⟨b1, b2, b3, b4⟩ := a4 q z
                exact ⟨b1, b2, by rw [upd_ne (np q z)] at b3; exact b3, b4⟩
      | _ => exact q.elim
theorem do_nl {es : List Expr} {fs : List (M SV)} {pos : Pos} (h : DOs X T B W es fs) : DO X T B W (.List es pos) (oNl fs) := pe_weak (pe_cnv (pe_lst (dos_pa h))) fun σ H Q ⟨F, G, s, I, q⟩ => by
  refine ⟨H, Cnv.refl H, F, G, s, I, ?_⟩
  unfold oNl at q
  cases eo : oNls fs s with
  | bad => rw [eo] at q; exact q.elim
  | ex c s1 => rw [eo] at q; exact q.elim
  | ok xss s1 =>
    rw [eo] at q
    simp only at q
    by_cases hl : xss.length ≤ lim
    · rw [if_pos hl] at q
      intro F1 G1 H1 vs g1 e1 I1 ⟨qs, a1, a2, a3, a4⟩
      have len : vs.length = xss.length := by
        have := a3.len
        rw [a1]
        simpa using this
      refine ⟨lim_le (by rw [len]; exact hl), fun p hp => ?_⟩
      have J := I1.loose (u := .lst vs) hp
      have np : ∀ q ∈ qs, q.1 ≠ p := fun q hq => ne_of_none (a4 q hq).1 hp
      have a4' : ∀ q ∈ qs, upd H1 p (.lst vs) q.1 = some (.lst q.2) ∧ G1 q.1 = none ∧ F1 q.1 = none ∧ ∀ j y, s1[j]? = some y → y.own = true → slA σ j ≠ some (.ref q.1) := fun q hq => by
        obtain ⟨b1, b2, b3, b4⟩ := a4 q hq
        exact ⟨by rw [upd_ne (np q hq)]; exact b1, b2, b3, b4⟩
      have J2 := J.cells a2 a4'
      have pn : p ∉ adr qs.es := fun z => by
        rw [Ql.adr_es] at z
        obtain ⟨q, hq, e⟩ := List.mem_map.mp z
        exact np q hq e
      refine ⟨_, cnv_lsE a2 fun q hq => (a4' q hq).1, q F1 G1 _ g1 e1 J2 _ (J2.push ?_ fun w r j y f1 f2 f3 f4 => ?_)⟩
      · refine ⟨p, _, _, rfl, (fun z => nomatch z), ?_, ⟨qs, rfl, rfl, a2, a3, (fun ks z => nomatch z)⟩, I1.freshG hp, I1.freshF hp, fun c hc => ?_⟩
        · rw [putL_out pn, upd_same, a1]
          rfl
        · obtain ⟨q, hq, rfl⟩ := List.mem_map.mp hc
          exact ⟨putL_in (by rw [Ql.adr_es]; exact a2) (Ql.mem_es hq), rfl, (a4 q hq).2.1, fun _ => (a4 q hq).2.2.1⟩
      · cases f1
        obtain ⟨r2, u, k1, k2, k3, k4⟩ := (I1.sl j y f2).place f3
        rw [f4] at k1
        cases k1
        rw [hp] at k2
        cases k2
    · rw [if_neg hl] at q
      exact q.elim
/-! ### lent -/
noncomputable def oCallN (i : Nat) (f : S → Res SV) (dds : List D) (fa : M (List D)) : M SV := fun s => match s[i]? with
  | some (.sp r (.nl none xss)) => if nlF (s.set i .un) = true then (match fa (s.set i .un) with
    | .ok ds s1 => (match s1[i]? with
      | some .un => (match f (.d (.list (xss.map .list)) :: (ds ++ dds).map .d) with
        | .ok rv _ => if rvOk rv = true then .ok rv (s1.set i (.sp r (.nl none xss))) else .bad
        | _ => .bad)
      | _ => .bad)
    | _ => .bad) else .bad
  | _ => .bad
theorem do_callN {k k' n : Nat} {f : S → Res SV} {x y : Str} {p p2 pos : Pos} {es : List Expr} {dds : List D} {fa : M (List D)} (i : Nat) (Fn : FnC X.prog X.w X.K X.mg X.base k n x f dds) (hr : Room k' X.A) (hk : k ≤ k') (tk : Takes X W)
    (ha : DA X T B W es fa) (hn : ∀ s ds s', fa s = .ok ds s' → (ds ++ dds).length + 1 = n) (hg : Gl X x := by rfl) (hN : X.N[i]? = some y := by rfl) (hv : Vis X.env.scope y := by first | exact Or.inl rfl | exact Or.inr (Or.inl rfl) | exact Or.inr (Or.inr rfl)) (hdy : (y == ("__debug__" : Str)) = false := by decide)
    (hcd : (y == ("__classdict__" : Str)) = false := by decide) (hdb : (x == ("__debug__" : Str)) = false := by decide) (he : starEach (.Name y p2 :: es) X.env = (false, eval (.Name y p2) X.env) :: starEach es X.env := by rfl) (hpl : (backTo pos (starEach es X.env)).any (·.1) = false := by rfl) :
    DO X T B W (.Call (.Name x p) (.Name y p2 :: es) [] pos) (oCallN i f dds fa) := by
  obtain ⟨⟨fd, ps, dvs, ds, ok, hb, hd, hdd⟩, hm, kp⟩ := Fn
  refine pe_weak (pe_cnv (pe_callSD ok (hr.mono hk) hg hm kp hb hd (fun σ => passAt tk σ) (pa_cons (pe_var (i := i) hN hv hdy hcd) ha he) hdb he hpl)) fun σ H Q ⟨F, G, s, I, q⟩ => ?_
  unfold oCallN at q
  split at q
  · rename_i r xss hx
    by_cases hnl : nlF (s.set i .un) = true
    · rw [if_pos hnl] at q
      obtain ⟨pp, qs, l1, l2, l3, l4, l5, l6, l7, l8, l9, l10⟩ := I.nl hx
      have Ih := I.hold hx hnl l1 l3 rfl l4 l7 l8 l9 l10
      refine ⟨_, cnv_esL l4 fun q hq => (l10 q hq).1, _, slA_some l1, _, G, _, Ih, ?_⟩
      have hlen := hn (s.set i .un)
      cases ef : fa (s.set i .un) with
      | bad => rw [ef] at q; exact q.elim
      | ex c s1 => rw [ef] at q; exact q.elim
      | ok ds' s1 =>
        rw [ef] at q
        simp only at q
        intro F4 G4 H4 g4 e4 I4 vs r4
        obtain ⟨g5, f4p, f4q⟩ := gr_free (u := .lst (qs.map fun q => V.ref q.1)) l8 (fun q hq => (l10 q hq).2.2) l4 l9 (fun ps z => nomatch z) g4
        have hl2 := hlen ds' s1 ef
        cases hi : s1[i]? with
        | none => rw [hi] at q; exact q.elim
        | some z =>
          cases z with
          | un =>
            rw [hi] at q
            simp only at q
            have rr := r4.app (hdd G4)
            have hL : ∀ c ∈ ((pp, qs.map fun q => V.ref q.1) :: qs : Ql), F4 c.1 = some (.lst c.2) := fun c hc => by
              rcases List.mem_cons.mp hc with z | z
              · rw [z]; exact f4p
              · exact f4q c z
            have ndL : (Ql.ad ((pp, qs.map fun q => V.ref q.1) :: qs)).Nodup := List.nodup_cons.mpr ⟨l9, l4⟩
            have nd2 : (adr (Ql.ls ((pp, qs.map fun q => V.ref q.1) :: qs))).Nodup := by rw [Ql.adr_ls]; exact ndL
            have exG : Ex G4 (putL G4 (Ql.ls ((pp, qs.map fun q => V.ref q.1) :: qs))) := fun a o h => by
              rw [putL_out (fun z => ?_)]
              · exact h
              · rw [Ql.adr_ls] at z
                obtain ⟨c, hc, rfl⟩ := List.mem_map.mp z
                rw [I4.dj _ _ (hL c hc)] at h
                cases h
            have gh : Ex (putL G4 (Ql.ls ((pp, qs.map fun q => V.ref q.1) :: qs))) H4 := fun a o h => by
              rcases putL_cases nd2 h with z | ⟨_, z⟩
              · obtain ⟨c, hc, e⟩ := List.mem_map.mp z
                cases e
                exact I4.fr _ _ (hL c hc)
              · exact I4.gh a o z
            have cell : ∀ c ∈ ((pp, qs.map fun q => V.ref q.1) :: qs : Ql), putL G4 (Ql.ls ((pp, qs.map fun q => V.ref q.1) :: qs)) c.1 = some (.lst c.2) := fun c hc => putL_in nd2 (Ql.mem_ls hc)
            have tcL : TupC (putL G4 (Ql.ls ((pp, qs.map fun q => V.ref q.1) :: qs))) H4 := fun a xs e => exG _ _ (I4.tc a xs e)
            have rp : RpA X.K (putL G4 (Ql.ls ((pp, qs.map fun q => V.ref q.1) :: qs))) (.ref pp :: (vs ++ dvs)) (.list (xss.map .list) :: (ds' ++ dds)) :=
              .cons (.lst (.inl (.inl (cell _ List.mem_cons_self))) (rp_nl (fun c hc => cell c (List.mem_cons_of_mem _ hc)) exG (l5.mono e4))) (rr.mono exG)
            refine show spF X.K X.mg n f (.ref pp :: (vs ++ dvs)) H4 _ _ from ⟨by rw [List.length_cons, rr.len]; exact hl2, 0, restH (putL G4 (Ql.ls ((pp, qs.map fun q => V.ref q.1) :: qs))) H4 none, _, (.list (xss.map .list) :: (ds' ++ dds)).map .d, IS.args gh tcL rp, ?_⟩
            show PoF _ _ _ _ _ _ _ _ (f (.d (.list (xss.map .list)) :: (ds' ++ dds).map .d))
            cases e : f (.d (.list (xss.map .list)) :: (ds' ++ dds).map .d) with
            | bad => rw [e] at q; exact q.elim
            | ex c as' => rw [e] at q; exact q.elim
            | ok rv as' =>
              rw [e] at q
              simp only at q
              by_cases hok : rvOk rv = true
              · rw [if_pos hok] at q
                intro G' H' v eg J
                obtain ⟨k1, k2⟩ := I4.lentL ndL hL eg J hok
                have k3 := k2.free (r := r) (k := none) (xss := xss) (i := i + 1) (p := pp) (qs := qs) (by simpa using hi) l1 l2 f4p l4 l9 f4q ((l5.mono e4).mono k1) (fun ks z => nomatch z)
                refine ⟨_, cnv_lsE l4 fun c hc => ?_, q _ _ _ g5 (e4.trans k1) (IS.tail k3) v k3⟩
                exact k2.fr _ _ (f4q c hc)
              · rw [if_neg hok] at q
                exact q.elim
          | _ => rw [hi] at q; exact q.elim
    · rw [if_neg hnl] at q
      exact q.elim
  · exact q.elim
/-! ### x[j].append(e), x[j].clear() -/
theorem ql_set {qs : Ql} {j : Nat} {q : Addr × List V} {vs : List V} (h : qs[j]? = some q) : (qs.set j (q.1, vs)).map (·.1) = qs.map (·.1) ∧ (qs.set j (q.1, vs)).map (fun q => V.ref q.1) = qs.map (fun q => V.ref q.1) ∧ (qs.set j (q.1, vs)).map (·.2) = (qs.map (·.2)).set j vs := by
  refine ⟨?_, ?_, by rw [List.map_set]⟩
  · rw [List.map_set]
    apply List.ext_getElem?
    intro i
    rw [List.getElem?_set]
    split
    · rename_i e
      subst e
      rw [List.getElem?_map, h]
      simp [(List.getElem?_eq_some_iff.mp h).1]
    · rfl
  · rw [List.map_set]
    apply List.ext_getElem?
    intro i
    rw [List.getElem?_set]
    split
    · rename_i e
      subst e
      rw [List.getElem?_map, h]
      simp [(List.getElem?_eq_some_iff.mp h).1]
    · rfl
theorem mem_set_cases {α : Type} {l : List α} {j : Nat} {a b : α} (h : b ∈ l.set j a) : b = a ∨ b ∈ l := by
  rcases List.mem_or_eq_of_mem_set h with z | z
  · exact .inr z
  · exact .inl z
theorem fst_inj {l : Ql} {a b : Addr × List V} (hn : (l.map (·.1)).Nodup) (ha : a ∈ l) (hb : b ∈ l) (he : a.1 = b.1) : a = b := by
  induction l with
  | nil => cases ha
  | cons c l ih =>
    have hn2 := List.nodup_cons.mp hn
    rcases List.mem_cons.mp ha with z | z
    · rcases List.mem_cons.mp hb with y | y
      · rw [z, y]
      · exact absurd (List.mem_map.mpr ⟨b, y, by rw [← he, z]⟩) hn2.1
    · rcases List.mem_cons.mp hb with y | y
      · exact absurd (List.mem_map.mpr ⟨a, z, by rw [he, y]⟩) hn2.1
      · exact ih hn2.2 z y
/-- behind it: the cell j of the slot i holds vs -/
theorem IS.freeAt {K : PySem.W.Frag} {F F4 G4 H4 : Hp} {σ : St} {s1 : S} {r : Bool} {xss : List (List D)} {i j : Nat} {p : Addr} {qs : Ql} {q0 : Addr × List V} {vs : List V} {xs : List D} (I4 : IS K T B F4 G4 H4 σ s1) (hi : s1[i]? = some .un) (hp : slA σ i = some (.ref p)) (hr : r = true → p = B) (f4p : F4 p = some (.lst (qs.map fun q => .ref q.1)))
    (nd : qs.ad.Nodup) (pq : p ∉ qs.ad) (f4q : ∀ q ∈ qs, F4 q.1 = some (.lst q.2)) (ra : RpAA K G4 (qs.map (·.2)) xss) (hj : qs[j]? = some q0) (rv : RpA K G4 vs xs) (g5 : Gr T F (delL F4 (p :: qs.ad))) :
    ∃ H5 F5, Cnv (upd H4 q0.1 (.lst vs)) H5 ∧ Gr T F F5 ∧ IS K T B F5 G4 H5 σ (s1.set i (.sp r (.nl none (xss.set j xs)))) := by
  have hm : q0 ∈ qs := List.mem_of_getElem? hj
  obtain ⟨s1', s2', s3'⟩ := ql_set (vs := vs) hj
  have np : p ≠ q0.1 := fun z => pq (by rw [z]; exact Ql.mem_ad hm)
  have J := I4.bump (ys := vs) (f4q q0 hm)
  have fq : ∀ q ∈ qs.set j (q0.1, vs), upd F4 q0.1 (.lst vs) q.1 = some (.lst q.2) := fun q hq => by
    by_cases e : q.1 = q0.1
    · have hq2 : q = (q0.1, vs) := by
        have nd' : ((qs.set j (q0.1, vs)).map (·.1)).Nodup := by rw [s1']; exact nd
        have hm2 : (q0.1, vs) ∈ qs.set j (q0.1, vs) := List.mem_set (List.getElem?_eq_some_iff.mp hj).1 _
        exact fst_inj nd' hq hm2 e
      rw [hq2, upd_same]
    · rw [upd_ne e]
      rcases mem_set_cases hq with z | z
      · exact absurd (by rw [z]) e
      · exact f4q q z
  have ad' : Ql.ad (qs.set j (q0.1, vs)) = qs.ad := s1'
  have k3 := J.free (r := r) (k := none) (xss := xss.set j xs) (i := i) (p := p) (qs := qs.set j (q0.1, vs)) hi hp hr (by rw [upd_ne np, f4p, s2']; rfl) (by rw [ad']; exact nd) (by rw [ad']; exact pq) fq (by rw [s3']; exact ra.set rv j) (fun ks z => nomatch z)
  refine ⟨_, _, cnv_lsE (qs := qs.set j (q0.1, vs)) (by rw [ad']; exact nd) (fun c hc => J.fr _ _ (fq c hc)), ?_, k3⟩
  have eF : delL (upd F4 q0.1 (.lst vs)) (p :: Ql.ad (qs.set j (q0.1, vs))) = delL F4 (p :: qs.ad) := by
    rw [ad']
    funext a
    by_cases ha : a ∈ p :: qs.ad
    · rw [delL_in ha, delL_in ha]
    · rw [delL_of ha rfl, delL_of ha rfl]
      exact upd_ne (fun z => ha (by rw [z]; exact List.mem_cons_of_mem _ (Ql.mem_ad hm)))
  rw [eF]
  exact g5
def gNlApp (i j : Nat) (f : M D) : S → Out := fun s => match s[i]? with
  | some (.sp r (.nl none xss)) => if nlF (s.set i .un) = true then (match xss[j]? with
    | some xs => if xs.length < lim then (match f (s.set i .un) with
      | .ok d s1 => (match s1[i]? with
        | some .un => .nx (s1.set i (.sp r (.nl none (xss.set j (xs ++ [d])))))
        | _ => .bad)
      | _ => .bad) else .bad
    | none => .bad) else .bad
  | _ => .bad
theorem ds_nlApp (i j : Nat) {y : Str} {e : Expr} {f : M D} {p sp apos cpos pos : Pos} {kk : Nat} {pc : Pos} (h : DE X T B W e f) (hN : X.N[i]? = some y := by rfl) (hv : Vis X.env.scope y := by first | exact Or.inl rfl | exact Or.inr (Or.inl rfl) | exact Or.inr (Or.inr rfl)) (hdy : (y == ("__debug__" : Str)) = false := by decide)
    (hcd : (y == ("__classdict__" : Str)) = false := by decide) (hbase : attributeBase (.Subscript (.Name y p) (.Constant (.int j) kk pc) sp) "append" X.env (eval (.Subscript (.Name y p) (.Constant (.int j) kk pc) sp) X.env) = eval (.Subscript (.Name y p) (.Constant (.int j) kk pc) sp) X.env := by rfl)
    (hfew : ((backTo cpos (starEach [e] X.env)).all (fun x => !x.1) && (backToKw cpos (keywordEach [] X.env)).all (fun x => x.1.isSome) && decide (([e] : List Expr).length + ([] : List Keyword).length + (if ([] : List Keyword).isEmpty then 0 else 1) < 30)) = true := by rfl)
    (hline : (apos.endLine == cpos.line) = true := by rfl) (hst : starEach [e] X.env = (false, eval e X.env) :: starEach [] X.env := by rfl) (hplain : (backTo cpos (starEach [] X.env)).any (·.1) = false := by rfl) (hs : swapsWith (.Call (.Attribute (.Subscript (.Name y p) (.Constant (.int j) kk pc) sp) "append" apos) [e] [] cpos) none pos.line X.env = pure false := by rfl)
    (hpi : PlainIx (.Constant (.int j) kk pc) := by intro _ _; rfl) :
    DS X T B W (.Expr (.Call (.Attribute (.Subscript (.Name y p) (.Constant (.int j) kk pc) sp) "append" apos) [e] [] cpos) pos) (gNlApp i j f) := ps_weak (ps_cnv (ps_expr (pe_bm PySem.F.plainAttrs_list PySem.F.slot_list_append PySem.F.type_list_append mt_append (pe_ix ix_list (pe_var (i := i) (pos := p) hN hv hdy hcd) pe_int hpi) (pa_cons h pa_nil hst) hbase hfew hline hst hplain) hs)) fun D σ H ⟨F, G, s, I, q⟩ => by
  unfold gNlApp at q
  split at q
  · rename_i r xss hx
    by_cases hnl : nlF (s.set i .un) = true
    · rw [if_pos hnl] at q
      obtain ⟨pp, qs, l1, l2, l3, l4, l5, l6, l7, l8, l9, l10⟩ := I.nl hx
      cases hj : xss[j]? with
      | none => rw [hj] at q; exact q.elim
      | some xs =>
        rw [hj] at q
        simp only at q
        by_cases hl : xs.length < lim
        · rw [if_pos hl] at q
          have jl : j < qs.length := by
            have h1 := (List.getElem?_eq_some_iff.mp hj).1
            have h2 := l5.len
            rw [List.length_map] at h2
            omega
          have hq0 : qs[j]? = some qs[j] := List.getElem?_eq_getElem jl
          have Ih := I.hold hx hnl l1 l3 rfl l4 l7 l8 l9 l10
          have adL : (adr ((pp, nlU none (qs.map fun q => V.ref q.1)) :: qs.ls)).Nodup := by
            show (pp :: adr qs.ls).Nodup
            rw [Ql.adr_ls]
            exact List.nodup_cons.mpr ⟨l9, l4⟩
          have hp0 : putL H qs.ls pp = some (.lst (qs.map fun q => V.ref q.1)) := by
            rw [putL_out (by rw [Ql.adr_ls]; exact l9)]
            exact l3
          have hq1 : putL H qs.ls qs[j].1 = some (.lst qs[j].2) := putL_in (by rw [Ql.adr_ls]; exact l4) (Ql.mem_ls (List.getElem_mem jl))
          refine ⟨_, cnv_esL l4 fun q hq => (l10 q hq).1, _, slA_some l1, pp, _, (j : Int), .ref qs[j].1, rfl, rfl, SqL.of hp0, atI_nat (by rw [List.getElem?_map, hq0]; rfl), .inl ⟨rfl, _, SqL.of hq1⟩, _, G, _, Ih, ?_⟩
          cases ef : f (s.set i .un) with
          | bad => rw [ef] at q; exact q.elim
          | ex c s1 => rw [ef] at q; exact q.elim
          | ok d s1 =>
            rw [ef] at q
            simp only at q
            intro F4 G4 H4 g4 e4 I4 v r4
            obtain ⟨g5, f4p, f4q⟩ := gr_free (u := .lst (qs.map fun q => V.ref q.1)) l8 (fun q hq => (l10 q hq).2.2) l4 l9 (fun ps z => nomatch z) g4
            cases hi : s1[i]? with
            | none => rw [hi] at q; exact q.elim
            | some z =>
              cases z with
              | un =>
                rw [hi] at q
                simp only at q
                have rj : RpA X.K G4 qs[j].2 xs := (l5.mono e4).get (by rw [List.getElem?_map, hq0]; rfl) hj
                obtain ⟨H5, F5, c5, g6, I5⟩ := I4.freeAt (F := F) hi l1 l2 f4p l4 l9 f4q (l5.mono e4) hq0 (rj.app (.one r4)) g5
                exact ⟨qs[j].1, qs[j].2, v, rfl, rfl, I4.fr _ _ (f4q _ (List.getElem_mem jl)), lim_lt (by rw [rj.len]; exact hl), H5, c5, q F5 G4 H5 σ g6 e4 I5⟩
              | _ => rw [hi] at q; exact q.elim
        · rw [if_neg hl] at q
          exact q.elim
    · rw [if_neg hnl] at q
      exact q.elim
  · exact q.elim
def gNlClr (i j : Nat) : S → Out := fun s => match s[i]? with
  | some (.sp r (.nl none xss)) => if nlF (s.set i .un) = true ∧ j < xss.length then .nx (s.set i (.sp r (.nl none (xss.set j [])))) else .bad
  | _ => .bad
theorem set_set_un {s : S} {i : Nat} {a b : SV} : (s.set i a).set i b = s.set i b := by simp
theorem ds_nlClr (i j : Nat) {y : Str} {p sp apos cpos pos : Pos} {kk : Nat} {pc : Pos} (hN : X.N[i]? = some y := by rfl) (hv : Vis X.env.scope y := by first | exact Or.inl rfl | exact Or.inr (Or.inl rfl) | exact Or.inr (Or.inr rfl)) (hdy : (y == ("__debug__" : Str)) = false := by decide)
    (hcd : (y == ("__classdict__" : Str)) = false := by decide) (hbase : attributeBase (.Subscript (.Name y p) (.Constant (.int j) kk pc) sp) "clear" X.env (eval (.Subscript (.Name y p) (.Constant (.int j) kk pc) sp) X.env) = eval (.Subscript (.Name y p) (.Constant (.int j) kk pc) sp) X.env := by rfl)
    (hline : (apos.endLine == cpos.line) = true := by rfl) (hs : swapsWith (.Call (.Attribute (.Subscript (.Name y p) (.Constant (.int j) kk pc) sp) "clear" apos) [] [] cpos) none pos.line X.env = pure false := by rfl) (hpi : PlainIx (.Constant (.int j) kk pc) := by intro _ _; rfl) :
    DS X T B W (.Expr (.Call (.Attribute (.Subscript (.Name y p) (.Constant (.int j) kk pc) sp) "clear" apos) [] [] cpos) pos) (gNlClr i j) := ps_weak (ps_cnv (ps_expr (pe_bm0 PySem.F.plainAttrs_list PySem.F.slot_list_clear PySem.F.type_list_clear mt_clear (pe_ix ix_list (pe_var (i := i) (pos := p) hN hv hdy hcd) pe_int hpi) hbase hline) hs)) fun D σ H ⟨F, G, s, I, q⟩ => by
  unfold gNlClr at q
  split at q
  · rename_i r xss hx
    by_cases hc : nlF (s.set i .un) = true ∧ j < xss.length
    · rw [if_pos hc] at q
      obtain ⟨pp, qs, l1, l2, l3, l4, l5, l6, l7, l8, l9, l10⟩ := I.nl hx
      have jl : j < qs.length := by
        have h2 := l5.len
        rw [List.length_map] at h2
        omega
      have hq0 : qs[j]? = some qs[j] := List.getElem?_eq_getElem jl
      have Ih := I.hold hx hc.1 l1 l3 rfl l4 l7 l8 l9 l10
      have hp0 : putL H qs.ls pp = some (.lst (qs.map fun q => V.ref q.1)) := by
        rw [putL_out (by rw [Ql.adr_ls]; exact l9)]
        exact l3
      have hq1 : putL H qs.ls qs[j].1 = some (.lst qs[j].2) := putL_in (by rw [Ql.adr_ls]; exact l4) (Ql.mem_ls (List.getElem_mem jl))
      obtain ⟨g5, f4p, f4q⟩ := gr_free (T := T) (u := .lst (qs.map fun q => V.ref q.1)) l8 (fun q hq => (l10 q hq).2.2) l4 l9 (fun ps z => nomatch z) Gr.refl
      have hi : (s.set i .un)[i]? = some .un := by
        rw [List.getElem?_set]
        simp [(List.getElem?_eq_some_iff.mp hx).1]
      obtain ⟨H5, F5, c5, g6, I5⟩ := Ih.freeAt (F := F) (r := r) hi l1 l2 f4p l4 l9 f4q l5 hq0 (vs := []) .nil g5
      rw [set_set_un] at I5
      exact ⟨_, cnv_esL l4 fun q hq => (l10 q hq).1, _, slA_some l1, pp, _, (j : Int), .ref qs[j].1, rfl, rfl, SqL.of hp0, atI_nat (by rw [List.getElem?_map, hq0]; rfl), .inl ⟨rfl, _, SqL.of hq1⟩, qs[j].1, qs[j].2, rfl, rfl, hq1, H5, c5, q F5 G H5 σ g6 (Ex.refl G) I5⟩
    · rw [if_neg hc] at q
      exact q.elim
  · exact q.elim
end
end DL
set_option Elab.async false
set_option linter.all false
set_option maxRecDepth 100000
set_option maxHeartbeats 4000000
namespace DL
open PySem PySem.Spec L2
open PyProof.Rows hiding St
open PySem.W (dataLe dataLt alike)
/-! DL97: for y in x: y.append(e), x an own list of own lists; slots forgotten; the wp rules of DL96 -/
open Evl (Ex ex_l ex_t ex_rd)
section
variable {K : PySem.W.Frag} {T : List (Addr × Str)} {B : Addr} {F F' G G' H H' : Hp} {σ : St} {s : S} {x : SV} {o : Option V}
end
def gNlFor (i j : Nat) (d : D) : S → Out := fun s => match s[i]? with
  | some (.sp r (.nl none xss)) => if nlF (s.set i .un) = true ∧ i ≠ j ∧ j < s.length ∧ (∀ xs ∈ xss, xs.length < lim) then .nx ((s.set i .un).set j .un) else .bad
  | _ => .bad
section
variable {X : Cx} {T : List (Addr × Str)} {B : Addr} {W : WX}
/-! ### slots forgotten -/
def blurS : List Nat → S → S
  | [], s => s
  | v :: vs, s => blurS vs (s.set v .un)
def gBlur (vs : List Nat) (g : S → Out) : S → Out := fun s => g (blurS vs s)
theorem IS.blurS {K : PySem.W.Frag} {F G H : Hp} {σ : St} : ∀ {vs : List Nat} {s : S}, IS K T B F G H σ s → IS K T B F G H σ (DL.blurS vs s)
  | [], _, I => I
  | v :: vs, _, I => IS.blurS (vs := vs) (I.blur v)
theorem dss_blur (vs : List Nat) {st : List Stmt} {g : S → Out} (h : DSs X T B W st g) : DSs X T B W st (gBlur vs g) := pss_weak h fun D σ H ⟨F, G, s, I, q⟩ => ⟨F, G, _, I.blurS, q⟩
end
/-! ### wp -/
def WN (x : SV) (Q : List D → Prop) (_ : Kt Q := ⟨⟩) : Prop := match x with
  | .ol false xs => Q xs
  | _ => False
theorem wn_ol {xs : List D} {Q : List D → Prop} : WN (.ol false xs) Q = Q xs := rfl
def WNl (o : Option SV) (Q : Bool → List (List D) → Prop) (_ : Kt Q := ⟨⟩) : Prop := match o with
  | some (.sp r (.nl none xss)) => Q r xss
  | _ => False
theorem wnl_nl {r : Bool} {xss : List (List D)} {Q : Bool → List (List D) → Prop} : WNl (some (.sp r (.nl none xss))) Q = Q r xss := rfl
def WU (o : Option SV) (P : Unit → Prop) (_ : Kt P := ⟨⟩) : Prop := match o with
  | some .un => P ()
  | _ => False
theorem wu_un {P : Unit → Prop} : WU (some .un) P = P () := rfl
theorem nlF_nil : nlF [] = true := rfl
theorem nlF_d {d : D} {s : S} : nlF (.d d :: s) = nlF s := rfl
theorem nlF_un {s : S} : nlF (.un :: s) = nlF s := rfl
theorem nlF_ol {r : Bool} {xs : List D} {s : S} : nlF (.ol r xs :: s) = nlF s := rfl
theorem nlF_od {r : Bool} {ks : List Key} {xs : List D} {s : S} : nlF (.od r ks xs :: s) = nlF s := rfl
theorem nlF_fd {r : Bool} {ks : List (List Key)} {xs : List D} {s : S} : nlF (.fd r ks xs :: s) = nlF s := rfl
theorem blur_nil {s : S} : blurS [] s = s := rfl
theorem blur_cons {v : Nat} {vs : List Nat} {s : S} : blurS (v :: vs) s = blurS vs (s.set v .un) := rfl
section
variable {s : S} {Qd : D → S → Prop} {Qv : SV → S → Prop} {X : Exc → S → Prop} {N : S → Prop} {R : SV → S → Prop} {B C : S → Prop}
theorem wo_blur {vs : List Nat} {g : S → Out} : WO (gBlur vs g s) N R B C X = WO (g (blurS vs s)) N R B C X := rfl
theorem wx_nls0 {Q : List (List D) → S → Prop} : WQ (oNls [] s) Q X = Q [] s := rfl
theorem wx_nls {f : M SV} {r : List (M SV)} {Q : List (List D) → S → Prop} : WQ (oNls (f :: r) s) Q X = WQ (f s) (fun x s1 => WN x fun xs => WQ (oNls r s1) (fun xss s2 => Q (xs :: xss) s2) (fun _ _ => False)) (fun _ _ => False) := by
  unfold oNls
  cases f s with
  | bad => rfl
  | ex c s1 => rfl
  | ok x s1 =>
    cases x with
    | ol r xs =>
      cases r with
      | true => rfl
      | false =>
        simp only
        show WQ _ _ _ = WQ (oNls _ s1) _ _
        cases oNls _ s1 <;> rfl
    | _ => rfl
theorem wx_nl {fs : List (M SV)} : WQ (oNl fs s) Qv X = WQ (oNls fs s) (fun xss s1 => xss.length ≤ lim ∧ Qv (.sp false (.nl none xss)) s1) (fun _ _ => False) := by
  unfold oNl
  cases oNls fs s with
  | bad => rfl
  | ex c s1 => rfl
  | ok xss s1 =>
    simp only
    by_cases h : xss.length ≤ lim
    · rw [if_pos h]
      simp [h, WQ]
    · rw [if_neg h]
      simp [h, WQ]
theorem wx_callN {i : Nat} {f : S → Res SV} {dds : List D} {fa : M (List D)} : WQ (oCallN i f dds fa s) Qv X = WNl (s[i]?) fun r xss => nlF (s.set i .un) = true ∧ WQ (fa (s.set i .un)) (fun ds s1 => WU (s1[i]?) fun _ => WBr (some (.ol false (xss.map .list))) f ((ds ++ dds).map .d) (fun rv => Qv rv (s1.set i (.sp r (.nl none xss)))) (fun _ => False)) (fun _ _ => False) := by
  unfold oCallN
  split
  · rename_i r xss hx
    rw [hx, wnl_nl]
    by_cases h : nlF (s.set i .un) = true
    · rw [if_pos h]
      simp only [h, true_and]
      cases fa (s.set i .un) with
      | bad => rfl
      | ex c s1 => rfl
      | ok ds s1 =>
        simp only
        rw [wx_ok]
        cases hi : s1[i]? with
        | none => rfl
        | some z =>
          cases z with
          | un =>
            simp only
            show WQ _ _ _ = (match f (.d (.list (xss.map .list)) :: (ds ++ dds).map .d) with
              | .ok rv _ => rvOk rv = true ∧ Qv rv (s1.set i (.sp r (.nl none xss)))
              | _ => False)
            cases f (.d (.list (xss.map .list)) :: (ds ++ dds).map .d) with
            | bad => rfl
            | ex c s2 => rfl
            | ok rv as =>
              simp only
              by_cases h2 : rvOk rv = true
              · rw [if_pos h2]; simp [h2, WQ]
              · rw [if_neg h2]; simp [h2, WQ]
          | _ => rfl
    · rw [if_neg h]
      simp [h, WQ]
  · rename_i h
    show False = WNl (s[i]?) _
    unfold WNl
    split
    · rename_i r xss hx
      exact absurd hx (h r xss)
    · rfl
theorem wo_nlApp {i j : Nat} {f : M D} : WO (gNlApp i j f s) N R B C X = WNl (s[i]?) fun r xss => nlF (s.set i .un) = true ∧ WL (xss[j]?) fun xs => xs.length < lim ∧ WQ (f (s.set i .un)) (fun d s1 => WU (s1[i]?) fun _ => N (s1.set i (.sp r (.nl none (xss.set j (xs ++ [d])))))) (fun _ _ => False) := by
  unfold gNlApp
  split
  · rename_i r xss hx
    rw [hx, wnl_nl]
    by_cases h : nlF (s.set i .un) = true
    · rw [if_pos h]
      simp only [h, true_and]
      cases xss[j]? with
      | none => rfl
      | some xs =>
        simp only
        rw [wl_some]
        by_cases h2 : xs.length < lim
        · rw [if_pos h2]
          simp only [h2, true_and]
          cases f (s.set i .un) with
          | bad => rfl
          | ex c s1 => rfl
          | ok d s1 =>
            simp only
            rw [wx_ok]
            cases hi : s1[i]? with
            | none => rfl
            | some z => cases z <;> rfl
        · rw [if_neg h2]
          simp [h2, WO]
    · rw [if_neg h]
      simp [h, WO]
  · rename_i h
    show False = WNl (s[i]?) _
    unfold WNl
    split
    · rename_i r xss hx
      exact absurd hx (h r xss)
    · rfl
theorem wo_nlClr {i j : Nat} : WO (gNlClr i j s) N R B C X = WNl (s[i]?) fun r xss => (nlF (s.set i .un) = true ∧ j < xss.length) ∧ N (s.set i (.sp r (.nl none (xss.set j [])))) := by
  unfold gNlClr
  split
  · rename_i r xss hx
    rw [hx, wnl_nl]
    by_cases h : nlF (s.set i .un) = true ∧ j < xss.length
    · rw [if_pos h]
      simp [h, WO]
    · rw [if_neg h]
      simp only [h, false_and]
      rfl
  · rename_i h
    show False = WNl (s[i]?) _
    unfold WNl
    split
    · rename_i r xss hx
      exact absurd hx (h r xss)
    · rfl
theorem wo_nlFor {i j : Nat} {d : D} : WO (gNlFor i j d s) N R B C X = WNl (s[i]?) fun r xss => (nlF (s.set i .un) = true ∧ i ≠ j ∧ j < s.length ∧ (∀ xs ∈ xss, xs.length < lim)) ∧ N ((s.set i .un).set j .un) := by
  unfold gNlFor
  split
  · rename_i r xss hx
    rw [hx, wnl_nl]
    by_cases h : nlF (s.set i .un) = true ∧ i ≠ j ∧ j < s.length ∧ (∀ xs ∈ xss, xs.length < lim)
    · rw [if_pos h]
      exact propext ⟨fun z => ⟨h, z⟩, fun z => z.2⟩
    · rw [if_neg h]
      exact propext ⟨fun z => z.elim, fun z => h z.1⟩
  · rename_i h
    show False = WNl (s[i]?) _
    unfold WNl
    split
    · rename_i r xss hx
      exact absurd hx (h r xss)
    · rfl
end
end DL
set_option Elab.async false
set_option linter.all false
set_option maxRecDepth 100000
set_option maxHeartbeats 4000000
namespace DL
open PySem PySem.Spec L2
open PyProof.Rows hiding St
open PySem.W (dataLe dataLt alike)
/-! DL98: dict(e).get(k, z); tuple(e); a <= b <= c as a value; *=; list(range(n)); range(a, b, -1); [.. for .. for ..] -/
open Evl (Ex ex_l ex_t ex_rd)
section
variable {X : Cx} {T : List (Addr × Str)} {B : Addr} {W : WX} {tg : Expr}
/-! ### a dict made on the spot, and asked -/
def mDgetO (fo : M SV) (fk fz : M D) : M D := fun s => match fo s with
  | .ok (.od false ks xs) s1 => (match fk s1 with
    | .ok k s2 => (match fz s2 with
      | .ok z s3 => (match keyD k with
        | some kk => .ok ((lookK ks xs kk).getD z) s3
        | none => .bad)
      | _ => .bad)
    | _ => .bad)
  | _ => .bad
/-! ### tuple(e) -/
def dTupl : D → Option D
  | .list xs => some (.tuple xs)
  | .tuple xs => some (.tuple xs)
  | _ => none
/-! ### chains as values -/
/-! ### *= -/
def dMulI : D → D → Option D := dII (fun i j => decide (-(2 ^ 64) < i ∧ i < 2 ^ 64)) fun a b => .int (a * b)
def ipM : TIp := fun x y H Q => ∃ i j, x = .int i ∧ y = .int j ∧ (-(2 ^ 64) < i ∧ i < 2 ^ 64) ∧ Q (.int (i * j)) H
/-! ### list(range(n)), range(a, b, -1) -/
def oRgL (f : M D) : M SV := mUn (fun d => match d with
  | .int n => if -1 ≤ n ∧ n ≤ 10000 then some (.ol false (rangeD 0 n.toNat)) else none
  | _ => none) f
def downD (i : Int) (n : Nat) : List D := (List.range n).map fun (k : Nat) => .int (i + (k : Int) * (-1))
def dRngD : D → D → Option (List D)
  | .int i, .int j => if rngOk i = true ∧ rngOk j = true then some (downD i (i - j).toNat) else none
  | _, _ => none
end
/-! ### wp -/
section
variable {s : S} {Qd : D → S → Prop} {Qv : SV → S → Prop} {X : Exc → S → Prop} {N : S → Prop} {R : SV → S → Prop} {B C : S → Prop}
def WOd (x : SV) (Q : List Key → List D → Prop) (_ : Kt Q := ⟨⟩) : Prop := match x with
  | .od false ks xs => Q ks xs
  | _ => False
theorem wod_od {ks : List Key} {xs : List D} {Q : List Key → List D → Prop} : WOd (.od false ks xs) Q = Q ks xs := rfl
theorem wx_dgetO {fo : M SV} {fk fz : M D} : WQ (mDgetO fo fk fz s) Qd X = WQ (fo s) (fun x s1 => WOd x fun ks xs => WQ (fk s1) (fun k s2 => WQ (fz s2) (fun z s3 => WL (keyD k) fun kk => Qd ((lookK ks xs kk).getD z) s3) (fun _ _ => False)) (fun _ _ => False)) (fun _ _ => False) := by
  unfold mDgetO
  cases fo s with
  | bad => rfl
  | ex c s1 => rfl
  | ok x s1 =>
    rw [wx_ok]
    cases x with
    | od r ks xs =>
      cases r with
      | true => rfl
      | false =>
        simp only
        rw [wod_od]
        cases fk s1 with
        | bad => rfl
        | ex c s2 => rfl
        | ok k s2 =>
          simp only
          rw [wx_ok]
          cases fz s2 with
          | bad => rfl
          | ex c s3 => rfl
          | ok z s3 =>
            simp only
            rw [wx_ok]
            cases keyD k <;> rfl
    | _ => rfl
theorem tupl_l {xs : List D} : dTupl (.list xs) = some (.tuple xs) := rfl
theorem tupl_t {xs : List D} : dTupl (.tuple xs) = some (.tuple xs) := rfl
theorem wl_mulA {a b : Int} {Q : D → Prop} : WL (dMulI (.int a) (.int b)) Q = ((-(2 ^ 64) < a ∧ a < 2 ^ 64) ∧ Q (.int (a * b))) := by
  show WL (if decide (-(2 ^ 64) < a ∧ a < 2 ^ 64) = true then some (PyData.int (a * b)) else none) Q = _
  rw [wl_if]
  simp only [decide_eq_true_eq]
theorem wx_rgL {f : M D} : WQ (oRgL f s) Qv X = WQ (f s) (fun d s1 => WL (match d with | .int n => if -1 ≤ n ∧ n ≤ 10000 then some (SV.ol false (rangeD 0 n.toNat)) else none | _ => none) fun z => Qv z s1) X := wx_un
end
end DL
set_option Elab.async false
set_option linter.all false
set_option maxRecDepth 100000
set_option maxHeartbeats 4000000
namespace DL
open PySem PySem.Spec L2
open PyProof.Rows hiding St
open PySem.W (dataLe dataLt alike)
/-! DL99: dicts whose keys are tuples: {}, sorted(x), x walked -/
open Evl (Ex ex_l ex_t ex_rd)
open PySem.W (EachIs AllAlike Sortable dataLe KeepsBut)
section
variable {X : Cx}
def rSortT (K : PySem.W.Frag) : List V → Hp → VK → Prop := fun vs H Q => ∃ (a : Addr) (kvs : List (List Key × V)), vs = [.ref a] ∧ Rd H a (.dT kvs) ∧ sortOk ((kvs.map (·.1)).map kT) = true ∧
  ∀ p ys, H p = none → (∀ G, TupC G H → RpA K G ys (((kvs.map (·.1)).map kT).mergeSort (dataLe false id))) → Q (.ref p) (upd H p (.lst ys))
end
/-- sorted(x), x a dict of either kind of keys -/
def dSortT : D → Option (List D)
  | .dict kvs => if sortOk (kvs.map (·.1)) = true then some ((kvs.map (·.1)).mergeSort (dataLe false id)) else none
  | _ => none
def oSortT (fe : M D) : M SV := mUn (fun d => (dSortT d).map (.ol false ·)) fe
section
variable {X : Cx} {T : List (Addr × Str)} {B : Addr} {W : WX} {tg : Expr}
end
/-! ### wp -/
section
variable {s : S} {Qd : D → S → Prop} {Qv : SV → S → Prop} {X : Exc → S → Prop}
theorem wx_sortT {f : M D} : WQ (oSortT f s) Qv X = WQ (f s) (fun d s1 => WL (dSortT d) fun xs => Qv (.ol false xs) s1) X := by
  unfold oSortT
  rw [wx_un]
  refine wx_ext fun d s1 => ?_
  cases dSortT d <;> rfl
end
end DL
set_option Elab.async false
set_option linter.all false
set_option maxRecDepth 100000
set_option maxHeartbeats 4000000
local macro_rules | `(tactic| walk_at "run") => `(tactic| try simp only [DL.wo_seq, DL.wx_dgetO, DL.wod_od, DL.tupl_l, DL.tupl_t, DL.wl_mulA, DL.wx_rgL, DL.wo_blur, DL.blur_nil, DL.blur_cons, DL.wx_nls0, DL.wx_nls, DL.wx_nl, DL.wn_ol, DL.wx_callN, DL.wnl_nl, DL.wu_un, DL.wo_nlApp, DL.wo_nlClr, DL.wo_nlFor, DL.nlF_nil, DL.nlF_d, DL.nlF_un, DL.nlF_ol, DL.nlF_od, DL.nlF_fd, DL.wo_nil, DL.wo_set, DL.wo_setO, DL.wo_ret, DL.wo_if, DL.wo_drop, DL.wo_asg, DL.wo_par, DL.wo_aug, DL.wo_for, DL.wo_raise, DL.wo_app, DL.wo_setIx, DL.wo_nx, DL.wo_rt, DL.wo_bk, DL.wo_ct, DL.wo_ex, DL.wx_ok, DL.wx_ex, DL.wx_op, DL.wx_un, DL.wx_C, DL.wx_ret, DL.wx_var, DL.wx_nil, DL.wx_cons, DL.wx_tru, DL.wx_not, DL.wx_and, DL.wx_or, DL.wx_andV, DL.wx_orV, DL.wx_notV, DL.wx_if, DL.wx_chain, DL.wx_tup, DL.wx_lst, DL.wx_olst, DL.wx_oD, DL.wx_F, DL.wx_list, DL.wx_nop, DL.wx_p, DL.wx_sl, DL.wx_call, DL.wx_callW, DL.wx_callR, DL.wx_pix, DL.wx_plen, DL.wx_din, DL.wx_dget2, DL.wx_move, DL.wx_why, DL.wl_some, DL.wf_okD, DL.wf_okL, DL.wf_okM, DL.wf_okT, DL.wf_ex, DL.wv_d, DL.wv_ol, DL.wv_od, DL.wv_fd, DL.wb_t, DL.wb_f, DL.wt_b, DL.wh_d, DL.wh_ol, DL.wh_od, DL.wh_fd, DL.wm_d, DL.wm_ol, DL.wm_od, DL.wm_fd, DL.dat_d, DL.dat_ol, DL.dat_od, DL.dat_fd, DL.d_add, DL.d_sub, DL.d_lt, DL.d_le, DL.d_gt, DL.d_ge, DL.d_tru, DL.d_eqInt, DL.d_neg, DL.tg_name, DL.tg_tup2, DL.tg_tup3, DL.ixv_l, DL.ixv_t, DL.ixv_s, DL.ixv_dd, DL.ixv_ol, DL.ixv_od, DL.ixv_fd, DL.ix_t0, DL.ix_t1, DL.ix_t2, DL.ix_l0, DL.ix_l1, DL.ix_l2, DL.d_asB, DL.d_ok0, DL.d_ok1, DL.d_ok2, DL.d_ok3, DL.d_ok4, DL.key_s, DL.key_i, DL.len_ol, DL.len_l, DL.len_t, DL.it_l, DL.it_t, DL.seq_l, DL.seq_t, DL.tru_i, DL.tru_l, DL.tru_n, DL.lk_od, DL.lk_odi, DL.isD_od, DL.isD_fd, DL.isD_d, DL.if_tt, DL.pick_nil, DL.pick_cons, DL.wl_addS, DL.wl_lenS, DL.seq_S, DL.tg_eP, DL.wl_mod, DL.wl_mulI, DL.wl_divI, DL.it_S, DL.wl_powI, DL.wl_rng1, DL.wl_rng2, DL.wx_callB, DL.wx_eqB, DL.wo_clear, DL.wx_pop, DL.wbr_d, DL.tg_list2, DL.tg_list3, DL.wx_dictR, DL.wx_dictD, DL.rest_nil, DL.rest_cons, DL.rst_d, DL.rst_un, DL.wx_cat, DL.wl_cat, DL.wx_disp1, DL.key_W, DL.wx_minS, DL.wipe_nil, DL.wipe_cons, DL.wx_rep, DL.wl_catS, DL.wrep_ol, DL.wx_sortD, DL.wx_callV, DL.wx_fld, DL.wo_star, DL.wst_l, DL.wx_kwL, DL.wh_sp, DL.wh_fv, DL.fo_rest, DL.fk_rest, DL.fk_done, DL.fk_step, DL.fk_run, DL.fk_told, DL.fk_back, DL.fk_left, DL.fo_done, DL.fo_step, DL.fo_run, DL.fo_told, DL.fo_back, DL.fo_left, DL.fp_rest0, DL.fp_done1, DL.fp_rest, DL.fp_done, DL.fl_0, DL.fl_1, DL.fl_2, DL.wo_fld, DL.wfl_ob, DL.wx_meth, DL.wx_make, DL.wo_tryB, DL.wx_listB, DL.wx_callF, DL.fv_same, DL.wm_fv, DL.wm_sp, DL.wx_listS, DL.wx_sortS, DL.wx_popAt, DL.wpop_ol, DL.wx_peek, DL.wx_pickB, Option.toList_some, List.set_cons_zero, List.set_cons_succ, List.getElem?_cons_zero, List.getElem?_cons_succ, Option.bind_some, Option.map_some, List.nil_append, List.cons_append, List.append_nil, List.map_cons, List.map_nil, and_true, true_and, reduceIte, Bool.false_eq_true, Bool.not_true, Bool.not_false])
namespace DL
open PySem PySem.Spec L2
open PyProof.Rows hiding St
open PySem.W (dataLe dataLt alike)
/-! DL100: dicts by any keys; words drawn apart -/
/-! ### dicts by keys, generic -/
section
variable {α β κ : Type} [DecidableEq α] [BEq α] [LawfulBEq α] [DecidableEq κ]
def hput : List (α × β) → α → β → List (α × β)
  | [], w, q => [(w, q)]
  | (a, p) :: r, w, q => if a = w then (a, q) :: r else (a, p) :: hput r w q
def hkeys (l : List (α × β)) : List α := l.map (·.1)
variable {f : α → κ} {g : β → D}
theorem hkeys_hput : ∀ (t : List (α × β)) (w : α) (q : β), hkeys (hput t w q) = if w ∈ hkeys t then hkeys t else hkeys t ++ [w]
  | [], w, q => rfl
  | (a, x) :: r, w, q => by
    unfold hput
    by_cases h : a = w
    · rw [if_pos h, if_pos (by rw [← h]; exact List.mem_cons_self)]
      rfl
    · rw [if_neg h]
      show a :: hkeys (hput r w q) = if w ∈ a :: hkeys r then a :: hkeys r else (a :: hkeys r) ++ [w]
      rw [hkeys_hput r w q]
      by_cases hm : w ∈ hkeys r
      · rw [if_pos hm, if_pos (List.mem_cons_of_mem _ hm)]
      · rw [if_neg hm, if_neg (fun z => by
          rcases List.mem_cons.mp z with y | y
          · exact h y.symm
          · exact hm y)]
        rfl
theorem hput_nd {t : List (α × β)} (h : (hkeys t).Nodup) (w : α) (q : β) : (hkeys (hput t w q)).Nodup := by
  rw [hkeys_hput]
  split
  · exact h
  · rename_i hm
    rw [List.nodup_append]
    exact ⟨h, List.nodup_cons.mpr ⟨(fun z => nomatch z), List.nodup_nil⟩, fun a ha b hb e => hm (by rw [← List.mem_singleton.mp hb, ← e]; exact ha)⟩
theorem hput_len (t : List (α × β)) (w : α) (q : β) : (hput t w q).length ≤ t.length + 1 := by
  have := congrArg List.length (hkeys_hput t w q)
  unfold hkeys at this
  rw [List.length_map] at this
  rw [this]
  split
  · rw [List.length_map]; omega
  · rw [List.length_append, List.length_map]; simp
theorem hput_look : ∀ (t : List (α × β)) (w : α) (q : β) (x : α), (hput t w q).lookup x = if x = w then some q else t.lookup x
  | [], w, q, x => by
    show ([(w, q)] : List (α × β)).lookup x = _
    rw [List.lookup_cons]
    by_cases h : x = w
    · rw [if_pos h, h]; simp
    · rw [if_neg h, beq_false_of_ne h]
  | (a, p) :: r, w, q, x => by
    unfold hput
    by_cases h : a = w
    · rw [if_pos h, List.lookup_cons, List.lookup_cons]
      by_cases e : x = w
      · rw [if_pos e, h, e]; simp
      · rw [if_neg e, beq_false_of_ne (by rw [h]; exact e)]
    · rw [if_neg h, List.lookup_cons, List.lookup_cons, hput_look r w q x]
      by_cases e : x = a
      · subst e
        simp [h]
      · rw [beq_false_of_ne e]
end
/-! ### tables by pairs of words -/
abbrev Pw := Wd × Wd
abbrev Pb := List (Pw × Rat)
def kP (p : Pw) : List Key := [kW p.1, kW p.2]
def eQ (p : Pw) : D := .tuple [eW p.1, eW p.2]
def qwt (l : Pb) (p : Pw) : Rat := (l.lookup p).getD 0
def qK (l : Pb) : List (List Key) := l.map fun p => kP p.1
def qX (l : Pb) : List D := l.map fun p => pR p.2
def qD (l : Pb) : D := .dict (l.map fun p => (eQ p.1, pR p.2))
open Classical in
/-- the pairs rising -/
def qle (a b : Pw) : Bool := dataLe false (id : D → D) (eQ a) (eQ b)
def qsort (l : Pb) : List Pw := (hkeys l).mergeSort qle
/-- all ways of giving each sign to the one or to the other -/
def drS (F : List Pw) (x : Nat) : List Pw := F.map (fun p => (p.1 ++ [x], p.2)) ++ F.map (fun p => (p.1, p.2 ++ [x]))
def drawnL (w : Wd) : List Pw := w.foldl drS [([], [])]
/-- the same from the front -/
def drawnR : Wd → List Pw
  | [] => [([], [])]
  | x :: w => (drawnR w).map (fun p => (x :: p.1, p.2)) ++ (drawnR w).map (fun p => (p.1, x :: p.2))
end DL
set_option Elab.async false
set_option linter.all false
set_option maxRecDepth 100000
set_option maxHeartbeats 4000000
local macro_rules | `(tactic| walk_at "run") => `(tactic| try simp only [DL.wo_seq, DL.wx_sortT, DL.wx_dgetO, DL.wod_od, DL.tupl_l, DL.tupl_t, DL.wl_mulA, DL.wx_rgL, DL.wo_blur, DL.blur_nil, DL.blur_cons, DL.wx_nls0, DL.wx_nls, DL.wx_nl, DL.wn_ol, DL.wx_callN, DL.wnl_nl, DL.wu_un, DL.wo_nlApp, DL.wo_nlClr, DL.wo_nlFor, DL.nlF_nil, DL.nlF_d, DL.nlF_un, DL.nlF_ol, DL.nlF_od, DL.nlF_fd, DL.wo_nil, DL.wo_set, DL.wo_setO, DL.wo_ret, DL.wo_if, DL.wo_drop, DL.wo_asg, DL.wo_par, DL.wo_aug, DL.wo_for, DL.wo_raise, DL.wo_app, DL.wo_setIx, DL.wo_nx, DL.wo_rt, DL.wo_bk, DL.wo_ct, DL.wo_ex, DL.wx_ok, DL.wx_ex, DL.wx_op, DL.wx_un, DL.wx_C, DL.wx_ret, DL.wx_var, DL.wx_nil, DL.wx_cons, DL.wx_tru, DL.wx_not, DL.wx_and, DL.wx_or, DL.wx_andV, DL.wx_orV, DL.wx_notV, DL.wx_if, DL.wx_chain, DL.wx_tup, DL.wx_lst, DL.wx_olst, DL.wx_oD, DL.wx_F, DL.wx_list, DL.wx_nop, DL.wx_p, DL.wx_sl, DL.wx_call, DL.wx_callW, DL.wx_callR, DL.wx_pix, DL.wx_plen, DL.wx_din, DL.wx_dget2, DL.wx_move, DL.wx_why, DL.wl_some, DL.wf_okD, DL.wf_okL, DL.wf_okM, DL.wf_okT, DL.wf_ex, DL.wv_d, DL.wv_ol, DL.wv_od, DL.wv_fd, DL.wb_t, DL.wb_f, DL.wt_b, DL.wh_d, DL.wh_ol, DL.wh_od, DL.wh_fd, DL.wm_d, DL.wm_ol, DL.wm_od, DL.wm_fd, DL.dat_d, DL.dat_ol, DL.dat_od, DL.dat_fd, DL.d_add, DL.d_sub, DL.d_lt, DL.d_le, DL.d_gt, DL.d_ge, DL.d_tru, DL.d_eqInt, DL.d_neg, DL.tg_name, DL.tg_tup2, DL.tg_tup3, DL.ixv_l, DL.ixv_t, DL.ixv_s, DL.ixv_dd, DL.ixv_ol, DL.ixv_od, DL.ixv_fd, DL.ix_t0, DL.ix_t1, DL.ix_t2, DL.ix_l0, DL.ix_l1, DL.ix_l2, DL.d_asB, DL.d_ok0, DL.d_ok1, DL.d_ok2, DL.d_ok3, DL.d_ok4, DL.key_s, DL.key_i, DL.len_ol, DL.len_l, DL.len_t, DL.it_l, DL.it_t, DL.seq_l, DL.seq_t, DL.tru_i, DL.tru_l, DL.tru_n, DL.lk_od, DL.lk_odi, DL.isD_od, DL.isD_fd, DL.isD_d, DL.if_tt, DL.pick_nil, DL.pick_cons, DL.wl_addS, DL.wl_lenS, DL.seq_S, DL.tg_eP, DL.wl_mod, DL.wl_mulI, DL.wl_divI, DL.it_S, DL.wl_powI, DL.wl_rng1, DL.wl_rng2, DL.wx_callB, DL.wx_eqB, DL.wo_clear, DL.wx_pop, DL.wbr_d, DL.tg_list2, DL.tg_list3, DL.wx_dictR, DL.wx_dictD, DL.rest_nil, DL.rest_cons, DL.rst_d, DL.rst_un, DL.wx_cat, DL.wl_cat, DL.wx_disp1, DL.key_W, DL.wx_minS, DL.wipe_nil, DL.wipe_cons, DL.wx_rep, DL.wl_catS, DL.wrep_ol, DL.wx_sortD, DL.wx_callV, DL.wx_fld, DL.wo_star, DL.wst_l, DL.wx_kwL, DL.wh_sp, DL.wh_fv, DL.fo_rest, DL.fk_rest, DL.fk_done, DL.fk_step, DL.fk_run, DL.fk_told, DL.fk_back, DL.fk_left, DL.fo_done, DL.fo_step, DL.fo_run, DL.fo_told, DL.fo_back, DL.fo_left, DL.fp_rest0, DL.fp_done1, DL.fp_rest, DL.fp_done, DL.fl_0, DL.fl_1, DL.fl_2, DL.wo_fld, DL.wfl_ob, DL.wx_meth, DL.wx_make, DL.wo_tryB, DL.wx_listB, DL.wx_callF, DL.fv_same, DL.wm_fv, DL.wm_sp, DL.wx_listS, DL.wx_sortS, DL.wx_popAt, DL.wpop_ol, DL.wx_peek, DL.wx_pickB, Option.toList_some, List.set_cons_zero, List.set_cons_succ, List.getElem?_cons_zero, List.getElem?_cons_succ, Option.bind_some, Option.map_some, List.nil_append, List.cons_append, List.append_nil, List.map_cons, List.map_nil, and_true, true_and, reduceIte, Bool.false_eq_true, Bool.not_true, Bool.not_false])
namespace DL
open PySem PySem.Spec L2
open PyProof.Rows hiding St
open PySem.W (dataLe dataLt alike)
/-! DL101: words drawn apart: the program's -/
noncomputable def g_pairs_of : S → Out :=
  gRet (oLc (mUn dSeq (mF (oSortT (mVar 0)))) (tName 1) (mTru (mOp dNe (mOp dIx (mPix 0 (mVar 1)) (mC (.int 0))) (mC (.int 0)))) (mTup (mCons (mVar 1) (mCons (mPix 0 (mVar 1)) mNil))) [1])
noncomputable def f_pairs_of : S → Res SV := fnR 2 g_pairs_of
noncomputable def g_drawn : S → Out :=
  gSeq (gSet 1 (mLst (mCons (mTup (mCons (mC (.str "")) (mCons (mC (.str "")) mNil))) mNil)))
  (gSeq (gFor (mUn dSeq (mVar 0)) (tName 2) (gSet 1 (mF (oCat (mF (oLc (mUn dSeq (mVar 1)) (tTupT (tConss (tName 3) (tConss (tName 4) tNils)) 2) (M.ret true) (mTup (mCons (mOp dAdd (mVar 3) (mVar 2)) (mCons (mVar 4) mNil))) [3, 4])) (mF (oLc (mUn dSeq (mVar 1)) (tTupT (tConss (tName 3) (tConss (tName 4) tNils)) 2) (M.ret true) (mTup (mCons (mVar 3) (mCons (mOp dAdd (mVar 4) (mVar 2)) mNil))) [3, 4]))))))
  (gRet (oD (mVar 1))))
noncomputable def f_drawn : S → Res SV := fnR 5 g_drawn
noncomputable def g_drawn_apart : S → Out :=
  gSeq (gSetO 1 (fun s => .ok (.fd false [] []) s))
  (gSeq (gFor (mUn dSeq (mVar 0)) (tTupT (tConss (tName 2) (tConss (tName 3) tNils)) 2) (gFor (mUn dSeq (mF (oCall f_drawn [] (mCons (mVar 2) mNil)))) (tName 4) (gSetIx 1 (mVar 4) (mIf (mTru (mDin false 1 (mVar 4))) (mF (oCall f_plus [] (mCons (mPix 1 (mVar 4)) (mCons (mVar 3) mNil)))) (mVar 3)))))
  (gRet (oCall f_pairs_of [] (mCons (mVar 1) mNil))))
noncomputable def f_drawn_apart : S → Res SV := fnR 5 g_drawn_apart
noncomputable def g_witness : S → Out :=
  gSeq (gIf (mTru (mOp dNe (mOp dIx (mF (oCall f_weight_of [] (mCons (mVar 0) (mCons (mC (.str "")) mNil)))) (mC (.int 0))) (mC (.int 0)))) (gRet (oD (mTup (mCons (mC (.str "")) (mCons (mC (.str "")) mNil))))) gNil)
  (gSeq (gSetO 1 (oLc (mUn dSeq (mF (oCall f_drawn_apart [] (mCons (mVar 0) mNil)))) (tTupT (tConss (tName 2) (tConss (tName 3) tNils)) 2) (mAnd (mTru (mOp dNe (mOp dIx (mVar 2) (mC (.int 0))) (mC (.str "")))) (mTru (mOp dNe (mOp dIx (mVar 2) (mC (.int 1))) (mC (.str ""))))) (mVar 2) [2, 3]))
  (gRet (oD (mIf (mTru (mEqB true 1 (mLst mNil))) (mPix 1 (mC (.int 0))) (mC .none)))))
noncomputable def f_witness : S → Res SV := fnR 4 g_witness

/-! ### drawn_apart -/
def qadd (t : Pb) (q : Rat) (p : Pw) : Pb := hput t p (qwt t p + q)
def qrow (t : Pb) (r : Wd × Rat) : Pb := (drawnL r.1).foldl (fun t p => qadd t r.2 p) t
def qall (l : Tb) : Pb := l.foldl qrow []
theorem qwt_add (t : Pb) (q : Rat) (p x : Pw) : qwt (qadd t q p) x = qwt t x + if x = p then q else 0 := by
  unfold qadd qwt
  rw [hput_look]
  by_cases h : x = p
  · rw [if_pos h, if_pos h, h]
    rfl
  · rw [if_neg h, if_neg h, Rat.add_zero]
theorem qadd_nd {t : Pb} (h : (hkeys t).Nodup) (q : Rat) (p : Pw) : (hkeys (qadd t q p)).Nodup := hput_nd h _ _
theorem qadd_keys {t : Pb} {q : Rat} {p x : Pw} (h : x ∈ hkeys (qadd t q p)) : x ∈ hkeys t ∨ x = p := by
  unfold qadd at h
  rw [hkeys_hput] at h
  split at h
  · exact .inl h
  · rcases List.mem_append.mp h with z | z
    · exact .inl z
    · exact .inr (List.mem_singleton.mp z)
/-- what is known of a table on the way: c pairs were put -/
structure QT (D M c : Nat) (t : Pb) : Prop where
  nd : (hkeys t).Nodup
  wo : ∀ p ∈ hkeys t, isL p.1 = true ∧ isL p.2 = true ∧ p.1.length + p.2.length ≤ 6
  bd : ∀ p, Bd D (c * M) (qwt t p)
  len : t.length ≤ c
theorem QT.nil {D M : Nat} : QT D M 0 [] := ⟨List.nodup_nil, (fun p hp => nomatch hp), fun p => by
  show Bd D (0 * M) 0
  exact Bd.zero, Nat.le_refl _⟩
theorem QT.put {D M c : Nat} {t : Pb} (h : QT D M c t) {q : Rat} {p : Pw} (hq : Bd D M q) (hp : isL p.1 = true ∧ isL p.2 = true ∧ p.1.length + p.2.length ≤ 6) (hD : D ≠ 0) : QT D M (c + 1) (qadd t q p) := by
  refine ⟨qadd_nd h.nd q p, fun x hx => ?_, fun x => ?_, Nat.le_trans (hput_len _ _ _) (Nat.succ_le_succ h.len)⟩
  · rcases qadd_keys hx with z | z
    · exact h.wo x z
    · rw [z]; exact hp
  · rw [qwt_add, Nat.succ_mul]
    split
    · exact (h.bd x).add hq
    · rw [Rat.add_zero]
      obtain ⟨n, h1, h2⟩ := h.bd x
      exact ⟨n, by omega, h2⟩
/-! ### witness -/
def qnz (a : Tb) : List Pw := ((qsort (qall a)).filter fun p => decide (qwt (qall a) p ≠ 0)).filter fun p => !decide (p.1 = []) && !decide (p.2 = [])
def witD (a : Tb) : D := if wt a [] ≠ 0 then eQ ([], []) else match qnz a with
  | [] => .none
  | p :: _ => eQ p
end DL
set_option Elab.async false
set_option linter.all false
set_option maxRecDepth 100000
set_option maxHeartbeats 4000000
namespace DL
open PySem PySem.Spec L2
open PyProof.Rows hiding St
open PySem.W (dataLe dataLt alike)
/-! DL102: a sum that weighs no mixing of two words is made of brackets -/
theorem Prim.add {f g : Wd → Rat} (hf : Prim f) (hg : Prim g) : Prim (fun w => f w + g w) where
  nil := by rw [hf.nil, hg.nil, Rat.add_zero]
  two a u b v := by rw [Lf_add, hf.two, hg.two, Rat.add_zero]
theorem Prim.mul {f : Wd → Rat} (hf : Prim f) (c : Rat) : Prim (fun w => c * f w) where
  nil := by rw [hf.nil, Rat.mul_zero]
  two a u b v := by rw [Lf_mul, hf.two, Rat.mul_zero]
theorem Prim.sub {f g : Wd → Rat} (hf : Prim f) (hg : Prim g) : Prim (fun w => f w - g w) where
  nil := by rw [hf.nil, hg.nil]; grind
  two a u b v := by rw [Lf_sub, hf.two, hg.two]; grind
theorem Prim.zero : Prim (fun _ => 0) where
  nil := rfl
  two a u b v := by
    unfold Lf
    rw [sum_zero']
/-- a table of a function's weights at some words -/
def tabF (f : Wd → Rat) (ws : List Wd) : Tb := ws.map fun w => (w, f w)
/-- how many of each letter -/
abbrev Cs := Nat × Nat × Nat × Nat
def cls (w : Wd) : Cs := (w.count 97, w.count 98, w.count 99, w.count 100)
end DL
set_option Elab.async false
set_option linter.all false
set_option maxRecDepth 100000
set_option maxHeartbeats 4000000
namespace DL
open PySem PySem.Spec L2
open PyProof.Rows hiding St
open PySem.W (dataLe dataLt alike)
/-! DL103: x in a row of data; all words of few letters; tested -/
open Evl (Ex ex_l ex_t ex_rd)
section
variable {X : Cx} {T : List (Addr × Str)} {B : Addr} {W : WX}
def rInR (K : PySem.W.Frag) (neg : Bool) : R2 := fun x y H Q => ∃ d ds, Dp K H x d ∧ (Dp K H y (.list ds) ∨ Dp K H y (.tuple ds)) ∧ SeqAt.shaped d = true ∧ SeqAt.shaped (.list ds) = true ∧ Q (.bl (if neg then !ds.any fun z => PyData.eqv z d else ds.any fun z => PyData.eqv z d)) H
def dInR (neg : Bool) : D → D → Option D
  | d, .list ds => if SeqAt.shaped d = true ∧ SeqAt.shaped (.list ds) = true then some (.bool (if neg then !ds.any fun z => PyData.eqv z d else ds.any fun z => PyData.eqv z d)) else none
  | d, .tuple ds => if SeqAt.shaped d = true ∧ SeqAt.shaped (.list ds) = true then some (.bool (if neg then !ds.any fun z => PyData.eqv z d else ds.any fun z => PyData.eqv z d)) else none
  | _, _ => none
end
end DL
set_option Elab.async false
set_option linter.all false
set_option maxRecDepth 100000
set_option maxHeartbeats 4000000
namespace DL
open PySem PySem.Spec L2
open PyProof.Rows hiding St
open PySem.W (dataLe dataLt alike)
/-! DL104: all words of few letters; sums without mixings, folded; tested -/
theorem wordsL_iff {m : Nat} : ∀ (n : Nat) (w : Wd), w ∈ wordsL m n ↔ w.length = n ∧ ∀ c ∈ w, c ∈ abc m
  | 0, w => by
    show w ∈ [[]] ↔ _
    rw [List.mem_singleton]
    constructor
    · rintro rfl
      exact ⟨rfl, fun c hc => nomatch hc⟩
    · rintro ⟨h, _⟩
      exact List.length_eq_zero_iff.mp h
  | n + 1, w => by
    show w ∈ (wordsL m n).flatMap _ ↔ _
    rw [List.mem_flatMap]
    constructor
    · rintro ⟨h, hh, h2⟩
      obtain ⟨c, hc, rfl⟩ := List.mem_map.mp h2
      obtain ⟨i1, i2⟩ := (wordsL_iff n h).mp hh
      refine ⟨by rw [List.length_append, i1]; rfl, fun x hx => ?_⟩
      rcases List.mem_append.mp hx with z | z
      · exact i2 x z
      · rw [List.mem_singleton.mp z]; exact hc
    · rintro ⟨h1, h2⟩
      have hn : w ≠ [] := by
        rintro rfl
        cases h1
      obtain ⟨u, c, rfl⟩ := snoc_of hn
      rw [List.length_append] at h1
      exact ⟨u, (wordsL_iff n u).mpr ⟨by simpa using h1, fun x hx => h2 x (List.mem_append_left _ hx)⟩, List.mem_map.mpr ⟨c, h2 c (by simp), rfl⟩⟩
/-- all words of at most n letters -/
def WS (m : Nat) : Nat → List Wd
  | 0 => wordsL m 0
  | n + 1 => WS m n ++ wordsL m (n + 1)
theorem WS_iff {m : Nat} : ∀ (n : Nat) (w : Wd), w ∈ WS m n ↔ w.length ≤ n ∧ ∀ c ∈ w, c ∈ abc m
  | 0, w => by
    show w ∈ wordsL m 0 ↔ _
    rw [wordsL_iff]
    constructor
    · rintro ⟨h1, h2⟩; exact ⟨by omega, h2⟩
    · rintro ⟨h1, h2⟩; exact ⟨by omega, h2⟩
  | n + 1, w => by
    show w ∈ WS m n ++ wordsL m (n + 1) ↔ _
    rw [List.mem_append, WS_iff n, wordsL_iff]
    constructor
    · rintro (⟨h1, h2⟩ | ⟨h1, h2⟩)
      · exact ⟨by omega, h2⟩
      · exact ⟨by omega, h2⟩
    · rintro ⟨h1, h2⟩
      by_cases e : w.length = n + 1
      · exact .inr ⟨e, h2⟩
      · exact .inl ⟨by omega, h2⟩
/-- at most so many words have just so many of each letter -/
def mlt : Nat → Cs → Nat
  | 0, _ => 1
  | n + 1, (i, j, k, l) => (if 0 < i then mlt n (i - 1, j, k, l) else 0) + ((if 0 < j then mlt n (i, j - 1, k, l) else 0) + ((if 0 < k then mlt n (i, j, k - 1, l) else 0) + (if 0 < l then mlt n (i, j, k, l - 1) else 0)))
def ofCs (n : Nat) (ws : List Wd) (c : Cs) : Nat := (ws.filter fun w => decide (cls w = c)).length
/-- a sum of words of m letters, of at most n -/
def Ov (m n : Nat) (l : Tb) : Prop := ∀ p ∈ l, p.1.length ≤ n ∧ ∀ c ∈ p.1, c ∈ abc m
/-! ### folded, tested -/
noncomputable def g_tested : S → Out :=
  gSeq (gSet 1 (mF (oCall f_witness [] (mCons (mVar 0) mNil))))
  (gRet (oD (mIf (mTru (mOp dIsN (mVar 1) (mC .none))) (mTup (mCons (mC (.str "brackets")) (mCons (mF (oCall f_folded [] (mCons (mVar 0) mNil))) mNil))) (mTup (mCons (mC (.str "no")) (mCons (mVar 1) mNil))))))
noncomputable def f_tested : S → Res SV := fnR 2 g_tested

end DL
set_option Elab.async false
set_option linter.all false
set_option maxRecDepth 100000
set_option maxHeartbeats 4000000
namespace DL
open PySem PySem.Spec L2
open PyProof.Rows hiding St
open PySem.W (dataLe dataLt alike)
/-! DL105: drawn bracket rows of few letters; sums joined, of few letters; layers -/
theorem Ov.mono {m n n' : Nat} {l : Tb} (h : Ov m n l) (hn : n ≤ n') : Ov m n' l := fun p hp => ⟨Nat.le_trans (h p hp).1 hn, (h p hp).2⟩
theorem Ov.wt {m n : Nat} {l : Tb} (h : Ov m n l) (hs : IsSum l) {w : Wd} (hw : DL.wt l w ≠ 0) : w.length ≤ n ∧ ∀ c ∈ w, c ∈ abc m := h (w, DL.wt l w) ((hs.mem _).mpr ⟨hw, rfl⟩)
theorem Ov.of {m n : Nat} {l : Tb} (hs : IsSum l) (h : ∀ w, DL.wt l w ≠ 0 → w.length ≤ n ∧ ∀ c ∈ w, c ∈ abc m) : Ov m n l := fun p hp => h p.1 (by rw [wt_mem hs.nd hp]; exact hs.nz p hp)
end DL
set_option Elab.async false
set_option linter.all false
set_option maxRecDepth 100000
set_option maxHeartbeats 4000000
namespace DL
open PySem PySem.Spec L2
open PyProof.Rows hiding St
open Evl (Ex ex_l ex_t ex_rd)
/-! DL106: list displays by two generators -/
def compL2 (tgt : D → S → Option S) (tt : M Bool) (fi1 : M (List D)) (tgt1 : D → S → Option S) (tt1 : M Bool) (f : M D) (vs vs1 : List Nat) : List D → List D → S → Res (List D)
  | [], acc, s => .ok acc s
  | x :: r, acc, s => match tgt x s with
    | none => .bad
    | some s1 => match tt s1 with
      | .ok true s2 => (match fi1 s2 with
        | .ok its s3 => if acc.length + its.length ≤ lim then (match compL tgt1 tt1 f vs1 its acc (wipeS s3 vs1) with
          | .ok acc2 s4 => compL2 tgt tt fi1 tgt1 tt1 f vs vs1 r acc2 (wipeS s4 vs)
          | _ => .bad) else .bad
        | _ => .bad)
      | .ok false s2 => compL2 tgt tt fi1 tgt1 tt1 f vs vs1 r acc (wipeS s2 vs)
      | _ => .bad
/-- [elt for target in iter if .. for target1 in iter1 if ..] -/
def oLc2 (fi : M (List D)) (tgt : D → S → Option S) (tt : M Bool) (fi1 : M (List D)) (tgt1 : D → S → Option S) (tt1 : M Bool) (f : M D) (vs vs1 : List Nat) : M SV := fun s => (fi s).bind fun items s1 => match compL2 tgt tt fi1 tgt1 tt1 f vs vs1 items [] (wipeS s1 vs) with
  | .ok ds s2 => .ok (.ol false ds) (restS s1 s2 vs)
  | _ => .bad
/-- what holds ahead of a turn: p the new list's place, Z what is asked at the end -/
def PvG (X : Cx) (T : List (Addr × Str)) (B : Addr) (F G : Hp) (σ : St) (Z : List D → S → Prop) (tgt : D → S → Option S) (tt : M Bool) (f : M D) (vs : List Nat) (p : Addr) (a0 : Nat) (items : List D) (i : Nat) (H' : Hp) : Prop :=
  ∃ F' G' s' acc vacc, Gr T F F' ∧ Ex G G' ∧ F' p = none ∧ IS X.K T B (upd F' p (.lst vacc)) G' H' (L2.wipe σ vs) s' ∧ RpA X.K G' vacc acc ∧ acc.length ≤ a0 + i ∧
    match compL tgt tt f vs (items.drop i) acc s' with
    | .ok ds s2 => Z ds s2
    | _ => False
section
variable {X : Cx} {T : List (Addr × Str)} {B : Addr} {W : WX} {tg tg1 : Expr}
/-- how F may turn, the new list's place apart -/
theorem gr_less {F F1 F4 : Hp} {p : Addr} {vacc : List V} (g1 : Gr T F F1) (fp : F1 p = none) (g4 : Gr T (upd F1 p (.lst vacc)) F4) : ∃ F5, F5 p = none ∧ Gr T F F5 ∧ F4 p = some (.lst vacc) ∧ ∀ u, upd F5 p u = upd F4 p u := by
  refine ⟨fun a => if a = p then none else F4 a, if_pos rfl, ⟨fun a o h nt => ?_, fun ht => ?_⟩, g4.ex p _ upd_same (fun ps z => by cases z), fun u => ?_⟩
  · have h1 := g1.ex a o h nt
    have na : a ≠ p := ne_of_none h1 fp
    show (if a = p then none else F4 a) = some o
    rw [if_neg na]
    exact g4.ex a o (by rw [upd_ne na]; exact h1) nt
  · rw [g4.same ht, g1.same ht]
    funext a
    show (if a = p then none else upd F p (.lst vacc) a) = F a
    by_cases na : a = p
    · rw [if_pos na, na, ← g1.same ht, fp]
    · rw [if_neg na, upd_ne na]
  · funext a
    unfold upd
    by_cases na : a = p
    · rw [if_pos na, if_pos na]
    · rw [if_neg na, if_neg na]
      show (if a = p then none else F4 a) = F4 a
      rw [if_neg na]
theorem upd_self {F4 F5 : Hp} {p : Addr} {vacc : List V} (h3 : F4 p = some (.lst vacc)) (h4 : ∀ u, upd F5 p u = upd F4 p u) : upd F5 p (.lst vacc) = F4 := by
  rw [h4]
  funext a
  unfold upd
  by_cases na : a = p
  · rw [if_pos na, na, h3]
  · rw [if_neg na]
theorem turnG {F G H1 H2 : Hp} {σ : St} {Z : List D → S → Prop} {tgt : D → S → Option S} {tt : M Bool} {f : M D} {vs js : List Nat} {p : Addr} {a0 : Nat} {items : List D} {i : Nat} {x : V} (hj : ∀ j ∈ js, j ∈ vs) (hlim : a0 + items.length ≤ lim) (pv : PvG X T B F G σ Z tgt tt f vs p a0 items i H1) (y : YD X.K G items i H1 x H2) :
    TGd X T B js tgt x (L2.wipe σ vs) H2 fun σ2 H2 => L2.wipe σ2 vs = L2.wipe σ vs ∧ TTd X T B W0 tt σ2 H2 fun b H3 =>
      if b = true then TEd X T B W0 f σ2 H3 fun y H4 => ∃ acc, H4 p = some (.lst acc) ∧ acc.length < sizeLine ∧ PvG X T B F G σ Z tgt tt f vs p a0 items (i + 1) (upd H4 p (.lst (acc ++ [y]))) else PvG X T B F G σ Z tgt tt f vs p a0 items (i + 1) H3 := by
  obtain ⟨F1, G1, s1, acc, vacc, g1, e1, fp, I1, ra, la, q⟩ := pv
  obtain ⟨G2, d, hd, e2, I2, rd⟩ := I1.item e1 y
  have hi : i < items.length := (List.getElem?_eq_some_iff.mp hd).1
  have ed : items.drop i = d :: items.drop (i + 1) := by
    obtain ⟨h, e⟩ := List.getElem?_eq_some_iff.mp hd
    rw [List.drop_eq_getElem_cons h, e]
  rw [ed] at q
  unfold compL at q
  cases et : tgt d s1 with
  | none => rw [et] at q; exact q.elim
  | some s2 =>
    rw [et] at q
    refine ⟨_, G2, s1, d, s2, I2, rd, et, fun σ2 I3 hl ha => ?_⟩
    have hw : L2.wipe σ2 vs = L2.wipe σ vs := (wipe_eq hl ha hj).trans (wipe_wipe σ vs)
    refine ⟨hw, _, G2, s2, I3, ?_⟩
    cases ett : tt s2 with
    | bad => simp only [ett] at q
    | ex c s3 => simp only [ett] at q
    | ok b s3 =>
      simp only [ett] at q
      intro F4 G4 H4 g4 e4 I4
      cases b with
      | false =>
        obtain ⟨F5, h1, h2, h3, h4⟩ := gr_less g1 fp g4
        have eF := upd_self h3 h4
        refine ⟨F5, G4, wipeS s3 vs, acc, vacc, h2, (e1.trans e2).trans e4, h1, ?_, (ra.mono e2).mono e4, by omega, q⟩
        rw [eF, ← hw]
        exact I4.wipe vs
      | true =>
        simp only at q
        refine ⟨F4, G4, s3, I4, ?_⟩
        cases ef : f s3 with
        | bad => simp only [ef] at q
        | ex c s4 => simp only [ef] at q
        | ok z s4 =>
          simp only [ef] at q
          intro F6 G6 H6 g6 e6 I6 v rv
          obtain ⟨F5, h1, h2, h3, h4⟩ := gr_less g1 fp (g4.trans g6)
          refine ⟨vacc, I6.fr p _ h3, lim_lt (by rw [ra.len]; omega), F5, G6, wipeS s4 vs, acc ++ [z], vacc ++ [v], h2, ((e1.trans e2).trans e4).trans e6, h1, ?_, (((ra.mono e2).mono e4).mono e6).app (.one rv), by rw [List.length_append]; show acc.length + 1 ≤ _; omega, q⟩
          rw [h4, ← hw]
          exact (I6.bump h3).wipe vs
def PvC2 (X : Cx) (T : List (Addr × Str)) (B : Addr) (F G : Hp) (σ : St) (s : S) (Q : VK) (tgt : D → S → Option S) (tt : M Bool) (fi1 : M (List D)) (tgt1 : D → S → Option S) (tt1 : M Bool) (f : M D) (vs vs1 : List Nat) (p : Addr) (items : List D) (i : Nat) (H' : Hp) : Prop :=
  ∃ F' G' s' acc vacc, Gr T F F' ∧ Ex G G' ∧ F' p = none ∧ IS X.K T B (upd F' p (.lst vacc)) G' H' (L2.wipe σ vs) s' ∧ RpA X.K G' vacc acc ∧
    match compL2 tgt tt fi1 tgt1 tt1 f vs vs1 (items.drop i) acc s' with
    | .ok ds s2 => ∀ F2 G2 H2, Gr T F F2 → Ex G G2 → IS X.K T B F2 G2 H2 (some (.ref p) :: σ) (.ol false ds :: restS s s2 vs) → Q (.ref p) H2
    | _ => False
theorem doneC2 {F G H' : Hp} {σ : St} {s : S} {Q : VK} {tgt : D → S → Option S} {tt : M Bool} {fi1 : M (List D)} {tgt1 : D → S → Option S} {tt1 : M Bool} {f : M D} {vs vs1 : List Nat} {p : Addr} {items : List D} {H : Hp} (I : IS X.K T B F G H σ s) (pv : PvC2 X T B F G σ s Q tgt tt fi1 tgt1 tt1 f vs vs1 p items items.length H') : Q (.ref p) H' := by
  obtain ⟨F1, G1, s1, acc, vacc, g1, e1, fp, I1, ra, q⟩ := pv
  rw [List.drop_eq_nil_of_le (Nat.le_refl _)] at q
  have q2 : ∀ F2 G2 H2, Gr T F F2 → Ex G G2 → IS X.K T B F2 G2 H2 (some (.ref p) :: σ) (.ol false acc :: restS s s1 vs) → Q (.ref p) H2 := q
  have J := I1.dropF fp ra
  have J2 := I.unwipe e1 J.tail
  refine q2 F1 G1 H' g1 e1 (J2.push J.head fun w r i y h1 h2 h3 h4 => ?_)
  rcases restS_get h2 with ⟨_, rfl | ⟨_, rfl, _⟩⟩ | ⟨k1, k2⟩
  · cases h3
  · cases h3
  · rw [← slA_wipe k1] at h4
    exact J.ap 0 (i + 1) _ y r (fun z => by cases z) rfl (by simpa using k2) w h3 h1 h4
theorem te_lc2 {wi : TI} {fi : M (List D)} {tgt : D → S → Option S} {tt : M Bool} {fi1 : M (List D)} {tgt1 : D → S → Option S} {tt1 : M Bool} {f : M D} {vs vs1 js js1 : List Nat} (hj : ∀ j ∈ js, j ∈ vs) (hj1 : ∀ j ∈ js1, j ∈ vs1) (hv : ∀ j ∈ vs1, j ∈ vs) {σ : St} {H : Hp} {Q : VK} (h : TEo X T B W (oLc2 fi tgt tt fi1 tgt1 tt1 f vs vs1) σ H Q) :
    tLc2 (TId X T B W fi) (TGd X T B js tgt) (TTd X T B W0 tt) (TId X T B W0 fi1) (TGd X T B js1 tgt1) (TTd X T B W0 tt1) (TEd X T B W0 f) vs vs1 σ H Q := by
  obtain ⟨F, G, s, I, p⟩ := h
  refine ⟨F, G, s, I, Po.imp (Po.bind p) fun F1 G1 items s1 H1 g1 e1 I1 q J wd D hD => ?_⟩
  obtain ⟨n, Gd, Y, wk, rfl, hG, hY⟩ := wd
  obtain ⟨q1, q2⟩ := q
  have start : PvC2 X T B F1 G1 σ s1 Q tgt tt fi1 tgt1 tt1 f vs vs1 D items 0 (upd H1 D (.lst [])) := by
    refine ⟨F1, G1, wipeS s1 vs, [], [], Gr.refl, Ex.refl _, I1.freshF hD, (I1.addF hD).wipe vs, .nil, ?_⟩
    rw [List.drop_zero]
    cases ec : compL2 tgt tt fi1 tgt1 tt1 f vs vs1 items [] (wipeS s1 vs) with
    | bad => rw [ec] at q2; exact q2
    | ex c s2 => rw [ec] at q2; exact q2
    | ok ds s2 =>
      rw [ec] at q2
      exact fun F2 G2 H2 g2 e2 J2 => q2 F2 G2 H2 g2 e2 J2.tail _ J2
  refine ⟨fun i m H => m = items.length - i ∧ i ≤ items.length ∧ PvC2 X T B F1 G1 σ s1 Q tgt tt fi1 tgt1 tt1 f vs vs1 D items i H, ⟨items.length, by simp, Nat.zero_le _, start⟩, ?_⟩
  rintro i m H5 ⟨rfl, hi, pv⟩
  have gd : Gd H5 := by
    obtain ⟨F2, G2, s2, acc, vacc, g2, e2, fp, I2, _⟩ := pv
    exact hG _ (e2.trans I2.gh)
  by_cases hlt : i < items.length
  · refine .inr ⟨wk.goes i H5 hlt gd, fun H => PvC2 X T B F1 G1 σ s1 Q tgt tt fi1 tgt1 tt1 f vs vs1 D items (i + 1) H, fun H' p' => ⟨items.length - (i + 1), by omega, rfl, hlt, p'⟩, fun x H6 y => ?_⟩
    have yd := hY i H5 x H6 hlt gd (wk.yields i H5 x H6 hlt gd y)
    obtain ⟨F2, G2, s2, acc, vacc, g2, e2, fp, I2, ra, q⟩ := pv
    obtain ⟨G3, d, hd, e3, I3, rd⟩ := I2.item e2 yd
    have ed : items.drop i = d :: items.drop (i + 1) := by
      obtain ⟨h, e⟩ := List.getElem?_eq_some_iff.mp hd
      rw [List.drop_eq_getElem_cons h, e]
    rw [ed] at q
    unfold compL2 at q
    cases et : tgt d s2 with
    | none => rw [et] at q; exact q.elim
    | some s3 =>
      rw [et] at q
      refine ⟨_, G3, s2, d, s3, I3, rd, et, fun σ2 I4 hl ha => ?_⟩
      have hw : L2.wipe σ2 vs = L2.wipe σ vs := (wipe_eq hl ha hj).trans (wipe_wipe σ vs)
      refine ⟨hw, _, G3, s3, I4, ?_⟩
      cases ett : tt s3 with
      | bad => simp only [ett] at q
      | ex c s4 => simp only [ett] at q
      | ok b s4 =>
        simp only [ett] at q
        intro F4 G4 H4 g4 e4 I5
        cases b with
        | false =>
          obtain ⟨F5, h1, h2, h3, h4⟩ := gr_less g2 fp g4
          refine ⟨F5, G4, wipeS s4 vs, acc, vacc, h2, (e2.trans e3).trans e4, h1, ?_, (ra.mono e3).mono e4, q⟩
          rw [upd_self h3 h4, ← hw]
          exact I5.wipe vs
        | true =>
          simp only at q
          refine ⟨F4, G4, s4, I5, ?_⟩
          cases ef : fi1 s4 with
          | bad => simp only [ef] at q
          | ex c s5 => simp only [ef] at q
          | ok its s5 =>
            simp only [ef] at q
            intro F6 G6 H7 g6 e6 I6 J1 wd1
            obtain ⟨n1, Gd1, Y1, wk1, rfl, hG1, hY1⟩ := wd1
            obtain ⟨F5, h1, h2, h3, h4⟩ := gr_less g2 fp (g4.trans g6)
            by_cases hlim : acc.length + its.length ≤ lim
            · rw [if_pos hlim] at q
              have start1 : PvG X T B F5 G6 σ2 (fun acc2 s6 => match compL2 tgt tt fi1 tgt1 tt1 f vs vs1 (items.drop (i + 1)) acc2 (wipeS s6 vs) with
                  | .ok ds s2 => ∀ F2 G2 H2, Gr T F1 F2 → Ex G1 G2 → IS X.K T B F2 G2 H2 (some (.ref D) :: σ) (.ol false ds :: restS s1 s2 vs) → Q (.ref D) H2
                  | _ => False) tgt1 tt1 f vs1 D acc.length its 0 H7 := by
                refine ⟨F5, G6, wipeS s5 vs1, acc, vacc, Gr.refl, Ex.refl _, h1, ?_, ((ra.mono e3).mono e4).mono e6, Nat.le_refl _, ?_⟩
                · rw [upd_self h3 h4]
                  exact I6.wipe vs1
                · rw [List.drop_zero]
                  cases ec : compL tgt1 tt1 f vs1 its acc (wipeS s5 vs1) with
                  | bad => rw [ec] at q; exact q
                  | ex c s2 => rw [ec] at q; exact q
                  | ok ds s2 =>
                    rw [ec] at q
                    exact q
              refine ⟨fun j m H => m = its.length - j ∧ j ≤ its.length ∧ PvG X T B F5 G6 σ2 _ tgt1 tt1 f vs1 D acc.length its j H, ⟨its.length, by simp, Nat.zero_le _, start1⟩, ?_⟩
              rintro j m H8 ⟨rfl, hjl, pv1⟩
              have gd1 : Gd1 H8 := by
                obtain ⟨F8, G8, s8, acc8, vacc8, g8, e8, fp8, I8, _⟩ := pv1
                exact hG1 _ (e8.trans I8.gh)
              by_cases hlt1 : j < its.length
              · refine .inr ⟨wk1.goes j H8 hlt1 gd1, fun H => PvG X T B F5 G6 σ2 _ tgt1 tt1 f vs1 D acc.length its (j + 1) H, fun H' p' => ⟨its.length - (j + 1), by omega, rfl, hlt1, p'⟩, fun x9 H9 y9 => ?_⟩
                exact turnG hj1 hlim pv1 (hY1 j H8 x9 H9 hlt1 gd1 (wk1.yields j H8 x9 H9 hlt1 gd1 y9))
              · have ej : j = its.length := by omega
                subst ej
                refine .inl ⟨wk1.stops H8 gd1, ?_⟩
                obtain ⟨F8, G8, s8, acc8, vacc8, g8, e8, fp8, I8, ra8, _, z8⟩ := pv1
                rw [List.drop_eq_nil_of_le (Nat.le_refl _)] at z8
                refine ⟨F8, G8, wipeS s8 vs, acc8, vacc8, h2.trans g8, (((e2.trans e3).trans e4).trans e6).trans e8, fp8, ?_, ra8, z8⟩
                have ew : L2.wipe (L2.wipe σ2 vs1) vs = L2.wipe σ vs := (wipe_eq (js := vs1) (wipe_length σ2 vs1) (fun k hk => wipe_out hk) hv).trans hw
                rw [← ew]
                exact I8.wipe vs
            · rw [if_neg hlim] at q
              exact q.elim
  · have e : i = items.length := by omega
    subst e
    exact .inl ⟨wk.stops H5 gd, doneC2 q1 pv⟩
/-- y = [..] on one line -/
theorem ds_setLc2 (i : Nat) {y : Str} {py spos : Pos} {elt iter iter1 : Expr} {ifs ifs1 : List Expr} {scope : Scope} (own : List (Str × Nat)) (vs1 : List Nat) {pos : Pos} {fi : M (List D)} {tgt : D → S → Option S} {tt : M Bool} {fi1 : M (List D)} {tgt1 : D → S → Option S} {tt1 : M Bool} {f : M D} {js js1 : List Nat} (hc : X.calm = true) (hN : X.N.Nodup) (hi : DI X T B W tg iter fi) (ok : BlkOk X.N X.env.scope scope own) (hj : ∀ j ∈ js, j ∈ own.map (·.2)) (hj1 : ∀ j ∈ js1, j ∈ vs1) (hv : ∀ j ∈ vs1, j ∈ own.map (·.2))
    (hg : ∀ (s : Shared) (H : Hp) (C : Addr) (cl : List (Str × Addr)) (fp : List Addr), DG (X.blk s H scope (compEnvC scope cl C X.env) fp) T B js tg tgt) (ht : ∀ (s : Shared) (H : Hp) (C : Addr) (cl : List (Str × Addr)) (fp : List Addr), PTs (X.blk s H scope (compEnvC scope cl C X.env) fp) ifs (TTd (X.blk s H scope (compEnvC scope cl C X.env) fp) T B W0 tt))
    (hi1 : ∀ (s : Shared) (H : Hp) (C : Addr) (cl : List (Str × Addr)) (fp : List Addr), DI (X.blk s H scope (compEnvC scope cl C X.env) fp) T B W0 tg1 iter1 fi1)
    (hg1 : ∀ (s : Shared) (H : Hp) (C : Addr) (cl : List (Str × Addr)) (fp : List Addr), DG (X.blk s H scope (compEnvC scope cl C X.env) fp) T B js1 tg1 tgt1) (ht1 : ∀ (s : Shared) (H : Hp) (C : Addr) (cl : List (Str × Addr)) (fp : List Addr), PTs (X.blk s H scope (compEnvC scope cl C X.env) fp) ifs1 (TTd (X.blk s H scope (compEnvC scope cl C X.env) fp) T B W0 tt1))
    (he : ∀ (s : Shared) (H : Hp) (C : Addr) (cl : List (Str × Addr)) (fp : List Addr), DE (X.blk s H scope (compEnvC scope cl C X.env) fp) T B W0 elt f) (hsw : swapsWith (.ListComp elt [⟨tg, iter, ifs, 0⟩, ⟨tg1, iter1, ifs1, 0⟩] scope pos) (some (.Name y py)) spos.line X.env = pure true) (hy : X.N[i]? = some y := by rfl) (hyl : X.env.scope.names.lookup y = some .local := by rfl) (hs : ∀ x, foldedSetIterable iter X.env x = pure x := by intro _; rfl) (hs1 : ∀ env x, foldedSetIterable iter1 env x = pure x := by intro _ _; rfl) :
    DS X T B W (.Assign [.Name y py] (.ListComp elt [⟨tg, iter, ifs, 0⟩, ⟨tg1, iter1, ifs1, 0⟩] scope pos) spos) (gSetO i (oLc2 fi tgt tt fi1 tgt1 tt1 f (own.map (·.2)) vs1)) := ps_weak (ps_setLc2 hc hN hy hyl hsw hi ok hv (g := TGd X T B js tgt) (tt := TTd X T B W0 tt) (wi1 := TId X T B W0 fi1) (g1 := TGd X T B js1 tgt1) (tt1 := TTd X T B W0 tt1) (te := TEd X T B W0 f) hg ht hi1 hg1 ht1 he hs hs1) fun D σ H ⟨F, G, s, I, p⟩ => by
  have h : TEo X T B W (oLc2 fi tgt tt fi1 tgt1 tt1 f (own.map (·.2)) vs1) σ H (fun v H1 => gName i v σ H1 D.nx) := outO I p fun F1 G1 H1 s1 v x g1 e1 I1 p1 => p1.nxt (I1.store i)
  exact te_lc2 (wi := TId X T B W fi) hj hj1 hv h
end
/-! ### reckoning -/
section
variable {α β : Type} {s w : S} {Q : SV → S → Prop} {X : Exc → S → Prop}
theorem compL_pure2 {tgt : D → S → Option S} {f : M D} {vs : List Nat} {w : S} {enc h : β → D} {ys : List β} (hx : ∀ y ∈ ys, WL (tgt (enc y) w) fun s2 => WQ (f s2) (fun z s3 => z = h y ∧ wipeS s3 vs = w) (fun _ _ => False)) :
    ∀ (r : List β) (acc : List D), (∀ y ∈ r, y ∈ ys) → compL tgt (M.ret true) f vs (r.map enc) acc w = .ok (acc ++ r.map h) w := fun r => by
  induction r with
  | nil => intro acc _; simp [compL]
  | cons x r ih =>
    intro acc hm
    have h1 := hx x (hm x List.mem_cons_self)
    show (match tgt (enc x) w with
      | none => (Res.bad : Res (List D))
      | some s1 => match M.ret true s1 with
        | .ok true s2 => (match f s2 with
          | .ok y s3 => compL tgt (M.ret true) f vs (r.map enc) (acc ++ [y]) (wipeS s3 vs)
          | _ => .bad)
        | .ok false s2 => compL tgt (M.ret true) f vs (r.map enc) acc (wipeS s2 vs)
        | _ => .bad) = _
    cases et : tgt (enc x) w with
    | none => rw [et] at h1; exact h1.elim
    | some s2 =>
      rw [et] at h1
      show (match f s2 with
          | .ok y s3 => compL tgt (M.ret true) f vs (r.map enc) (acc ++ [y]) (wipeS s3 vs)
          | _ => .bad) = _
      have h1 : WQ (f s2) (fun z s3 => z = h x ∧ wipeS s3 vs = w) (fun _ _ => False) := h1
      cases ef : f s2 with
      | bad => rw [ef] at h1; exact h1.elim
      | ex c s3 => rw [ef] at h1; exact h1.elim
      | ok z s3 =>
        rw [ef] at h1
        obtain ⟨rfl, e⟩ := h1
        show compL tgt (M.ret true) f vs (r.map enc) (acc ++ [h x]) (wipeS s3 vs) = _
        rw [e, ih _ fun y hy => hm y (List.mem_cons_of_mem _ hy)]
        simp
/-- two generators that fail nowhere -/
theorem wq_lc2 {fi : M (List D)} {tgt : D → S → Option S} {fi1 : M (List D)} {tgt1 : D → S → Option S} {f : M D} {vs vs1 : List Nat} {enc : α → D} {enc1 : α → β → D} {ys : α → List β} {h : α → β → D} {w1 : α → S} {xs : List α} (hl : (xs.flatMap fun x => (ys x).map (h x)).length ≤ lim) (hi : WQ (fi s) (fun l s1 => l = xs.map enc ∧ wipeS s1 vs = w ∧ Q (.ol false (xs.flatMap fun x => (ys x).map (h x))) (restS s1 w vs)) X)
    (hx : ∀ x ∈ xs, WL (tgt (enc x) w) fun s2 => WQ (fi1 s2) (fun l s3 => l = (ys x).map (enc1 x) ∧ wipeS s3 vs1 = w1 x ∧ wipeS (w1 x) vs = w) (fun _ _ => False))
    (hy : ∀ x ∈ xs, ∀ y ∈ ys x, WL (tgt1 (enc1 x y) (w1 x)) fun s2 => WQ (f s2) (fun z s3 => z = h x y ∧ wipeS s3 vs1 = w1 x) (fun _ _ => False)) : WQ (oLc2 fi tgt (M.ret true) fi1 tgt1 (M.ret true) f vs vs1 s) Q X := by
  cases ef : fi s with
  | bad => rw [ef] at hi; exact hi.elim
  | ex c s1 =>
    rw [ef] at hi
    unfold oLc2
    rw [ef]
    exact hi
  | ok l s1 =>
    rw [ef] at hi
    obtain ⟨rfl, hw, q⟩ := hi
    unfold oLc2
    rw [ef, rb_ok, hw]
    have key : ∀ (r : List α) (acc : List D), (∀ x ∈ r, x ∈ xs) → acc.length + (r.flatMap fun x => (ys x).map (h x)).length ≤ lim → compL2 tgt (M.ret true) fi1 tgt1 (M.ret true) f vs vs1 (r.map enc) acc w = .ok (acc ++ r.flatMap fun x => (ys x).map (h x)) w := fun r => by
      induction r with
      | nil => intro acc _ _; simp [compL2]
      | cons x r ih =>
        intro acc hm hlen
        have h1 := hx x (hm x List.mem_cons_self)
        have h2 := hy x (hm x List.mem_cons_self)
        rw [List.flatMap_cons, List.length_append, List.length_map] at hlen
        rw [List.map_cons]
        unfold compL2
        cases et : tgt (enc x) w with
        | none => rw [et] at h1; exact h1.elim
        | some s2 =>
          rw [et] at h1
          have h1 : WQ (fi1 s2) (fun l s3 => l = (ys x).map (enc1 x) ∧ wipeS s3 vs1 = w1 x ∧ wipeS (w1 x) vs = w) (fun _ _ => False) := h1
          simp only
          show (match fi1 s2 with
            | .ok its s3 => if acc.length + its.length ≤ lim then (match compL tgt1 (M.ret true) f vs1 its acc (wipeS s3 vs1) with
              | .ok acc2 s4 => compL2 tgt (M.ret true) fi1 tgt1 (M.ret true) f vs vs1 (r.map enc) acc2 (wipeS s4 vs)
              | _ => .bad) else .bad
            | _ => .bad) = _
          cases ef1 : fi1 s2 with
          | bad => rw [ef1] at h1; exact h1.elim
          | ex c s3 => rw [ef1] at h1; exact h1.elim
          | ok its s3 =>
            rw [ef1] at h1
            obtain ⟨rfl, e1, e2⟩ := h1
            simp only
            rw [if_pos (by rw [List.length_map]; omega), e1, compL_pure2 h2 _ acc fun y hy => hy]
            simp only
            rw [e2, ih _ (fun z hz => hm z (List.mem_cons_of_mem _ hz)) (by rw [List.length_append, List.length_map]; omega), List.flatMap_cons, List.append_assoc]
    rw [key xs [] (fun x hx => hx) (by simpa using hl)]
    exact q
end
end DL
set_option Elab.async false
set_option linter.all false
set_option maxRecDepth 100000
set_option maxHeartbeats 4000000
namespace DL
open PySem PySem.Spec L2
open PyProof.Rows hiding St
open Evl (Ex ex_l ex_t ex_rd)
/-! DL107: [a, ..] * e -/
def oLstRep (fa : M (List D)) (fb : M D) : M SV := fa.bind fun ds s1 => match fb s1 with
  | .ok (.int k) s2 => if 0 ≤ k ∧ k ≤ 1000 ∧ ds.length ≤ 1000 then .ok (.ol false (List.replicate k.toNat ds).flatten) s2 else .bad
  | _ => .bad
section
variable {X : Cx} {T : List (Addr × Str)} {B : Addr} {W : WX}
end
section
variable {s : S} {Qv : SV → S → Prop} {X : Exc → S → Prop}
theorem wx_lstRep {fa : M (List D)} {fb : M D} : WQ (oLstRep fa fb s) Qv X = WQ (fa s) (fun ds s1 => WQ (fb s1) (fun d s2 => WL (match d with | .int k => if 0 ≤ k ∧ k ≤ 1000 ∧ ds.length ≤ 1000 then some (SV.ol false (List.replicate k.toNat ds).flatten) else none | _ => none) fun v => Qv v s2) (fun _ _ => False)) X := by
  unfold oLstRep
  rw [wx_mbind]
  refine wx_ext fun ds s1 => ?_
  cases fb s1 with
  | bad => rfl
  | ex c s2 => rfl
  | ok d s2 =>
    cases d with
    | int k =>
      show WQ (if _ then _ else _) _ _ = WL (if _ then _ else _) _
      by_cases h : 0 ≤ k ∧ k ≤ 1000 ∧ ds.length ≤ 1000
      · rw [if_pos h, if_pos h]; rfl
      · rw [if_neg h, if_neg h]; rfl
    | _ => rfl
end
end DL
set_option Elab.async false
set_option linter.all false
set_option maxRecDepth 100000
set_option maxHeartbeats 4000000
namespace DL
open PySem PySem.Spec L2
open PyProof.Rows hiding St
open PySem.W (dataLe dataLt alike)
/-! DL108: sums of few letters joined, hooked, folded, unfolded; joins are not made of brackets; the round of three -/
theorem nodup_sub : ∀ {l r : List Wd}, l.Nodup → (∀ x ∈ l, x ∈ r) → l.length ≤ r.length
  | [], r, _, _ => Nat.zero_le _
  | x :: l, r, h, hs => by
    obtain ⟨h1, h2⟩ := List.nodup_cons.mp h
    have hx := hs x List.mem_cons_self
    have h3 := nodup_sub (r := r.erase x) h2 fun y hy => (List.mem_erase_of_ne (fun e => h1 (by rw [← e]; exact hy))).mpr (hs y (List.mem_cons_of_mem _ hy))
    rw [List.length_erase_of_mem hx] at h3
    have h4 := List.length_pos_of_mem hx
    rw [List.length_cons]
    omega
theorem SM.ov {k N m n : Nat} {l : Tb} (h : SM k N l) (ho : Ov m n l) : SM k (WS m n).length l := ⟨h.sum, by
  have := nodup_sub (l := keys l) (r := WS m n) h.sum.nd fun w hw => by
    obtain ⟨p, hp, rfl⟩ := List.mem_map.mp hw
    exact (WS_iff n p.1).mpr (ho p hp)
  simpa [keys] using this, h.sb⟩
theorem SM.h6 {k N m n : Nat} {l : Tb} (h : SM k N l) (ho : Ov m n l) (hn : n ≤ 6) : ∀ p ∈ l, p.1.length ≤ 6 := fun p hp => Nat.le_trans (ho p hp).1 hn
def hkf (f g : Wd → Rat) : Wd → Rat := fun w => conv f g w - conv g f w
/-! ### the law's hook -/
/-! ### layers -/
noncomputable def g_layer : S → Out :=
  gRet (oLc (mUn dSeq (mVar 0)) (tTupT (tConss (tName 2) (tConss (tName 3) tNils)) 2) (mTru (mOp dEq (mUn dLen (mCons (mVar 2) mNil)) (mVar 1))) (mTup (mCons (mVar 2) (mCons (mVar 3) mNil))) [2, 3])
noncomputable def f_layer : S → Res SV := fnR 4 g_layer
def layT (n : Int) (a : Tb) : Tb := a.filter fun p => decide ((p.1.length : Int) = n)
theorem wt_none : ∀ {l : Tb} {w : Wd}, w ∉ keys l → wt l w = 0
  | [], w, _ => rfl
  | (a, q) :: r, w, h => by
    rw [wt_cons, if_neg (fun e => h (by rw [e]; exact List.mem_cons_self))]
    exact wt_none fun z => h (List.mem_cons_of_mem _ z)
/-- the words of one and of two letters -/
def lay2 (a : Tb) : Tb := layT 1 a ++ layT 2 a
theorem lay2_mem {a : Tb} {p : Wd × Rat} : p ∈ lay2 a ↔ p ∈ a ∧ (p.1.length = 1 ∨ p.1.length = 2) := by
  unfold lay2 layT
  rw [List.mem_append, List.mem_filter, List.mem_filter, decide_eq_true_eq, decide_eq_true_eq]
  constructor
  · rintro (⟨h, z⟩ | ⟨h, z⟩)
    · exact ⟨h, .inl (by omega)⟩
    · exact ⟨h, .inr (by omega)⟩
  · rintro ⟨h, z | z⟩
    · exact .inl ⟨h, by omega⟩
    · exact .inr ⟨h, by omega⟩
theorem lay2_sum {a : Tb} (h : IsSum a) : IsSum (lay2 a) := by
  have sub : ∀ i : Int, (keys (layT i a)).Pairwise fun a b => wlt a b = true := fun i => List.Pairwise.sublist (List.Sublist.map _ List.filter_sublist) h.up
  refine ⟨?_, fun p hp => h.nz p (lay2_mem.mp hp).1⟩
  unfold lay2 keys
  rw [List.map_append, List.pairwise_append]
  refine ⟨sub 1, sub 2, fun u hu v hv => ?_⟩
  obtain ⟨p, hp, rfl⟩ := List.mem_map.mp hu
  obtain ⟨q, hq, rfl⟩ := List.mem_map.mp hv
  have l1 : ((p.1.length : Nat) : Int) = 1 := of_decide_eq_true (List.mem_filter.mp hp).2
  have l2 : ((q.1.length : Nat) : Int) = 2 := of_decide_eq_true (List.mem_filter.mp hq).2
  exact decide_eq_true (.inl (by omega))
theorem lay2_sm {k n : Nat} {a : Tb} (h : SM k n a) : SM k n (lay2 a) := by
  obtain ⟨D, M, h0, d1, d2, hs⟩ := h.sb
  have s := lay2_sum h.sum
  refine ⟨s, ?_, D, M, h0, d1, d2, fun p hp => hs.wo p (lay2_mem.mp hp).1, fun p hp => hs.bd p (lay2_mem.mp hp).1⟩
  have := nodup_sub (l := keys (lay2 a)) (r := keys a) s.nd fun w hw => by
    obtain ⟨p, hp, rfl⟩ := List.mem_map.mp hw
    exact List.mem_map.mpr ⟨p, (lay2_mem.mp hp).1, rfl⟩
  simp only [keys, List.length_map] at this
  exact Nat.le_trans this h.len
theorem lay2_wt {a : Tb} (h : IsSum a) (w : Wd) : wt (lay2 a) w = if w.length = 1 ∨ w.length = 2 then wt a w else 0 := by
  have s := lay2_sum h
  by_cases z : w ∈ keys (lay2 a)
  · obtain ⟨p, hp, rfl⟩ := List.mem_map.mp z
    obtain ⟨h3, h4⟩ := lay2_mem.mp hp
    rw [if_pos h4, wt_mem s.nd hp, wt_mem h.nd h3]
  · rw [wt_none z]
    by_cases y : w.length = 1 ∨ w.length = 2
    · rw [if_pos y]
      refine (Classical.byContradiction fun x => z ?_)
      exact List.mem_map.mpr ⟨(w, wt a w), lay2_mem.mpr ⟨(h.mem (w, wt a w)).mpr ⟨fun q => x q.symm, rfl⟩, y⟩, rfl⟩
    · rw [if_neg y]
theorem prim_cut {f : Wd → Rat} (hf : Prim f) {p : Nat → Bool} (h0 : p 0 = false) : Prim (fun w => if p w.length = true then f w else 0) where
  nil := by show (if p 0 = true then f [] else 0) = 0; rw [h0]; rfl
  two a u b v := by
    unfold Lf
    have e : (laidL (a :: u) (b :: v)).map (fun w => if p w.length = true then f w else 0) = (laidL (a :: u) (b :: v)).map fun w => (if p ((a :: u).length + (b :: v).length) = true then 1 else 0) * f w := List.map_congr_left fun w hw => by
      rw [laidL_len _ _ _ hw]
      split
      · rw [Rat.one_mul]
      · rw [Rat.zero_mul]
    rw [e]
    have := hf.two a u b v
    unfold Lf at this
    rw [show ((laidL (a :: u) (b :: v)).map fun w => (if p ((a :: u).length + (b :: v).length) = true then (1 : Rat) else 0) * f w).sum = (if p ((a :: u).length + (b :: v).length) = true then 1 else 0) * ((laidL (a :: u) (b :: v)).map f).sum from Lf_mul _ f _ _, this, Rat.mul_zero]
/-- a bracket row's sum: 30 bits, words of m letters to the length n -/
structure XS (m n : Nat) (l : Tb) : Prop where
  sm : SM 30 5461 l
  ov : Ov m n l
  pr : Prim (wt l)
theorem XS.lay {m n : Nat} {l : Tb} (h : XS m n l) : XS m 2 (lay2 l) := by
  refine ⟨lay2_sm h.sm, fun p hp => ?_, ?_⟩
  · obtain ⟨h1, h2⟩ := lay2_mem.mp hp
    exact ⟨by omega, (h.ov p h1).2⟩
  · have e : wt (lay2 l) = fun w => if (fun k => decide (k = 1 ∨ k = 2)) w.length = true then wt l w else 0 := funext fun w => by
      rw [lay2_wt h.sm.sum]
      simp only [decide_eq_true_eq]
    rw [e]
    exact prim_cut h.pr (p := fun k => decide (k = 1 ∨ k = 2)) rfl
/-! ### [] in (a, b) -/
end DL
set_option Elab.async false
set_option linter.all false
set_option maxRecDepth 100000
set_option maxHeartbeats 4000000
namespace DL
open PySem PySem.Spec L2
open PyProof.Rows hiding St
open PySem.W (dataLe dataLt alike)
/-! DL109: counts of letters; all words, least words: the program's -/
def tp_BadCount : Tpl := [("word", .inl "badcount")]
noncomputable def g_need_many : S → Out :=
  gIf (mNot (mTru (mChain dLe dLe (mC (.int 1)) (mVar 0) (mUn dLen (mCons (mC (.str "abcd")) mNil))))) (gRaise "BadCount" 0 tp_BadCount mNil) gNil
noncomputable def f_need_many : S → Res SV := fnR 1 g_need_many
noncomputable def g_all_words : S → Out :=
  gSeq (gDrop (mF (oCall f_need_many [] (mCons (mVar 0) mNil))))
  (gSeq (gDrop (mF (oCallW f_need_depth [0, 1, 2] [.int (0), .int (6)] (mCons (mVar 1) mNil) mNil)))
  (gSeq (gSetO 2 (oLst (mCons (mC (.str "")) mNil)))
  (gSeq (gFor (mUn dRng1 (mVar 1)) (tName 3) (gSetO 2 (oLc2 (mUn dSeq (mVar 2)) (tName 4) (M.ret true) (mUn dSeq (mF (oSl (mC (.str "abcd")) mNoP (mP (mVar 0))))) (tName 5) (M.ret true) (mOp dAdd (mVar 4) (mVar 5)) [4, 5] [5])))
  (gRet (oMove 2)))))
noncomputable def f_all_words : S → Res SV := fnR 6 g_all_words
noncomputable def g_leasts : S → Out :=
  gRet (oLc (mUn dSeq (mF (oCall f_all_words [] (mCons (mVar 0) (mCons (mVar 1) mNil))))) (tName 2) (mTru (mF (oCall f_least_so [] (mCons (mVar 2) mNil)))) (mVar 2) [2])
noncomputable def f_leasts : S → Res SV := fnR 3 g_leasts
def badCount : Exc := ⟨"BadCount", [("word", .str "badcount")]⟩
theorem len_abcd : dLen [.str "abcd"] = some (.int 4) := by kernel_rfl
theorem abc_take {m : Nat} (hm : m ≤ 4) : ([97, 98, 99, 100] : List Nat).take m = abc m := by
  have : m = 0 ∨ m = 1 ∨ m = 2 ∨ m = 3 ∨ m = 4 := by omega
  rcases this with rfl | rfl | rfl | rfl | rfl <;> rfl
theorem many_yes {m : Int} (h1 : 1 ≤ m) (h4 : m ≤ 4) : f_need_many [.d (.int m)] = .ok (.d .none) [.un] := by
  refine fn_gives (ds := [.int m]) ?_
  show WO (g_need_many [.d (.int m)]) _ _ _ _ _
  unfold g_need_many
  walk_at "run"
  refine wb_by (fun _ => ?_) fun n => absurd h1 n
  walk_at "run"
  rw [len_abcd]
  walk_at "run"
  refine wb_byN (fun n => absurd h4 n) fun _ => ?_
  walk_at "run"
theorem many_no {m : Int} (h : ¬ (1 ≤ m ∧ m ≤ 4)) : f_need_many [.d (.int m)] = .ex badCount [.un] := by
  refine fn_refuses (ds := [.int m]) ?_
  show WO (g_need_many [.d (.int m)]) _ _ _ _ _
  unfold g_need_many
  walk_at "run"
  refine wb_by (fun h1 => ?_) fun h1 => ?_
  · walk_at "run"
    rw [len_abcd]
    walk_at "run"
    refine wb_byN (fun _ => ?_) fun h2 => absurd ⟨h1, h2⟩ h
    walk_at "run"
    exact ⟨rfl, rfl⟩
  · walk_at "run"
    exact ⟨rfl, rfl⟩
theorem allwords_R {m n : Nat} (h1 : 1 ≤ m) (hm : m ≤ 4) (hn : n ≤ 6) : f_all_words [.d (.int m), .d (.int n)] = .ok (.ol false ((wordsL m n).map eW)) [.un, .un] := by
  refine fn_gives (ds := [.int m, .int n]) ?_
  show WO (g_all_words [.d (.int m), .d (.int n), .un, .un, .un, .un]) _ _ _ _ _
  unfold g_all_words
  have lm : (5000 : Nat) ≤ lim := by decide
  have pw : ∀ i, i ≤ 6 → (wordsL m i).length ≤ 4096 := fun i hi => by
    rw [wordsL_len hm]
    exact Nat.le_trans (Nat.pow_le_pow_left hm i) (Nat.le_trans (Nat.pow_le_pow_right (by decide) hi) (by decide))
  walk_at "run"
  refine wf_eq (many_yes (by omega) (by omega)) rfl ?_
  walk_at "run"
  refine wf_eq (depth_yes (by omega) (by omega)) rfl ?_
  walk_at "run"
  refine ⟨decide_eq_true (by omega), ?_⟩
  rw [show ((n : Nat) : Int).toNat = n from rfl]
  have e0 : [PyData.str ""] = (wordsL m 0).map eW := by kernel_rfl
  rw [e0]
  refine wo_range (fun i s => ∃ x3 x4 x5, s = [.d (.int m), .d (.int n), .ol false ((wordsL m i).map eW), x3, x4, x5]) ⟨_, _, _, rfl⟩ (fun i s hi ⟨x3, x4, x5, e⟩ => ?_) fun s ⟨x3, x4, x5, e⟩ => ?_
  · subst e
    walk_at "run"
    have hi6 : i + 1 ≤ 6 := by omega
    have fl : ((wordsL m i).flatMap fun h => (abc m).map fun c => eW (h ++ [c])) = (wordsL m (i + 1)).map eW := by
      show _ = ((wordsL m i).flatMap fun h => (abc m).map fun c => h ++ [c]).map eW
      rw [List.map_flatMap]
      congr 1
      funext h
      rw [List.map_map]
      rfl
    have hlen : ((wordsL m i).flatMap fun h => (abc m).map fun c => eW (h ++ [c])).length ≤ lim := by
      rw [fl, List.length_map]
      have := pw (i + 1) hi6
      omega
    refine wq_lc2 (xs := wordsL m i) (enc := eW) (enc1 := fun _ c => eW [c]) (ys := fun _ => abc m) (h := fun w c => eW (w ++ [c])) (w := [.d (.int m), .d (.int n), .d (.list ((wordsL m i).map eW)), .d (.int (0 + (i : Int))), .un, .un]) (w1 := fun w => [.d (.int m), .d (.int n), .d (.list ((wordsL m i).map eW)), .d (.int (0 + (i : Int))), .d (eW w), .un]) hlen ?_ (fun w hw => ?_) fun w hw c hc => ?_
    · walk_at "run"
      rw [fl]
      exact ⟨_, _, _, rfl⟩
    · walk_at "run"
      rw [show PyData.str "abcd" = eW [97, 98, 99, 100] from congrArg PyData.str abcd, cut_pre (by decide)]
      walk_at "run"
      rw [seqW, abc_take hm]
      walk_at "run"
    · have wl := (wordsL_mem i w hw).2
      walk_at "run"
      rw [wl]
      simp
      omega
  · subst e
    walk_at "run"
theorem leasts_R {m n : Nat} (h1 : 1 ≤ m) (hm : m ≤ 4) (hn : n ≤ 6) : f_leasts [.d (.int m), .d (.int n)] = .ok (.ol false (((wordsL m n).filter leastT).map eW)) [.un, .un] := by
  refine fn_gives (ds := [.int m, .int n]) ?_
  show WO (g_leasts [.d (.int m), .d (.int n), .un]) _ _ _ _ _
  unfold g_leasts
  have lm : (5000 : Nat) ≤ lim := by decide
  have pw : (wordsL m n).length ≤ 4096 := by
    rw [wordsL_len hm]
    exact Nat.le_trans (Nat.pow_le_pow_left hm n) (Nat.le_trans (Nat.pow_le_pow_right (by decide) hn) (by decide))
  walk_at "run"
  refine wq_lcf (xs := wordsL m n) (enc := eW) (p := leastT) (h := eW) (w := [.d (.int m), .d (.int n), .un]) (by omega) ?_ fun w hw => ?_
  · walk_at "run"
    refine wf_eq (allwords_R h1 hm hn) rfl ?_
    walk_at "run"
  · obtain ⟨wL, wl⟩ := wordsL_mem n w hw
    walk_at "run"
    refine wf_eq (least_spec w (by unfold isW; rw [wL, Bool.and_true]; exact decide_eq_true (by omega))) rfl ?_
    rw [← least_same]
    walk_at "run"
    split <;> trivial
theorem allwords_count {m : Int} {n : D} (h : ¬ (1 ≤ m ∧ m ≤ 4)) : f_all_words [.d (.int m), .d n] = .ex badCount [.un, .un] := by
  refine fn_refuses (ds := [.int m, n]) ?_
  show WO (g_all_words [.d (.int m), .d n, .un, .un, .un, .un]) _ _ _ _ _
  unfold g_all_words
  walk_at "run"
  refine wf_bad (many_no h) ?_
  rfl
theorem allwords_deep {m n : Int} (h1 : 1 ≤ m) (h4 : m ≤ 4) (h : ¬ (0 ≤ n ∧ n ≤ 6)) : f_all_words [.d (.int m), .d (.int n)] = .ex badDepth [.un, .un] := by
  refine fn_refuses (ds := [.int m, .int n]) ?_
  show WO (g_all_words [.d (.int m), .d (.int n), .un, .un, .un, .un]) _ _ _ _ _
  unfold g_all_words
  walk_at "run"
  refine wf_eq (many_yes h1 h4) rfl ?_
  walk_at "run"
  refine wf_bad (depth_no h) ?_
  rfl
theorem wq_lcX {fi : M (List D)} {tgt : D → S → Option S} {tt : M Bool} {f : M D} {vs : List Nat} {s : S} {Q : SV → S → Prop} {X : Exc → S → Prop} (h : WQ (fi s) (fun _ _ => False) X) : WQ (oLc fi tgt tt f vs s) Q X := by
  unfold oLc
  cases e : fi s with
  | bad => rw [e] at h; exact h.elim
  | ex c s1 => rw [e] at h; exact h
  | ok l s1 => rw [e] at h; exact h.elim
theorem leasts_bad {m n : D} {e : Exc} {t : S} (h : f_all_words [.d m, .d n] = .ex e t) : f_leasts [.d m, .d n] = .ex e [.un, .un] := by
  refine fn_refuses (ds := [m, n]) ?_
  show WO (g_leasts [.d m, .d n, .un]) _ _ _ _ _
  unfold g_leasts
  walk_at "run"
  refine wq_lcX ?_
  walk_at "run"
  refine wf_bad h ?_
  rfl
end DL
set_option Elab.async false
set_option linter.all false
set_option maxRecDepth 100000
set_option maxHeartbeats 4000000
namespace DL
open PySem PySem.Spec L2
open PyProof.Rows hiding St
open PySem.W (dataLe dataLt alike)
/-! DL110: defs with lambdas of their own: tables for several defs -/
open Evl (Ex ex_l ex_t ex_rd)
def PoFT (K : PySem.W.Frag) (mg : Str → Option Value) (T : List (Addr × Str)) (B : Addr) (F G : Hp) (vs : List V) (Q : VK) (E : XK) : Res SV → Prop
  | .ok rv as' => ∀ F' G' H' v, Gr T F F' → Ex G G' → IS K T B F' G' H' (some v :: vs.map some) (rv :: as') → Q v H'
  | .ex c as' => ∀ F' G' H' C dd fs, Gr T F F' → Ex G G' → IS K T B F' G' H' (vs.map some) as' → mg c.cls = some (.ref C) → H' dd = some (.xd fs) → G' dd = none → RpF K G' fs c.fs → E (.ref C) (some dd) H'
  | .bad => False
def spFT (K : PySem.W.Frag) (mg : Str → Option Value) (T : List (Addr × Str)) (n : Nat) (f : S → Res SV) : Sp := fun vs H Q E => vs.length = n ∧ ∃ B F G as, IS K T B F G H (vs.map some) as ∧ PoFT K mg T B F G vs Q E (f as)
section
variable {P : Program} {w : World} {K : PySem.W.Frag} {mg : Str → Option Value} {base : Heap} {x qual : Str} {params : Arguments} {body : List Stmt} {scope : Scope} {dvs : List V} {kws : List (Str × V)} {f : Addr} {fd : FuncData} {T : List (Addr × Str)}
theorem fn_okT {N ps : List Str} {k : Nat} {g : S → Out} {c0 : Addr} (Fu : FunD K x qual params body scope dvs kws f fd) (Sc : FnScope N ps scope)
    (hcs : ∀ cdv, (∃ (oc : Value) (od : Option Addr) (dV kV doc pm : Value) (an : Option Addr) (ct : Value) (osl : Array (Option Value)), K.lookup f = some ⟨oc, od, .func (PySem.W.fnOf x qual params body scope dV kV doc pm an cdv ct), osl⟩ ∧ PySem.W.codeIn K cdv qual = true) → cdv = .ref c0)
    (hbody : ∀ (cdv : Value) (A : Around) (outer : List Env) (s : Shared) (H : Hp) (E : XK) (B : Addr), cdv = .ref c0 → Room k (A.deeper (envOfC qual scope s.heap.objs.size f cdv)) →
      DSs (cxOf (L2.CX P w) P w K mg base N qual scope f cdv A outer s H E) T B (fun cls d _ H => E cls d H) body g) :
    FnOk P w K mg base (L2.CX P w) (k + 1) f fd ps (spFT K mg T ps.length (fnR N.length g)) := by
  obtain ⟨oc, od, dV, kV, doc, pm, an, cdv, ct, osl, rfl, lk, hcd, _, _⟩ := Fu.ex
  have hcd' := hcs cdv ⟨oc, od, dV, kV, doc, pm, an, ct, osl, lk, hcd⟩
  refine fn_of lk hcd Sc (fun vs H Q E h => h.1) (fun A outer s H vs Q E hr h => ?_)
  obtain ⟨hl, B, F, G, as, I, p⟩ := h
  have J : IS K T B F G H (L2.start N vs) (as ++ List.replicate (N.length - vs.length) SV.un) := I.pad (N.length - vs.length)
  refine ⟨_, hbody cdv A outer s H E B hcd' hr, F, G, _, J, ?_⟩
  have la : as.length = vs.length := by rw [I.len, List.length_map]
  unfold fnR at p
  rw [la] at p
  cases e : g (as ++ List.replicate (N.length - vs.length) .un) with
  | nx s' =>
    rw [e] at p
    intro F' G' H' σ' gr eg I'
    exact p F' G' H' .non gr eg ((IS.keep I I').pushD .non)
  | rt v s' =>
    rw [e] at p
    intro F' G' H' σ' v gr eg I'
    exact p F' G' H' v gr eg (IS.keepR I I')
  | ex c s' =>
    rw [e] at p
    intro σ' F' G' H' C dd fs gr eg I' hm hd hn hf
    exact p F' G' H' C dd fs gr eg (IS.keep I I') hm hd hn hf
  | bk s' => rw [e] at p; exact p.elim
  | ct s' => rw [e] at p; exact p.elim
  | bad => rw [e] at p; exact p.elim
end
/-! ### calls -/
section
variable {K : PySem.W.Frag} {T : List (Addr × Str)} {B : Addr} {F F' F1 G G' H H' : Hp} {σ σ' : St} {s s' : S} {x : SV} {o : Option V}
theorem SlR.keepM (h : SlR K B F G H x o) (hn : isNl x = false) (e : Ex G G') (k : x.own = true → ∀ p u, o = some (.ref p) → H p = some u → inn u = false → (∀ ps, u ≠ .tbl ps) → G p = none → F p = none → G' p = none ∧ H' p = some u ∧ F' p = none)
    (kc : ∀ p y, H p = some (.own y) → G p = none → G' p = none ∧ H' p = some (.own y)) : SlR K B F' G' H' x o := by
  cases x with
  | un => trivial
  | d y =>
    obtain ⟨v, h1, h2⟩ := h
    exact ⟨v, h1, h2.mono e⟩
  | ol r xs =>
    obtain ⟨p, vs, h1, h2, h3, h4, h5, h6⟩ := h
    obtain ⟨k1, k2, k3⟩ := k rfl p _ h1 h3 rfl (fun ps z => nomatch z) h5 h6
    exact ⟨p, vs, h1, h2, k2, h4.mono e, k1, k3⟩
  | od r ks xs =>
    obtain ⟨p, vs, h1, h2, h3, h4, h5, h6, h7⟩ := h
    obtain ⟨k1, k2, k3⟩ := k rfl p _ h1 h3 rfl (fun ps z => nomatch z) h6 h7
    exact ⟨p, vs, h1, h2, k2, h4, h5.mono e, k1, k3⟩
  | fd r ks xs =>
    obtain ⟨p, vs, ob, h1, h2, h3, h4, h5, h6, h7⟩ := h
    obtain ⟨k1, k2, k3⟩ := k rfl p _ h1 h3 rfl (fun ps z => nomatch z) h6 h7
    exact ⟨p, vs, ob, h1, h2, k2, h4, h5.mono e, k1, k3⟩
  | fv y => exact h
  | sp r z =>
    cases z with
    | nl kk xss => cases hn
    | ob c fs =>
      obtain ⟨p, u, C, h1, h2, h3, h4, h5, h6, h7⟩ := h
      have h4' := h4
      obtain ⟨dx, vs, eu, e2, _⟩ := h4
      obtain ⟨k1, k2, k3⟩ := k rfl p _ h1 h3 h4'.inn (fun ps z => by rw [eu] at z; cases z) h5 h6
      refine ⟨p, u, C, h1, h2, k2, h4'.mono e, k1, k3, fun c hc => ?_⟩
      obtain ⟨a1, a2, a3, a4⟩ := h7 c hc
      rw [e2] at hc
      have e3 := List.mem_singleton.mp hc
      rw [e3] at a1 a3 ⊢
      obtain ⟨b1, b2⟩ := kc _ _ a1 a3
      exact ⟨b2, rfl, b1, fun q => nomatch q⟩
/-- an own slot's place: it is no table -/
theorem SlR.placeM (h : SlR K B F G H x o) (w : x.own = true) : ∃ p u, o = some (.ref p) ∧ H p = some u ∧ G p = none ∧ F p = none ∧ ∀ ps, u ≠ .tbl ps := by
  cases x with
  | un => cases w
  | d y => cases w
  | fv y => cases w
  | ol r xs =>
    obtain ⟨p, vs, h1, h2, h3, h4, h5, h6⟩ := h
    exact ⟨p, _, h1, h3, h5, h6, fun ps z => nomatch z⟩
  | od r ks xs =>
    obtain ⟨p, vs, h1, h2, h3, h4, h5, h6, h7⟩ := h
    exact ⟨p, _, h1, h3, h6, h7, fun ps z => nomatch z⟩
  | fd r ks xs =>
    obtain ⟨p, vs, ob, h1, h2, h3, h4, h5, h6, h7⟩ := h
    exact ⟨p, _, h1, h3, h6, h7, fun ps z => nomatch z⟩
  | sp r z =>
    obtain ⟨p, u, C, h1, h2, h3, h4, h5, h6, h7⟩ := h
    refine ⟨p, u, h1, h3, h5, h6, fun ps y => ?_⟩
    subst y
    cases z with
    | ob c fs =>
      obtain ⟨dx, vs, e, _⟩ := h4
      cases e
    | nl k xss =>
      obtain ⟨qs, e, _⟩ := h4
      cases k <;> cases e
theorem IS.forCallT (I : IS K T B F G H σ s) {vs : List V} {ds : List D} (r : RpA K G vs ds) : IS K T 0 (restH G H none) G H (vs.map some) (ds.map .d) := by
  have J := I.forCall r
  exact ⟨J.len, J.fr, J.gh, J.dj, LamX.Tabs.ext I.tb fun b u h => rest_of (I.dj b u h) (fun z => by cases z) (I.fr b u h), J.sl, J.ap, J.tc⟩
open Classical in
/-- what must stay behind a call: the tables may have grown -/
noncomputable def backF (F R F1 : Hp) : Hp := fun a => if F a = none ∧ R a ≠ none ∧ ¬ ∃ q, F1 a = some (LamX.CodeO a q) then none else F1 a
theorem backF_some {F R F1 : Hp} {a : Addr} {u : HO} (h : backF F R F1 a = some u) : F1 a = some u := by
  unfold backF at h
  split at h
  · cases h
  · exact h
theorem backF_of {F R F1 : Hp} {a : Addr} (h : F a ≠ none) : backF F R F1 a = F1 a := by
  unfold backF
  rw [if_neg (fun z => h z.1)]
theorem backF_code {F R F1 : Hp} {a : Addr} {q : Str} (h : F1 a = some (LamX.CodeO a q)) : backF F R F1 a = some (LamX.CodeO a q) := by
  unfold backF
  rw [if_neg (fun z => z.2.2 ⟨q, h⟩)]
  exact h
theorem backF_none {F R F1 : Hp} {a : Addr} {u : HO} (h : F a = none) (hr : R a ≠ none) (h1 : F1 a = some u) (iu : inn u = false) : backF F R F1 a = none := by
  unfold backF
  rw [if_pos ⟨h, hr, fun ⟨q, z⟩ => by
    rw [h1] at z
    rw [Option.some.inj z] at iu
    cases iu⟩]
theorem backF_none1 {F R F1 : Hp} {a : Addr} (h1 : F1 a = none) : backF F R F1 a = none := by
  unfold backF
  split
  · rfl
  · exact h1
theorem IS.backGr (hT : T ≠ []) (I : IS K T B F G H σ s) (g : Gr T (restH G H none) F1) : Gr T F (backF F (restH G H none) F1) := by
  have kf : ∀ {a u}, F a = some u → restH G H none a = some u := fun {a u} h => rest_of (I.dj a u h) (fun z => by cases z) (I.fr a u h)
  refine ⟨fun b o h nt => ?_, fun ht => absurd ht hT⟩
  rw [backF_of (by rw [h]; exact fun z => by cases z)]
  exact g.ex b o (kf h) nt
theorem IS.backT {B' : Addr} (I : IS K T B F G H σ s) (hn : nlF s = true) (g : Gr T (restH G H none) F1) (e : Ex G G') (J : IS K T B' F1 G' H' σ' s') : IS K T B (backF F (restH G H none) F1) G' H' σ s := by
  have kf : ∀ {a u}, F a = some u → restH G H none a = some u := fun {a u} h => rest_of (I.dj a u h) (fun z => by cases z) (I.fr a u h)
  refine ⟨I.len, fun a u h => J.fr a u (backF_some h), J.gh, fun a u h => J.dj a u (backF_some h), fun p hp => ?_, fun i y hy => ?_, I.ap, J.tc⟩
  · obtain ⟨ps0, t0, _⟩ := I.tb p hp
    obtain ⟨ps, t1, t2, t3⟩ := J.tb p hp
    refine ⟨ps, ?_, t2, fun pos cv hc => ?_⟩
    · rw [backF_of (by rw [t0]; exact fun z => by cases z)]
      exact t1
    · obtain ⟨c, e1, e2⟩ := t3 pos cv hc
      exact ⟨c, e1, backF_code e2⟩
  · refine (I.sl i y hy).keepM (nlF_get hn hy) e (fun _ p u _ h1 iu nt h2 h3 => ?_) fun p y h1 h2 => ?_
    · have hr := rest_of (p := none) h2 (fun z => by cases z) h1
      have f1 := g.ex p u hr nt
      exact ⟨J.dj p u f1, J.fr p u f1, backF_none h3 (by rw [hr]; exact fun z => by cases z) f1 iu⟩
    · have hr := rest_of (p := none) h2 (fun z => by cases z) h1
      have f1 := g.ex p _ hr (fun ps z => nomatch z)
      exact ⟨J.dj p _ f1, J.fr p _ f1⟩
theorem IS.backRT {B' : Addr} {v : V} (I : IS K T B F G H σ s) (hn : nlF s = true) (g : Gr T (restH G H none) F1) (e : Ex G G') (J : IS K T B' F1 G' H' (some v :: σ') (x :: s')) (hx : x.rf = false) : IS K T B (backF F (restH G H none) F1) G' H' (some v :: σ) (x :: s) := by
  have h0 : SlR K B (backF F (restH G H none) F1) G' H' x (some v) := by
    have h := J.head
    cases x with
    | un => trivial
    | d y => exact h
    | ol r xs =>
      obtain ⟨p, vs, h1, h2, h3, h4, h5, h6⟩ := h
      exact ⟨p, vs, h1, (fun z => by rw [z] at hx; cases hx), h3, h4, h5, backF_none1 h6⟩
    | od r ks xs =>
      obtain ⟨p, vs, h1, h2, h3, h4, h5, h6, h7⟩ := h
      exact ⟨p, vs, h1, (fun z => by rw [z] at hx; cases hx), h3, h4, h5, h6, backF_none1 h7⟩
    | fd r ks xs =>
      obtain ⟨p, vs, ob, h1, h2, h3, h4, h5, h6, h7⟩ := h
      exact ⟨p, vs, ob, h1, (fun z => by rw [z] at hx; cases hx), h3, h4, h5, h6, backF_none1 h7⟩
    | fv y => exact h
    | sp r z =>
      obtain ⟨p, u, C, h1, h2, h3, h4, h5, h6, h7⟩ := h
      exact ⟨p, u, C, h1, (fun z => by rw [z] at hx; cases hx), h3, h4, h5, backF_none1 h6, fun c hc => ⟨(h7 c hc).1, (h7 c hc).2.1, (h7 c hc).2.2.1, fun q => backF_none1 ((h7 c hc).2.2.2 q)⟩⟩
  refine (I.backT hn g e J.tail).push h0 fun w q i y e1 e2 e3 e4 => ?_
  obtain ⟨r, u, f1, f2, f3, f4, f5⟩ := (I.sl i y e2).placeM e3
  rw [e4] at f1
  cases f1
  obtain ⟨r2, u2, k1, k2, k3, k4⟩ := J.head.place w
  rw [e1] at k1
  cases k1
  have := g.ex _ _ (rest_of (p := none) f3 (fun z => by cases z) f2) f5
  rw [k4] at this
  cases this
end
def oCallT (f : S → Res SV) (dds : List D) (fa : M (List D)) : M SV := fun s => (fa s).bind fun ds s1 => if nlF s1 = true then (match f ((ds ++ dds).map .d) with
  | .ok rv _ => if rv.rf = true then .bad else .ok rv s1
  | .ex c _ => .ex c s1
  | .bad => .bad) else .bad
section
variable {X : Cx} {T : List (Addr × Str)} {B : Addr} {W : WX}
theorem call_toT {n : Nat} {f : S → Res SV} {F G H : Hp} {σ : St} {s : S} {vs : List V} {ds : List D} {Q : VK} (hT : T ≠ []) (I : IS X.K T B F G H σ s) (hnl : nlF s = true) (r : RpA X.K G vs ds) (hn : ds.length = n)
    (p : Po X T B W F G σ (fun F' G' x s' H' => ∀ v, IS X.K T B F' G' H' (some v :: σ) (x :: s') → Q v H') (match f (ds.map .d) with
      | .ok rv _ => if rv.rf = true then .bad else .ok rv s
      | .ex c _ => .ex c s
      | .bad => .bad)) : spFT X.K X.mg T n f vs H Q (WE W σ) := by
  refine ⟨by rw [r.len]; exact hn, 0, restH G H none, G, ds.map .d, I.forCallT r, ?_⟩
  cases e : f (ds.map .d) with
  | bad => rw [e] at p; exact p.elim
  | ex c as' =>
    rw [e] at p
    intro F1 G' H' C dd fs g eg J hm hd hn hf
    exact p _ G' H' C dd fs (I.backGr hT g) eg (I.backT hnl g eg J) hm hd hn hf
  | ok rv as' =>
    rw [e] at p
    intro F1 G' H' v g eg J
    simp only at p
    cases hr : rv.rf with
    | true => rw [hr] at p; exact p.elim
    | false =>
      rw [hr] at p
      exact p _ G' H' (I.backGr hT g) eg (I.backT hnl g eg J.tail) v (I.backRT hnl g eg J hr)
structure FnCT (P : Program) (w : World) (K : PySem.W.Frag) (mg : Str → Option Value) (base : Heap) (T : List (Addr × Str)) (k n : Nat) (x : Str) (f : S → Res SV) (dds : List D) : Prop where
  ex : ∃ (fd : FuncData) (ps : List Str) (dvs : List V) (ds : List Value), FnOk P w K mg base (L2.CX P w) k (He.ga K x) fd ps (spFT K mg T n f) ∧ Binds K fd ps ds ∧ Vals dvs ds ∧ ∀ G, RpA K G dvs dds
  hm : mg x = some (.ref (He.ga K x))
  kp : PySem.W.keepIn K (.ref (He.ga K x)) = true
theorem do_fnT {k k' n : Nat} {f : S → Res SV} {x : Str} {p pos : Pos} {e : Expr} {es : List Expr} {dds : List D} {fa : M (List D)} (hT : T ≠ []) (Fn : FnCT X.prog X.w X.K X.mg X.base T k n x f dds) (hr : Room k' X.A) (hk : k ≤ k') (tk : Takes X W) (ha : DA X T B W (e :: es) fa) (hn : ∀ s ds s', fa s = .ok ds s' → (ds ++ dds).length = n) (hg : Gl X x := by rfl) (hdb : (x == ("__debug__" : Str)) = false := by decide)
    (he : starEach (e :: es) X.env = (false, eval e X.env) :: starEach es X.env := by rfl) (hpl : (backTo pos (starEach es X.env)).any (·.1) = false := by rfl) : DO X T B W (.Call (.Name x p) (e :: es) [] pos) (oCallT f dds fa) := by
  obtain ⟨⟨fd, ps, dvs, ds, F, hb, hd, hdd⟩, hm, kp⟩ := Fn
  refine pe_weak (pe_callSD F (hr.mono hk) hg hm kp hb hd (fun σ => passAt tk σ) ha hdb he hpl) fun σ H Q ⟨F, G, s, I, q⟩ => ?_
  have hlen := hn s
  have q2 : Po X T B W F G σ (fun F' G' x s' H' => ∀ v, IS X.K T B F' G' H' (some v :: σ) (x :: s') → Q v H') ((fa s).bind fun ds s1 => if nlF s1 = true then (match f ((ds ++ dds).map .d) with
    | .ok rv _ => if rv.rf = true then .bad else .ok rv s1
    | .ex c _ => .ex c s1
    | .bad => .bad) else .bad) := q
  refine ⟨F, G, s, I, ?_⟩
  cases ef : fa s with
  | bad => rw [ef] at q2; exact q2
  | ex c s' => rw [ef] at q2; exact q2
  | ok ds' s1 =>
    rw [ef] at q2
    intro F1 G1 H1 g1 e1 I1 vs r1
    by_cases hnl : nlF s1 = true
    · have q3 : Po X T B W F G σ _ (if nlF s1 = true then (match f ((ds' ++ dds).map .d) with
        | .ok rv _ => if rv.rf = true then .bad else .ok rv s1
        | .ex c _ => .ex c s1
        | .bad => .bad) else .bad) := q2
      rw [if_pos hnl] at q3
      exact call_toT hT I1 hnl (r1.app (hdd G1)) (hlen ds' s1 ef) (Po.mono q3 g1 e1)
    · have q3 : Po X T B W F G σ _ (if nlF s1 = true then (match f ((ds' ++ dds).map .d) with
        | .ok rv _ => if rv.rf = true then .bad else .ok rv s1
        | .ex c _ => .ex c s1
        | .bad => .bad) else .bad) := q2
      rw [if_neg hnl] at q3
      exact q3.elim
end
/-! ### the law's def among several tables -/
section
variable {P : Program} {w : World} {K : PySem.W.Frag} {mg : Str → Option Value} {base : Heap}
theorem law_okT {fd : FuncData} {f : Addr} {x name qual : Str} {params : Arguments} {body : List Stmt} {scope : Scope} {N : List Str} {k : Nat} {g : S → Out} {cs : List (Addr × Addr)} {T : List (Addr × Str)} {c0 : Addr}
    (Fu : FunD K name qual params body scope [] [] f fd) (Sc : FnScope N [x] scope) (hTm : ∀ p ∈ T, p.1 ∈ cs.map (·.2))
    (hcs : ∀ cdv, (∃ (oc : Value) (od : Option Addr) (dV kV doc pm : Value) (an : Option Addr) (ct : Value) (osl : Array (Option Value)), K.lookup f = some ⟨oc, od, .func (PySem.W.fnOf name qual params body scope dV kV doc pm an cdv ct), osl⟩ ∧ PySem.W.codeIn K cdv qual = true) → cdv = .ref c0)
    (hbody : ∀ (cdv : Value) (A : Around) (outer : List Env) (s : Shared) (H : Hp) (E : XK) (B : Addr), cdv = .ref c0 → Room k (A.deeper (envOfC qual scope s.heap.objs.size f cdv)) →
      DSs (cxOf (L2.CX P w) P w K mg base N qual scope f cdv A outer s H E) T B (fun cls d _ H => E cls d H) body g)
    (hg : ∀ ns : List Int, ns.length ≤ 63 → (∀ z ∈ ns, Builtin.Int.intBits z ≤ 1048576) → ∃ s', g (.d (.list (ints' ns)) :: List.replicate (N.length - 1) .un) = .rt (.d (.bool true)) s') :
    FnOk P w K mg base (L2.CX P w) (k + 1) f fd [x] (spLaw K cs) := by
  obtain ⟨oc, od, dV, kV, doc, pm, an, cdv, ct, osl, rfl, lk, hcd, _, _⟩ := Fu.ex
  refine fn_of lk hcd Sc (fun vs H Q E ⟨a, ns, e, _⟩ => by rw [e]; rfl) (fun A outer s H vs Q E hr h => ?_)
  obtain ⟨a, ns, rfl, hl, hb, hT, hS, hQ⟩ := h
  have hcd' := hcs cdv ⟨oc, od, dV, kV, doc, pm, an, ct, osl, lk, hcd⟩
  refine ⟨_, hbody cdv A outer s H E 0 hcd' hr, onT cs H, offT cs H, .d (.list (ints' ns)) :: List.replicate (N.length - 1) .un, ?_, ?_⟩
  · have at_ : ∀ {b o}, onT cs H b = some o → b ∈ cs.map (·.2) ∧ H b = some o := fun {b o} e => by
      unfold onT at e
      split at e
      · exact ⟨by assumption, e⟩
      · cases e
    have I0 : IS K T 0 (onT cs H) (offT cs H) H ([V.ref a].map some) [.d (.list (ints' ns))] := by
      refine ⟨rfl, fun b o e => (at_ e).2, fun b o e => ?_, fun b o e => ?_, fun p hp => ?_, fun i y hy => ?_, fun i j y z p ne hy hz oy => ?_, fun b xs e => ?_⟩
      · unfold offT at e
        split at e
        · cases e
        · exact e
      · unfold offT
        rw [if_pos (at_ e).1]
      · have hm := hTm p hp
        refine LamX.TabS.nil ?_
        unfold onT
        rw [if_pos hm]
        obtain ⟨q, hq, e⟩ := List.mem_map.mp hm
        rw [← show q.2 = p.1 from e]
        exact hT q hq
      · match i, hy with
        | 0, hy =>
          cases hy
          exact ⟨_, rfl, .lst (sqL_off hS hT) (rpA_ints ns)⟩
      · match i, hy with
        | 0, hy =>
          cases hy
          cases oy
      · unfold offT
        rw [if_neg (fun hm => ?_)]
        · exact e
        · obtain ⟨q, hq, eq⟩ := List.mem_map.mp hm
          have z := hT q hq
          rw [show q.2 = b from eq, e] at z
          cases z
    exact I0.pad (N.length - 1)
  · obtain ⟨s', e⟩ := hg ns hl hb
    rw [e]
    intro F' G' H' σ' v gr eg I'
    have hv := I'.head
    obtain ⟨u, e1, e2⟩ := hv
    cases e1
    rw [e2.bl_inv]
    exact hQ H'
/-- the tables of several defs, by their names -/
def tabsN (K : PySem.W.Frag) (qs : List (He.Defn × Str)) : List (Addr × Str) := qs.map fun q => ((He.cT K q.1).2, q.2 ++ ".<locals>." ++ "<lambda>")
/-- they are told apart -/
def tabsNe (K : PySem.W.Frag) (qs : List (He.Defn × Str)) : Bool := qs.all fun a => qs.all fun b => decide (a.2 = b.2) || !decide ((He.cT K a.1).2 = (He.cT K b.1).2)
theorem tabC_ofN {qual : Str} {scope : Scope} {N : List Str} {f : Addr} {cdv : Value} {A : Around} {outer : List Env} {s : Shared} {H : Hp} {E : XK} {qs : List (He.Defn × Str)} {d : He.Defn} (hTB : ∀ p ∈ (qs.map (·.1)).map (He.cT K), LamX.TabB base mg p.1 p.2) (hne : tabsNe K qs = true) (hd : (d, qual) ∈ qs) (hc : cdv = .ref (He.cT K d).1) :
    TabC (cxOf (L2.CX P w) P w K mg base N qual scope f cdv A outer s H E) (tabsN K qs) (He.cT K d).1 (He.cT K d).2 := by
  refine ⟨hTB _ (List.mem_map.mpr ⟨d, List.mem_map.mpr ⟨_, hd, rfl⟩, rfl⟩), hc, List.mem_map.mpr ⟨(d, qual), hd, rfl⟩, fun q hq e => ?_⟩
  obtain ⟨r, hr, rfl⟩ := List.mem_map.mp hq
  have h1 := List.all_eq_true.mp (List.all_eq_true.mp hne r hr) (d, qual) hd
  have e' : (He.cT K r.1).2 = (He.cT K d).2 := e
  rw [e', decide_eq_true (rfl : (He.cT K d).2 = (He.cT K d).2)] at h1
  have h2 : r.2 = qual := by simpa using h1
  show r.2 ++ ".<locals>." ++ "<lambda>" = _
  rw [h2]
  rfl
theorem tabsN_in {qs : List (He.Defn × Str)} : ∀ p ∈ tabsN K qs, p.1 ∈ ((qs.map (·.1)).map (He.cT K)).map (·.2) := fun p hp => by
  obtain ⟨r, hr, rfl⟩ := List.mem_map.mp hp
  exact List.mem_map.mpr ⟨_, List.mem_map.mpr ⟨r.1, List.mem_map.mpr ⟨r, hr, rfl⟩, rfl⟩, rfl⟩
theorem code_ofN {f : Addr} {name qual : Str} {params : Arguments} {body : List Stmt} {scope : Scope} {q : He.Defn} (hf : He.fAd K q = f) (cdv : Value) (h : ∃ (oc : Value) (od : Option Addr) (dV kV doc pm : Value) (an : Option Addr) (ct : Value) (osl : Array (Option Value)), K.lookup f = some ⟨oc, od, .func (PySem.W.fnOf name qual params body scope dV kV doc pm an cdv ct), osl⟩ ∧ PySem.W.codeIn K cdv qual = true) : cdv = .ref (He.cT K q).1 :=
  code_of hf cdv h _ (List.mem_map.mpr ⟨q, List.mem_singleton.mpr rfl, rfl⟩)
end
section
variable {s : S} {Qv : SV → S → Prop} {X : Exc → S → Prop}
theorem wx_callT {f : S → Res SV} {dds : List D} {fa : M (List D)} : WQ (oCallT f dds fa s) Qv X = WQ (fa s) (fun ds s1 => nlF s1 = true ∧ WF (f ((ds ++ dds).map .d)) (fun rv _ => Qv rv s1) (fun c _ => X c s1)) X := by
  unfold oCallT
  rw [wx_bind]
  refine wx_ext fun ds s1 => ?_
  by_cases h : nlF s1 = true
  · rw [if_pos h, eq_true h, true_and]
    cases f ((ds ++ dds).map .d) with
    | bad => rfl
    | ex c t => rfl
    | ok v t =>
      show WQ (if v.rf = true then Res.bad else Res.ok v s1) Qv X = (v.rf = false ∧ Qv v s1)
      cases v.rf with
      | true => simp [WQ]
      | false => simp [WQ]
  · rw [if_neg h]
    refine propext ⟨fun z => z.elim, fun z => absurd z.1 h⟩
end
end DL
set_option Elab.async false
set_option linter.all false
set_option maxRecDepth 100000
set_option maxHeartbeats 4000000
/-! readings of the defs of k06; printed by gen.py -/
namespace K06
open PySem PySem.Spec L2 DL
open PyProof.Rows hiding St
def pl_law_why : List (Str × List Str) := [("BadCount", ["word"]), ("BadDepth", ["word"])]
def pk_law_why : Pk := fun x => pl_law_why.lookup x
def hl_law_why : List (Str × List Str) := [("Stuck", ["word", "at"]), ("BadText", ["word", "at"]), ("BadMove", ["word", "at"]), ("NoName", ["word", "name"]), ("Ring", ["word", "those"]), ("InUse", ["word", "by"]), ("NotBrackets", ["word"]), ("TreadError", ["word"])]
noncomputable def g_law_asked : S → Out :=
  gRet (oLst (mCons (mWhy "told" "no" pk_law_why (mF (oCall f_all_words [] (mCons (mVar 0) (mCons (mVar 1) mNil))))) (mCons (mWhy "told" "no" pk_law_why (mF (oCallW f_leasts [1, 0] [] mNil (mCons (mVar 1) (mCons (mVar 0) mNil))))) mNil)))
noncomputable def f_law_asked : S → Res SV := fnR 2 g_law_asked
noncomputable def g_law : S → Out :=
  gSeq (gSetO 1 (oCall f_open [] (mCons (mVar 0) mNil)))
  (gSeq (gFor (mUn dRng1 (mC (.int 3))) (tName 2) (gBlur [4, 5, 6, 7, 10, 8, 9] (gSeq (gSet 4 (mOp dAdd (mC (.int 1)) (mF (oCallR 1 f_draw [] (mCons (mC (.int 4)) mNil)))))
  (gSeq (gSet 5 (mF (oCallR 1 f_draw [] (mCons (mOp dIx (mLst (mCons (mC (.int 7)) (mCons (mC (.int 7)) (mCons (mC (.int 6)) (mCons (mC (.int 5)) mNil))))) (mOp dSub (mVar 4) (mC (.int 1)))) mNil))))
  (gSeq (gSet 6 (mLst (mCons (mF (oCall fl_words [] (mCons (mVar 4) (mCons (mVar 5) mNil)))) (mCons (mF (oCall fl_least_words [] (mCons (mVar 4) (mCons (mVar 5) mNil)))) mNil))))
  (gSeq (gFor (mUn dRng1 (mC (.int 2))) (tName 7) (gBlur [10] (gSeq (gSetO 10 (oNl [oCall f_all_words [] (mCons (mVar 4) (mCons (mVar 5) mNil)), oCall f_leasts [] (mCons (mVar 4) (mCons (mVar 5) mNil))]))
  (gSeq (gIf (mNot (mTru (mF (oCallN 10 (f_like 8) [] (mCons (mVar 6) mNil))))) (gRet (oD (mC (.bool false)))) gNil)
  (gSeq (gNlApp 10 0 (mC (.str "a")))
  (gNlClr 10 1))))))
  (gBlur [7, 10] (gSeq (gSet 8 (mF (oCallR 1 fl_far [] mNil)))
  (gSeq (gIf (mTru (mOp dNe (mF (oCallT f_law_asked [] (mCons (mVar 4) (mCons (mVar 8) mNil)))) (mF (oRep (oLst (mCons (mTup (mCons (mC (.str "no")) (mCons (mC (.str "baddepth")) mNil))) mNil)) 2)))) (gRet (oD (mC (.bool false)))) gNil)
  (gSeq (gSet 9 (mF (oCallR 1 fl_of [] (mCons (mLst (mCons (mC (.int 0)) (mCons (mC (.int 5)) (mCons (mVar 8) mNil)))) mNil))))
  (gIf (mTru (mOp dNe (mF (oCat (mF (oCallT f_law_asked [] (mCons (mVar 9) (mCons (mVar 5) mNil)))) (mF (oCallT f_law_asked [] (mCons (mVar 9) (mCons (mVar 8) mNil)))))) (mF (oRep (oLst (mCons (mTup (mCons (mC (.str "no")) (mCons (mC (.str "badcount")) mNil))) mNil)) 4)))) (gRet (oD (mC (.bool false)))) gNil)))))))))))
  (gSeq (gSet 3 (mLst (mCons (mF (oCall f_all_words [] (mCons (mC (.int 4)) (mCons (mC (.int 5)) mNil)))) (mCons (mF (oCall f_all_words [] (mCons (mC (.int 4)) (mCons (mC (.int 6)) mNil)))) (mCons (mF (oCall f_leasts [] (mCons (mC (.int 4)) (mCons (mC (.int 5)) mNil)))) (mCons (mF (oCall f_leasts [] (mCons (mC (.int 4)) (mCons (mC (.int 6)) mNil)))) mNil))))))
  (gSeq (gIf (mNot (mTru (mF (oCall (f_like 8) [] (mCons (mF (oLc (mUn dSeq (mVar 3)) (tName 11) (M.ret true) (mUn dLen (mCons (mVar 11) mNil)) [11])) (mCons (mLst (mCons (mC (.int 1024)) (mCons (mC (.int 4096)) (mCons (mC (.int 204)) (mCons (mC (.int 670)) mNil))))) mNil)))))) (gRet (oD (mC (.bool false)))) gNil)
  (gSeq (gIf (mNot (mTru (mF (oCall (f_like 8) [] (mCons (mF (oLc (mUn dSeq (mVar 3)) (tName 11) (M.ret true) (mOp dIx (mVar 11) (mUn dNeg (mC (.int 1)))) [11])) (mCons (mLst (mCons (mC (.str "ddddd")) (mCons (mC (.str "dddddd")) (mCons (mC (.str "cdddd")) (mCons (mC (.str "cddddd")) mNil))))) mNil)))))) (gRet (oD (mC (.bool false)))) gNil)
  (gRet (oCall (f_like 8) [] (mCons (mLst (mCons (mF (oCall f_all_words [] (mCons (mC (.int 2)) (mCons (mC (.int 0)) mNil)))) (mCons (mF (oCall f_leasts [] (mCons (mC (.int 3)) (mCons (mC (.int 0)) mNil)))) (mCons (mF (oCall f_leasts [] (mCons (mC (.int 1)) (mCons (mC (.int 2)) mNil)))) mNil)))) (mCons (mLst (mCons (mLst (mCons (mC (.str "")) mNil)) (mCons (mLst mNil) (mCons (mLst mNil) mNil)))) mNil))))))))
end K06
set_option Elab.async false
set_option linter.all false
set_option maxRecDepth 100000
set_option maxHeartbeats 4000000
local macro_rules | `(tactic| walk_at "run") => `(tactic| try simp only [DL.wo_seq, DL.wx_callT, DL.wx_lstRep, DL.wx_sortT, DL.wx_dgetO, DL.wod_od, DL.tupl_l, DL.tupl_t, DL.wl_mulA, DL.wx_rgL, DL.wo_blur, DL.blur_nil, DL.blur_cons, DL.wx_nls0, DL.wx_nls, DL.wx_nl, DL.wn_ol, DL.wx_callN, DL.wnl_nl, DL.wu_un, DL.wo_nlApp, DL.wo_nlClr, DL.wo_nlFor, DL.nlF_nil, DL.nlF_d, DL.nlF_un, DL.nlF_ol, DL.nlF_od, DL.nlF_fd, DL.wo_nil, DL.wo_set, DL.wo_setO, DL.wo_ret, DL.wo_if, DL.wo_drop, DL.wo_asg, DL.wo_par, DL.wo_aug, DL.wo_for, DL.wo_raise, DL.wo_app, DL.wo_setIx, DL.wo_nx, DL.wo_rt, DL.wo_bk, DL.wo_ct, DL.wo_ex, DL.wx_ok, DL.wx_ex, DL.wx_op, DL.wx_un, DL.wx_C, DL.wx_ret, DL.wx_var, DL.wx_nil, DL.wx_cons, DL.wx_tru, DL.wx_not, DL.wx_and, DL.wx_or, DL.wx_andV, DL.wx_orV, DL.wx_notV, DL.wx_if, DL.wx_chain, DL.wx_tup, DL.wx_lst, DL.wx_olst, DL.wx_oD, DL.wx_F, DL.wx_list, DL.wx_nop, DL.wx_p, DL.wx_sl, DL.wx_call, DL.wx_callW, DL.wx_callR, DL.wx_pix, DL.wx_plen, DL.wx_din, DL.wx_dget2, DL.wx_move, DL.wx_why, DL.wl_some, DL.wf_okD, DL.wf_okL, DL.wf_okM, DL.wf_okT, DL.wf_ex, DL.wv_d, DL.wv_ol, DL.wv_od, DL.wv_fd, DL.wb_t, DL.wb_f, DL.wt_b, DL.wh_d, DL.wh_ol, DL.wh_od, DL.wh_fd, DL.wm_d, DL.wm_ol, DL.wm_od, DL.wm_fd, DL.dat_d, DL.dat_ol, DL.dat_od, DL.dat_fd, DL.d_add, DL.d_sub, DL.d_lt, DL.d_le, DL.d_gt, DL.d_ge, DL.d_tru, DL.d_eqInt, DL.d_neg, DL.tg_name, DL.tg_tup2, DL.tg_tup3, DL.ixv_l, DL.ixv_t, DL.ixv_s, DL.ixv_dd, DL.ixv_ol, DL.ixv_od, DL.ixv_fd, DL.ix_t0, DL.ix_t1, DL.ix_t2, DL.ix_l0, DL.ix_l1, DL.ix_l2, DL.d_asB, DL.d_ok0, DL.d_ok1, DL.d_ok2, DL.d_ok3, DL.d_ok4, DL.key_s, DL.key_i, DL.len_ol, DL.len_l, DL.len_t, DL.it_l, DL.it_t, DL.seq_l, DL.seq_t, DL.tru_i, DL.tru_l, DL.tru_n, DL.lk_od, DL.lk_odi, DL.isD_od, DL.isD_fd, DL.isD_d, DL.if_tt, DL.pick_nil, DL.pick_cons, DL.wl_addS, DL.wl_lenS, DL.seq_S, DL.tg_eP, DL.wl_mod, DL.wl_mulI, DL.wl_divI, DL.it_S, DL.wl_powI, DL.wl_rng1, DL.wl_rng2, DL.wx_callB, DL.wx_eqB, DL.wo_clear, DL.wx_pop, DL.wbr_d, DL.tg_list2, DL.tg_list3, DL.wx_dictR, DL.wx_dictD, DL.rest_nil, DL.rest_cons, DL.rst_d, DL.rst_un, DL.wx_cat, DL.wl_cat, DL.wx_disp1, DL.key_W, DL.wx_minS, DL.wipe_nil, DL.wipe_cons, DL.wx_rep, DL.wl_catS, DL.wrep_ol, DL.wx_sortD, DL.wx_callV, DL.wx_fld, DL.wo_star, DL.wst_l, DL.wx_kwL, DL.wh_sp, DL.wh_fv, DL.fo_rest, DL.fk_rest, DL.fk_done, DL.fk_step, DL.fk_run, DL.fk_told, DL.fk_back, DL.fk_left, DL.fo_done, DL.fo_step, DL.fo_run, DL.fo_told, DL.fo_back, DL.fo_left, DL.fp_rest0, DL.fp_done1, DL.fp_rest, DL.fp_done, DL.fl_0, DL.fl_1, DL.fl_2, DL.wo_fld, DL.wfl_ob, DL.wx_meth, DL.wx_make, DL.wo_tryB, DL.wx_listB, DL.wx_callF, DL.fv_same, DL.wm_fv, DL.wm_sp, DL.wx_listS, DL.wx_sortS, DL.wx_popAt, DL.wpop_ol, DL.wx_peek, DL.wx_pickB, Option.toList_some, List.set_cons_zero, List.set_cons_succ, List.getElem?_cons_zero, List.getElem?_cons_succ, Option.bind_some, Option.map_some, List.nil_append, List.cons_append, List.append_nil, List.map_cons, List.map_nil, and_true, true_and, reduceIte, Bool.false_eq_true, Bool.not_true, Bool.not_false])
namespace K06
open PySem PySem.Spec L2 DL
open PyProof.Rows hiding St
open PySem.W (dataLe dataLt alike)
/-! k06 in plain Lean -/
theorem likeWs {n : Nat} {ws : List Wd} (hL : ∀ w ∈ ws, isL w = true) (h : ws.length ≤ 100000) : likeOk (n + 2) (.list (ws.map eW)) = true := by
  show (decide ((ws.map eW).length ≤ 100000) && (ws.map eW).all (likeOk (n + 1))) = true
  rw [Bool.and_eq_true]
  refine ⟨decide_eq_true (by rw [List.length_map]; exact h), List.all_eq_true.mpr fun x hx => ?_⟩
  obtain ⟨w, hw, rfl⟩ := List.mem_map.mp hx
  exact strOk_of (hL w hw)
def noT (w : Str) : D := .tuple [.str "no", .str w]
theorem asked_count {m : Int} {n : D} (h : ¬ (1 ≤ m ∧ m ≤ 4)) : f_law_asked [.d (.int m), .d n] = .ok (.ol false [noT "badcount", noT "badcount"]) [.un, .un] := by
  refine fn_gives (ds := [.int m, n]) ?_
  show WO (g_law_asked [.d (.int m), .d n]) _ _ _ _ _
  unfold g_law_asked
  walk_at "run"
  refine wf_bad (allwords_count h) ?_
  walk_at "run"
  show WL (some [PyData.str "badcount"]) _
  walk_at "run"
  refine wf_bad (leasts_bad (allwords_count h)) ?_
  walk_at "run"
  show WL (some [PyData.str "badcount"]) _
  walk_at "run"
  rfl
theorem asked_deep {m n : Int} (h1 : 1 ≤ m) (h4 : m ≤ 4) (h : ¬ (0 ≤ n ∧ n ≤ 6)) : f_law_asked [.d (.int m), .d (.int n)] = .ok (.ol false [noT "baddepth", noT "baddepth"]) [.un, .un] := by
  refine fn_gives (ds := [.int m, .int n]) ?_
  show WO (g_law_asked [.d (.int m), .d (.int n)]) _ _ _ _ _
  unfold g_law_asked
  walk_at "run"
  refine wf_bad (allwords_deep h1 h4 h) ?_
  walk_at "run"
  show WL (some [PyData.str "baddepth"]) _
  walk_at "run"
  refine wf_bad (leasts_bad (allwords_deep h1 h4 h)) ?_
  walk_at "run"
  show WL (some [PyData.str "baddepth"]) _
  walk_at "run"
  rfl
theorem n1 : (wordsL 4 5).length = 1024 := by decide +kernel
theorem n2 : (wordsL 4 5).getLast? = some [100, 100, 100, 100, 100] := by decide +kernel
theorem n3 : (wordsL 4 6).length = 4096 := by decide +kernel
theorem n4 : (wordsL 4 6).getLast? = some [100, 100, 100, 100, 100, 100] := by decide +kernel
theorem n5 : ((wordsL 4 5).filter leastT).length = 204 := by decide +kernel
theorem n6 : ((wordsL 4 5).filter leastT).getLast? = some [99, 100, 100, 100, 100] := by decide +kernel
theorem n7 : ((wordsL 4 6).filter leastT).length = 670 := by decide +kernel
theorem n8 : ((wordsL 4 6).filter leastT).getLast? = some [99, 100, 100, 100, 100, 100] := by decide +kernel
theorem far45 : ∃ A : List Wd, f_all_words [.d (.int 4), .d (.int 5)] = .ok (.ol false (A.map eW)) [.un, .un] ∧ A.length = 1024 ∧ A.getLast? = some [100, 100, 100, 100, 100] := ⟨wordsL 4 5, allwords_R (m := 4) (n := 5) (by decide) (by decide) (by decide), n1, n2⟩
theorem far46 : ∃ A : List Wd, f_all_words [.d (.int 4), .d (.int 6)] = .ok (.ol false (A.map eW)) [.un, .un] ∧ A.length = 4096 ∧ A.getLast? = some [100, 100, 100, 100, 100, 100] := ⟨wordsL 4 6, allwords_R (m := 4) (n := 6) (by decide) (by decide) (by decide), n3, n4⟩
theorem near45 : ∃ A : List Wd, f_leasts [.d (.int 4), .d (.int 5)] = .ok (.ol false (A.map eW)) [.un, .un] ∧ A.length = 204 ∧ A.getLast? = some [99, 100, 100, 100, 100] := ⟨(wordsL 4 5).filter leastT, leasts_R (m := 4) (n := 5) (by decide) (by decide) (by decide), n5, n6⟩
theorem near46 : ∃ A : List Wd, f_leasts [.d (.int 4), .d (.int 6)] = .ok (.ol false (A.map eW)) [.un, .un] ∧ A.length = 670 ∧ A.getLast? = some [99, 100, 100, 100, 100, 100] := ⟨(wordsL 4 6).filter leastT, leasts_R (m := 4) (n := 6) (by decide) (by decide) (by decide), n7, n8⟩
theorem dIx_last {l : List Wd} {w : Wd} (h : l.getLast? = some w) : dIx (.list (l.map eW)) (.int (-1)) = some (eW w) := by
  obtain ⟨r, rfl⟩ : ∃ r, l = r ++ [w] := by
    have hn : l ≠ [] := fun z => by rw [z] at h; cases h
    refine ⟨l.dropLast, ?_⟩
    rw [List.getLast?_eq_some_getLast hn] at h
    rw [← Option.some.inj h, List.dropLast_concat_getLast hn]
  show L2.atI ((r ++ [w]).map eW) (-1) = _
  unfold L2.atI
  have e : L2.ixN ((r ++ [w]).map eW).length (-1) = some r.length := by
    unfold L2.ixN
    rw [if_neg (by decide), List.length_map, List.length_append, if_pos (by simp; omega)]
    simp
    omega
  rw [e]
  simp
theorem law_true : ∀ ns : List Int, ns.length ≤ 63 → (∀ z ∈ ns, Builtin.Int.intBits z ≤ 1048576) → ∃ s', g_law (.d (.list (ints' ns)) :: List.replicate 11 .un) = .rt (.d (.bool true)) s' := fun ns hl _ => by
  obtain ⟨b0, e0, hb0⟩ := open_spec ns hl
  generalize hscr : PyData.list (ints' ns) = scr
  rw [hscr] at e0
  refine WO.rt_of ?_
  unfold g_law
  show WO (gSeq _ _ [.d scr, .un, .un, .un, .un, .un, .un, .un, .un, .un, .un, .un]) _ _ _ _ _
  have A1 : ∀ m n : Nat, 1 ≤ m → m ≤ 4 → n ≤ 6 → f_all_words [.d (.int m), .d (.int n)] = .ok (.ol false ((wordsL m n).map eW)) [.un, .un] := fun m n h1 hm hn => allwords_R h1 hm hn
  have A2 : ∀ m n : Nat, 1 ≤ m → m ≤ 4 → n ≤ 6 → f_leasts [.d (.int m), .d (.int n)] = .ok (.ol false (((wordsL m n).filter leastT).map eW)) [.un, .un] := fun m n h1 hm hn => leasts_R h1 hm hn
  obtain ⟨A, eA, lA, tA⟩ := far45
  obtain ⟨B, eB, lB, tB⟩ := far46
  obtain ⟨A3, eA2, lA2, tA2⟩ := near45
  obtain ⟨B2, eB2, lB2, tB2⟩ := near46
  have z1 := A1 2 0 (by decide) (by decide) (by decide)
  have z2 := A2 3 0 (by decide) (by decide) (by decide)
  have z3 := A2 1 2 (by decide) (by decide) (by decide)
  have ez1 : PyData.list ((wordsL 2 0).map eW) = .list [.str ""] := by kernel_rfl
  have ez2 : PyData.list (((wordsL 3 0).filter leastT).map eW) = .list [] := by kernel_rfl
  have ez3 : PyData.list (((wordsL 1 2).filter leastT).map eW) = .list [] := by kernel_rfl
  have ask1 : ∀ m n : Int, 1 ≤ m → m ≤ 4 → ¬ (0 ≤ n ∧ n ≤ 6) → f_law_asked [.d (.int m), .d (.int n)] = .ok (.ol false [noT "baddepth", noT "baddepth"]) [.un, .un] := fun m n h1 h4 h => asked_deep h1 h4 h
  have ask2 : ∀ (m : Int) (n : D), ¬ (1 ≤ m ∧ m ≤ 4) → f_law_asked [.d (.int m), .d n] = .ok (.ol false [noT "badcount", noT "badcount"]) [.un, .un] := fun m n h => asked_count h
  generalize f_all_words = FA at A1 eA eB z1 ⊢
  generalize f_leasts = FL at A2 eA2 eB2 z2 z3 ⊢
  generalize f_law_asked = FQ at ask1 ask2 ⊢
  walk_at "run"
  refine wf_eq e0 rfl ?_
  walk_at "run"
  refine ⟨by decide, ?_⟩
  have lm : (10000 : Nat) ≤ lim := by decide
  have pw : ∀ m n, m ≤ 4 → n ≤ 6 → (wordsL m n).length ≤ 4096 := fun m n hm hn => by
    rw [wordsL_len hm]
    exact Nat.le_trans (Nat.pow_le_pow_left hm n) (Nat.le_trans (Nat.pow_le_pow_right (by decide) hn) (by decide))
  refine wo_range (n := 3) (fun i s => ∃ bb x2 x4 x5 x6 x7 x8 x9 x10, s = [.d scr, .ol false bb, x2, .un, x4, x5, x6, x7, x8, x9, x10, .un] ∧ BoxOk (100 * i) bb) ⟨b0, _, _, _, _, _, _, _, _, rfl, hb0⟩ (fun i s hi ⟨bb, x2, x4, x5, x6, x7, x8, x9, x10, e, hbb⟩ => ?_) fun s ⟨bb, x2, x4, x5, x6, x7, x8, x9, x10, e, hbb⟩ => ?_
  · subst e
    walk_at "run"
    refine wr_draw hbb (by omega) (by decide) (by decide) fun m b1 m0 m1 hb1 => ?_
    obtain ⟨m, rfl⟩ := Int.eq_ofNat_of_zero_le m0
    walk_at "run"
    have key : ∃ L : Nat, dIx (.list [.int 7, .int 7, .int 6, .int 5]) (.int (1 + (m : Int) - 1)) = some (.int (L : Nat)) ∧ 0 < L ∧ L ≤ 7 := by
      have hm : m = 0 ∨ m = 1 ∨ m = 2 ∨ m = 3 := by omega
      rcases hm with rfl | rfl | rfl | rfl
      · exact ⟨7, ix_l0, by decide, by decide⟩
      · exact ⟨7, ix_l1, by decide, by decide⟩
      · exact ⟨6, ix_l2, by decide, by decide⟩
      · exact ⟨5, by kernel_rfl, by decide, by decide⟩
    obtain ⟨L, eL, L0, L7⟩ := key
    rw [eL]
    walk_at "run"
    refine wr_draw hb1 (by omega) (by omega) (by omega) fun n b2 n0 n1 hb2 => ?_
    obtain ⟨n, rfl⟩ := Int.eq_ofNat_of_zero_le n0
    have hm1 : 1 ≤ 1 + m := by omega
    have hm4 : 1 + m ≤ 4 := by omega
    have hn6 : n ≤ 6 := by omega
    rw [show (1 + (m : Int)) = ((1 + m : Nat) : Int) by omega]
    have p1 := pw (1 + m) n hm4 hn6
    have p2 : ((wordsL (1 + m) n).filter leastT).length ≤ 4096 := Nat.le_trans (List.length_filter_le _ _) p1
    walk_at "run"
    refine wf_eq (words_R hm4 hn6) rfl ?_
    walk_at "run"
    refine wf_eq (leastwords_R hm4 hn6) rfl ?_
    walk_at "run"
    refine ⟨by decide, ?_⟩
    refine wo_range (n := 2) (fun _ s => ∃ x7 x10, s = [.d scr, .ol false b2, .d (.int (0 + ↑i)), .un, .d (.int ((1 + m : Nat) : Int)), .d (.int (n : Int)), .d (.list [.list ((wordsL (1 + m) n).map eW), .list (((wordsL (1 + m) n).filter leastT).map eW)]), x7, .un, .un, x10, .un]) ⟨_, _, rfl⟩ (fun j s hj ⟨x7, x10, e⟩ => ?_) fun s ⟨x7, x10, e⟩ => ?_
    · subst e
      walk_at "run"
      refine wf_eq (A1 _ _ hm1 hm4 hn6) rfl ?_
      walk_at "run"
      refine wf_eq (A2 _ _ hm1 hm4 hn6) rfl ?_
      walk_at "run"
      refine ⟨by show 2 ≤ lim; omega, ?_⟩
      rw [wbr_like_eq (show likeOk 8 _ = true from like_l2 (n := 7) (likeWs (n := 5) (fun w hw => (wordsL_mem n w hw).1) (by omega)) (likeWs (n := 5) (fun w hw => (wordsL_mem n w (List.mem_filter.mp hw).1).1) (by omega)))]
      walk_at "run"
      refine ⟨by rw [List.length_map]; omega, ?_⟩
      refine ⟨by show 1 < 2; decide, ?_⟩
      exact ⟨_, _, rfl⟩
    · subst e
      walk_at "run"
      refine wr_far hb2 (by omega) fun odd b3 hodd hb3 => ?_
      walk_at "run"
      refine wf_eq (ask1 _ _ (by omega) (by omega) hodd) rfl ?_
      walk_at "run"
      refine ⟨by decide, ?_⟩
      refine wl_ne (y := .list [noT "baddepth", noT "baddepth"]) rfl (by decide +kernel) ?_
      walk_at "run"
      refine wr_of hb3 (by omega) (by simp) (by simp) fun none b4 hnone hb4 => ?_
      obtain ⟨z, rfl, hz⟩ : ∃ z : Int, none = .int z ∧ ¬ (1 ≤ z ∧ z ≤ 4) := by
        simp only [List.mem_cons, List.not_mem_nil, or_false] at hnone
        rcases hnone with rfl | rfl | rfl
        · exact ⟨0, rfl, by omega⟩
        · exact ⟨5, rfl, by omega⟩
        · exact ⟨odd, rfl, by omega⟩
      walk_at "run"
      refine wf_eq (ask2 _ _ hz) rfl ?_
      walk_at "run"
      refine wf_eq (ask2 _ _ hz) rfl ?_
      walk_at "run"
      refine ⟨by decide, ?_⟩
      refine ⟨by decide, ?_⟩
      refine wl_ne (y := .list [noT "badcount", noT "badcount", noT "badcount", noT "badcount"]) rfl (by decide +kernel) ?_
      walk_at "run"
      exact ⟨_, _, _, _, _, _, _, _, _, rfl, hb4.mono (by omega)⟩
  · subst e
    rw [DL.wo_seq, DL.wo_set, DL.wx_lst]
    repeat first | rw [DL.wl_some] | rw [DL.wx_cons] | rw [DL.wx_nil] | rw [DL.wx_F] | rw [DL.wx_call] | rw [DL.wx_C] | rw [DL.dat_d] | rw [DL.dat_ol]
    refine wf_eq eA rfl ?_
    repeat first | rw [DL.wl_some] | rw [DL.wx_cons] | rw [DL.wx_nil] | rw [DL.wx_F] | rw [DL.wx_call] | rw [DL.wx_C] | rw [DL.dat_d] | rw [DL.dat_ol]
    refine wf_eq eB rfl ?_
    repeat first | rw [DL.wl_some] | rw [DL.wx_cons] | rw [DL.wx_nil] | rw [DL.wx_F] | rw [DL.wx_call] | rw [DL.wx_C] | rw [DL.dat_d] | rw [DL.dat_ol]
    refine wf_eq eA2 rfl ?_
    repeat first | rw [DL.wl_some] | rw [DL.wx_cons] | rw [DL.wx_nil] | rw [DL.wx_F] | rw [DL.wx_call] | rw [DL.wx_C] | rw [DL.dat_d] | rw [DL.dat_ol]
    refine wf_eq eB2 rfl ?_
    repeat first | rw [DL.wl_some] | rw [DL.wx_cons] | rw [DL.wx_nil] | rw [DL.wx_F] | rw [DL.wx_call] | rw [DL.wx_C] | rw [DL.dat_d] | rw [DL.dat_ol]
    refine ⟨by show 4 ≤ lim; omega, ?_⟩
    have lst : ∀ (l : List Wd) (w : Wd), l.getLast? = some w → dIx (.list (l.map eW)) (.int (-1)) = some (eW w) := fun l w h => dIx_last h
    have q1 : dLen [.list (A.map eW)] = some (.int 1024) := by rw [len_l, List.length_map, lA]; rfl
    have q2 : dLen [.list (B.map eW)] = some (.int 4096) := by rw [len_l, List.length_map, lB]; rfl
    have q3 : dLen [.list (A3.map eW)] = some (.int 204) := by rw [len_l, List.length_map, lA2]; rfl
    have q4 : dLen [.list (B2.map eW)] = some (.int 670) := by rw [len_l, List.length_map, lB2]; rfl
    have r1 := lst _ _ tA
    have r2 := lst _ _ tB
    have r3 := lst _ _ tA2
    have r4 := lst _ _ tB2
    generalize PyData.list (A.map eW) = dA at q1 r1 ⊢
    generalize PyData.list (B.map eW) = dB at q2 r2 ⊢
    generalize PyData.list (A3.map eW) = dC at q3 r3 ⊢
    generalize PyData.list (B2.map eW) = dD at q4 r4 ⊢
    rw [DL.wo_seq, DL.wo_if, DL.wx_not, DL.wx_tru, DL.wx_F, DL.wx_call, DL.wx_cons, DL.wx_F]
    refine wq_lc (xs := [(dA, (1024 : Int)), (dB, 4096), (dC, 204), (dD, 670)]) (enc := fun p => p.1) (h := fun p => .int p.2) (w := [.d scr, .ol false bb, x2, .d (.list [dA, dB, dC, dD]), x4, x5, x6, x7, x8, x9, x10, .un]) (by show 4 ≤ lim; omega) ?_ fun p hp => ?_
    · show WQ (mUn dSeq (mVar 3) [.d scr, .ol false bb, x2, .d (.list [dA, dB, dC, dD]), x4, x5, x6, x7, x8, x9, x10, .un]) _ _
      rw [DL.wx_un, DL.wx_var]
      show WV (some (.d (.list [dA, dB, dC, dD]))) _ _ _
      rw [DL.wv_d, DL.seq_l, DL.wl_some]
      refine ⟨rfl, rfl, ?_⟩
      repeat first | rw [DL.wl_some] | rw [DL.wx_cons] | rw [DL.wx_nil] | rw [DL.wx_F] | rw [DL.wx_call] | rw [DL.wx_C] | rw [DL.dat_d] | rw [DL.dat_ol]
      rw [DL.wx_lst]
      repeat first | rw [DL.wl_some] | rw [DL.wx_cons] | rw [DL.wx_nil] | rw [DL.wx_F] | rw [DL.wx_call] | rw [DL.wx_C] | rw [DL.dat_d] | rw [DL.dat_ol]
      refine ⟨by show 4 ≤ lim; omega, ?_⟩
      show WF (f_like 8 [.d (.list [.int 1024, .int 4096, .int 204, .int 670]), .d (.list [.int 1024, .int 4096, .int 204, .int 670])]) _ _
      rw [wf_like_eq (show likeOk 8 _ = true from by decide +kernel)]
      rw [DL.dat_d, DL.wl_some, DL.d_tru, DL.wl_some, show (!true) = false from rfl, DL.wb_f]
      show WO (DL.gNil [.d scr, .ol false bb, x2, .d (.list [dA, dB, dC, dD]), x4, x5, x6, x7, x8, x9, x10, .un]) _ _ _ _ _
      rw [DL.wo_nil]
      rw [DL.wo_seq, DL.wo_if, DL.wx_not, DL.wx_tru, DL.wx_F, DL.wx_call, DL.wx_cons, DL.wx_F]
      refine wq_lc (xs := [(dA, eW [100, 100, 100, 100, 100]), (dB, eW [100, 100, 100, 100, 100, 100]), (dC, eW [99, 100, 100, 100, 100]), (dD, eW [99, 100, 100, 100, 100, 100])]) (enc := fun p => p.1) (h := fun p => p.2) (w := [.d scr, .ol false bb, x2, .d (.list [dA, dB, dC, dD]), x4, x5, x6, x7, x8, x9, x10, .un]) (by show 4 ≤ lim; omega) ?_ fun p hp => ?_
      · rw [DL.wx_un, DL.wx_var]
        show WV (some (.d (.list [dA, dB, dC, dD]))) _ _ _
        rw [DL.wv_d, DL.seq_l, DL.wl_some]
        refine ⟨rfl, rfl, ?_⟩
        repeat first | rw [DL.wl_some] | rw [DL.wx_cons] | rw [DL.wx_nil] | rw [DL.wx_F] | rw [DL.wx_call] | rw [DL.wx_C] | rw [DL.dat_d] | rw [DL.dat_ol]
        rw [DL.wx_lst]
        repeat first | rw [DL.wl_some] | rw [DL.wx_cons] | rw [DL.wx_nil] | rw [DL.wx_F] | rw [DL.wx_call] | rw [DL.wx_C] | rw [DL.dat_d] | rw [DL.dat_ol]
        refine ⟨by show 4 ≤ lim; omega, ?_⟩
        rw [show ([PyData.str "ddddd", .str "dddddd", .str "cdddd", .str "cddddd"] : List D) = [eW [100, 100, 100, 100, 100], eW [100, 100, 100, 100, 100, 100], eW [99, 100, 100, 100, 100], eW [99, 100, 100, 100, 100, 100]] from by kernel_rfl]
        show WF (f_like 8 [.d (.list [eW [100, 100, 100, 100, 100], eW [100, 100, 100, 100, 100, 100], eW [99, 100, 100, 100, 100], eW [99, 100, 100, 100, 100, 100]]), .d (.list [eW [100, 100, 100, 100, 100], eW [100, 100, 100, 100, 100, 100], eW [99, 100, 100, 100, 100], eW [99, 100, 100, 100, 100, 100]])]) _ _
        rw [wf_like_eq (show likeOk 8 _ = true from by decide +kernel)]
        rw [DL.dat_d, DL.wl_some, DL.d_tru, DL.wl_some, show (!true) = false from rfl, DL.wb_f]
        show WO (DL.gNil [.d scr, .ol false bb, x2, .d (.list [dA, dB, dC, dD]), x4, x5, x6, x7, x8, x9, x10, .un]) _ _ _ _ _
        rw [DL.wo_nil]
        rw [DL.wo_ret]
        repeat first | rw [DL.wl_some] | rw [DL.wx_cons] | rw [DL.wx_nil] | rw [DL.wx_F] | rw [DL.wx_call] | rw [DL.wx_C] | rw [DL.dat_d] | rw [DL.dat_ol]
        rw [DL.wx_lst]
        repeat first | rw [DL.wl_some] | rw [DL.wx_cons] | rw [DL.wx_nil] | rw [DL.wx_F] | rw [DL.wx_call] | rw [DL.wx_C] | rw [DL.dat_d] | rw [DL.dat_ol]
        refine wf_eq z1 rfl ?_
        repeat first | rw [DL.wl_some] | rw [DL.wx_cons] | rw [DL.wx_nil] | rw [DL.wx_F] | rw [DL.wx_call] | rw [DL.wx_C] | rw [DL.dat_d] | rw [DL.dat_ol]
        refine wf_eq z2 rfl ?_
        repeat first | rw [DL.wl_some] | rw [DL.wx_cons] | rw [DL.wx_nil] | rw [DL.wx_F] | rw [DL.wx_call] | rw [DL.wx_C] | rw [DL.dat_d] | rw [DL.dat_ol]
        refine wf_eq z3 rfl ?_
        repeat first | rw [DL.wl_some] | rw [DL.wx_cons] | rw [DL.wx_nil] | rw [DL.wx_F] | rw [DL.wx_call] | rw [DL.wx_C] | rw [DL.dat_d] | rw [DL.dat_ol]
        refine ⟨by show 3 ≤ lim; omega, ?_⟩
        rw [ez1, ez2, ez3]
        show WF (f_like 8 [.d (.list [.list [.str ""], .list [], .list []]), .d (.list [.list [.str ""], .list [], .list []])]) _ _
        rw [wf_like_eq (show likeOk 8 _ = true from by decide +kernel)]
      · have e : dIx p.1 (.int (-1)) = some p.2 := by
          simp only [List.mem_cons, List.not_mem_nil, or_false] at hp
          rcases hp with rfl | rfl | rfl | rfl
          · exact r1
          · exact r2
          · exact r3
          · exact r4
        walk_at "run"
        rw [e]
        walk_at "run"
    · have e : dLen [p.1] = some (.int p.2) := by
        simp only [List.mem_cons, List.not_mem_nil, or_false] at hp
        rcases hp with rfl | rfl | rfl | rfl
        · exact q1
        · exact q2
        · exact q3
        · exact q4
      walk_at "run"
      rw [e]
      walk_at "run"
end K06
set_option Elab.async false
set_option linter.all false
set_option maxRecDepth 100000
set_option maxHeartbeats 0
/-! derivations of the defs of k06, its head and end; printed by gen.py -/
namespace K06
open PySem PySem.Spec L2 DL
open PyProof.Rows hiding St
def top (i : Nat) : Stmt := PySem.Challenge.pw_wordtread_k06_lists_of_words.main.body.getD i (.Pass ⟨0, 0, 0, 0⟩)
abbrev R : PySem.W.OpenRow := PySem.W.OpenLaw.row PySem.Challenge.rw_wordtread_k06_lists_of_words
def d_TreadError : He.DefD := ⟨("TreadError", some "__init__"), "__init__", "TreadError.__init__", defArgs (inClass (top 1) 0), defBody (inClass (top 1) 0), defScope (inClass (top 1) 0), [], []⟩
def d_BadCount : He.DefD := ⟨("BadCount", some "__init__"), "__init__", "BadCount.__init__", defArgs (inClass (top 2) 0), defBody (inClass (top 2) 0), defScope (inClass (top 2) 0), [], []⟩
def d_BadDepth : He.DefD := ⟨("BadDepth", some "__init__"), "__init__", "BadDepth.__init__", defArgs (inClass (top 3) 0), defBody (inClass (top 3) 0), defScope (inClass (top 3) 0), [], []⟩
def d_need_many : He.DefD := ⟨("need_many", none), "need_many", "need_many", defArgs (top 14), defBody (top 14), defScope (top 14), [], []⟩
def d_need_depth : He.DefD := ⟨("need_depth", none), "need_depth", "need_depth", defArgs (top 15), defBody (top 15), defScope (top 15), [], [("least", .int (0)), ("most", .int (6))]⟩
def d_all_words : He.DefD := ⟨("all_words", none), "all_words", "all_words", defArgs (top 16), defBody (top 16), defScope (top 16), [], []⟩
def d_least_so : He.DefD := ⟨("least_so", none), "least_so", "least_so", defArgs (top 17), defBody (top 17), defScope (top 17), [], []⟩
def d_leasts : He.DefD := ⟨("leasts", none), "leasts", "leasts", defArgs (top 18), defBody (top 18), defScope (top 18), [], []⟩
def d__law_why : He.DefD := ⟨("_law_why", none), "_law_why", "_law_why", defArgs (top 20), defBody (top 20), defScope (top 20), [], []⟩
def d__law_open : He.DefD := ⟨("_law_open", none), "_law_open", "_law_open", defArgs (top 21), defBody (top 21), defScope (top 21), [], []⟩
def d__law_draw : He.DefD := ⟨("_law_draw", none), "_law_draw", "_law_draw", defArgs (top 22), defBody (top 22), defScope (top 22), [], []⟩
def d__law_words : He.DefD := ⟨("_law_words", none), "_law_words", "_law_words", defArgs (top 23), defBody (top 23), defScope (top 23), [], []⟩
def d__law_least : He.DefD := ⟨("_law_least", none), "_law_least", "_law_least", defArgs (top 24), defBody (top 24), defScope (top 24), [], []⟩
def d__law_least_words : He.DefD := ⟨("_law_least_words", none), "_law_least_words", "_law_least_words", defArgs (top 25), defBody (top 25), defScope (top 25), [], []⟩
def d__law_int : He.DefD := ⟨("_law_int", none), "_law_int", "_law_int", defArgs (top 26), defBody (top 26), defScope (top 26), [], []⟩
def d__law_like : He.DefD := ⟨("_law_like", none), "_law_like", "_law_like", defArgs (top 27), defBody (top 27), defScope (top 27), [], []⟩
def d__law_of : He.DefD := ⟨("_law_of", none), "_law_of", "_law_of", defArgs (top 28), defBody (top 28), defScope (top 28), [], []⟩
def d__law_far : He.DefD := ⟨("_law_far", none), "_law_far", "_law_far", defArgs (top 29), defBody (top 29), defScope (top 29), [], []⟩
def d__law_asked : He.DefD := ⟨("_law_asked", none), "_law_asked", "_law_asked", defArgs (top 30), defBody (top 30), defScope (top 30), [], []⟩
def d_law : He.DefD := ⟨("law", none), "law", "law", defArgs (top 31), defBody (top 31), defScope (top 31), [], []⟩
def fn : List He.DefD := [d_TreadError, d_BadCount, d_BadDepth, d_need_many, d_need_depth, d_all_words, d_least_so, d_leasts, d__law_why, d__law_open, d__law_draw, d__law_words, d__law_least, d__law_least_words, d__law_int, d__law_like, d__law_of, d__law_far, d__law_asked, d_law]
def fa : List He.Fa := [.glo "TreadError", .glo "BadCount", .glo "BadDepth", .glo "Stuck", .glo "NotBrackets", .glo "BadMove", .glo "BadText", .glo "NoName", .glo "Ring", .glo "InUse", .glo "need_many", .glo "need_depth", .glo "all_words", .glo "least_so", .glo "leasts", .glo "_law_why", .glo "_law_open", .glo "_law_draw", .glo "_law_words", .glo "_law_least", .glo "_law_least_words", .glo "_law_int", .glo "_law_like", .glo "_law_of", .glo "_law_far", .glo "_law_asked", .glo "law", .free "len", .free "range", .free "isinstance", .free "list", .free "tuple", .free "int", .free "bool", .free "str", .free "all", .free "ValueError", .str "LETTERS" "abcd", .int "LONGEST" (6)]
def qs : List (He.Defn × Str) := [(("_law_asked", none), "_law_asked")]
def tf : List He.Defn := qs.map (·.1)
def ex (K : PySem.W.Frag) : Bool := tabsNe K qs && (veB K && (cfnB K (He.ga K "TreadError") "__init__" && (rfB K (He.ga K "BadCount") tp_BadCount && (rfB K (He.ga K "BadDepth") tp_BadDepth && (pkB K hl_law_why pl_law_why && (true))))))
abbrev C (w : World) (K : PySem.W.Frag) (mg : Str → Option Value) : Prop := Fc fa fn tf ex w K mg
abbrev hk : PySem.W.Hook := hookY 4 fa fn tf ex
def ob (s : PySem.W.SharedT) : He.AlX := obsY 4 fa fn tf ex (HandSHeadRun.getT s)
theorem ob_eq (s : PySem.W.SharedT) : ob s = hk.obs s.abs := obsY_eq (HandSHeadRun.getT_eq s)
theorem run (w : World) : HandSHeadRun.RunEq R (PySem.W.view R.prog [31]) hk ob 20000 ((["TreadError", "BadCount", "BadDepth", "Stuck", "NotBrackets", "BadMove", "BadText", "NoName", "Ring", "InUse", "need_many", "need_depth", "all_words", "least_so", "leasts", "_law_why", "_law_open", "_law_draw", "_law_words", "_law_least", "_law_least_words", "_law_int", "_law_like", "_law_of"] : List Str) ++ (["_law_far", "_law_asked", "LETTERS", "LONGEST"] : List Str)) w := by
  intro os
  kernel_rfl
section
variable {P : Program} {w : World} {K : PySem.W.Frag} {mg : Str → Option Value} {base : Heap}
theorem hT0 : tabsN K qs ≠ [] := by
  intro z
  have := congrArg List.length z
  simp [tabsN, qs] at this
theorem ex_ne (h : ex K = true) : (tabsNe K qs) = true := (He.ba h).1
theorem ex_ve (h : ex K = true) : (veB K) = true := (He.ba (He.ba h).2).1
theorem ex_cfn (h : ex K = true) : (cfnB K (He.ga K "TreadError") "__init__") = true := (He.ba (He.ba (He.ba h).2).2).1
theorem ex_rf_BadCount (h : ex K = true) : (rfB K (He.ga K "BadCount") tp_BadCount) = true := (He.ba (He.ba (He.ba (He.ba h).2).2).2).1
theorem ex_rf_BadDepth (h : ex K = true) : (rfB K (He.ga K "BadDepth") tp_BadDepth) = true := (He.ba (He.ba (He.ba (He.ba (He.ba h).2).2).2).2).1
theorem ex_pk_law_why (h : ex K = true) : (pkB K hl_law_why pl_law_why) = true := (He.ba (He.ba (He.ba (He.ba (He.ba (He.ba h).2).2).2).2).2).1
theorem rf_BadCount (c : C w K mg) : RfF P w K mg base 2 0 "BadCount" tp_BadCount := by
  obtain ⟨fdR, FR⟩ := c.def_ 0 (d := d_TreadError)
  obtain ⟨fd, F⟩ := c.def_ 1 (d := d_BadCount)
  have scR : FnScope ["self", "word"] ["self", "word"] (defScope (inClass (top 1) 0)) := ⟨rfl, rfl, rfl, by decide +kernel, rfl, by decide +kernel, by decide +kernel⟩
  have sc : FnScope ["self"] ["self"] (defScope (inClass (top 2) 0)) := ⟨rfl, rfl, rfl, by decide +kernel, rfl, by decide +kernel, by decide +kernel⟩
  have R1 : FnOk P w K mg base (L2.CX P w) 1 _ fdR ["self", "word"] (spI K 1 [("word", .inr 0)]) := init_root FR scR rfl (c.free 36) (cvB_ok (ex_ve c.more)) (fun _ => ⟨_, rfl⟩)
  have bR : Binds K fdR ["self", "word"] [] := FR.bindsN (fun _ _ _ _ _ _ us hl => match us, hl with | [_, _], _ => rfl)
  exact ⟨rfB_ok (ex_rf_BadCount c.more), ⟨fd, ["self"], init_sub0 F sc (cfnB_ok (ex_cfn c.more)) R1 bR rfl (c.glo 0) (fun _ => ⟨_, rfl⟩), F.bindsN (fun _ _ _ _ _ _ us hl => match us, hl with | [_], _ => rfl)⟩, (c.glo 1)⟩
theorem rf_BadDepth (c : C w K mg) : RfF P w K mg base 2 0 "BadDepth" tp_BadDepth := by
  obtain ⟨fdR, FR⟩ := c.def_ 0 (d := d_TreadError)
  obtain ⟨fd, F⟩ := c.def_ 2 (d := d_BadDepth)
  have scR : FnScope ["self", "word"] ["self", "word"] (defScope (inClass (top 1) 0)) := ⟨rfl, rfl, rfl, by decide +kernel, rfl, by decide +kernel, by decide +kernel⟩
  have sc : FnScope ["self"] ["self"] (defScope (inClass (top 3) 0)) := ⟨rfl, rfl, rfl, by decide +kernel, rfl, by decide +kernel, by decide +kernel⟩
  have R1 : FnOk P w K mg base (L2.CX P w) 1 _ fdR ["self", "word"] (spI K 1 [("word", .inr 0)]) := init_root FR scR rfl (c.free 36) (cvB_ok (ex_ve c.more)) (fun _ => ⟨_, rfl⟩)
  have bR : Binds K fdR ["self", "word"] [] := FR.bindsN (fun _ _ _ _ _ _ us hl => match us, hl with | [_, _], _ => rfl)
  exact ⟨rfB_ok (ex_rf_BadDepth c.more), ⟨fd, ["self"], init_sub0 F sc (cfnB_ok (ex_cfn c.more)) R1 bR rfl (c.glo 0) (fun _ => ⟨_, rfl⟩), F.bindsN (fun _ _ _ _ _ _ us hl => match us, hl with | [_], _ => rfl)⟩, (c.glo 2)⟩
theorem why_law_why (c : C w K mg) : WhyC K mg "_law_why" "told" "no" pk_law_why := by
  obtain ⟨fd, F⟩ := c.def_ 8 (d := d__law_why)
  have sc : FnScope ["_law_ask", "e"] ["_law_ask"] (defScope (top 20)) := ⟨rfl, rfl, rfl, by decide +kernel, rfl, by decide +kernel, by decide +kernel⟩
  have hm : ∀ p ∈ pl_law_why, mg p.1 = some (.ref (He.ga K p.1)) := fun p hp => by
    rcases List.mem_cons.mp hp with rfl | hp
    · exact c.glo 1
    rcases List.mem_cons.mp hp with rfl | hp
    · exact c.glo 2
    cases hp
  exact ⟨⟨_, _, fd, "_law_ask", "e", ["_law_ask", "e"], 1, _, _, _, _, hlOf K hl_law_why, _, _, _, _, _, _, F, F.bindsN (fun _ _ _ _ _ _ us hl => match us, hl with | [_], _ => rfl), sc, rfl, Or.inl rfl, (.c2 rfl (c.glo 3) (by decide) (.c2 rfl (c.glo 6) (by decide) (.c2 rfl (c.glo 5) (by decide) (.c2 rfl (c.glo 7) (by decide) (.c2 rfl (c.glo 8) (by decide) (.c2 rfl (c.glo 9) (by decide) (.c1 rfl (c.glo 4) (by decide) (.c1 rfl (c.glo 0) (by decide) (.nil))))))))), rfl, rfl, (fun _ => rfl), pkB_ok (ex_pk_law_why c.more) hm, by decide, by decide, by decide, by decide⟩, (c.glo 15)⟩
theorem sc_need_many : FnScope ["many"] ["many"] (defScope (top 14)) := ⟨rfl, rfl, rfl, by decide +kernel, rfl, by decide +kernel, by decide +kernel⟩
theorem okf_need_many (c : C w K mg) : ∃ fd, FunD K "need_many" "need_many" (defArgs (top 14)) (defBody (top 14)) (defScope (top 14)) (d_need_many.dvs K) (d_need_many.kws K) (He.ga K "need_many") fd ∧ FnOk P w K mg base (L2.CX P w) 4 (He.ga K "need_many") fd ["many"] (spF K mg 1 f_need_many) := by
  obtain ⟨fd, F⟩ := c.def_ 3 (d := d_need_many)
  refine ⟨fd, F, fn_ok (N := ["many"]) (k := 3) F sc_need_many (g := g_need_many) (fun cdv A outer s H E B hr => ?_)⟩
  exact dss_one (ds_if (dt_not (dt_lele de_int (de_var 0) (de_len (c.free 27) (da_cons (de_gstr (c.str 37)) da_nil)))) (dss_one (ds_rf0 (rf_BadCount c) hr (by decide) (takes_of rfl rfl rfl rfl) rfl)) dss_nil)
theorem ok_need_many (c : C w K mg) : FnC P w K mg base 4 1 "need_many" f_need_many [] := by
  obtain ⟨fd, F, ok⟩ := okf_need_many (P := P) (base := base) c
  exact ⟨⟨fd, ["many"], [], [], ok, FunD.bindsN F (fun _ _ _ _ _ _ us hl => match us, hl with | [_], _ => rfl), .nil, fun _ => .nil⟩, (c.glo 10), F.kp⟩
theorem sc_need_depth : FnScope ["deep", "least", "most"] ["deep", "least", "most"] (defScope (top 15)) := ⟨rfl, rfl, rfl, by decide +kernel, rfl, by decide +kernel, by decide +kernel⟩
theorem okf_need_depth (c : C w K mg) : ∃ fd, FunD K "need_depth" "need_depth" (defArgs (top 15)) (defBody (top 15)) (defScope (top 15)) (d_need_depth.dvs K) (d_need_depth.kws K) (He.ga K "need_depth") fd ∧ FnOk P w K mg base (L2.CX P w) 4 (He.ga K "need_depth") fd ["deep", "least", "most"] (spF K mg 3 f_need_depth) := by
  obtain ⟨fd, F⟩ := c.def_ 4 (d := d_need_depth)
  refine ⟨fd, F, fn_ok (N := ["deep", "least", "most"]) (k := 3) F sc_need_depth (g := g_need_depth) (fun cdv A outer s H E B hr => ?_)⟩
  exact dss_one (ds_if (dt_not (dt_lele (de_var 1) (de_var 0) (de_var 2))) (dss_one (ds_rf0 (rf_BadDepth c) hr (by decide) (takes_of rfl rfl rfl rfl) rfl)) dss_nil)
theorem okw_need_depth_0 (c : C w K mg) : FnW P w K mg base 4 3 "need_depth" f_need_depth 1 [] [0, 1, 2] [.int (0), .int (6)] := by
  obtain ⟨fd, F, ok⟩ := okf_need_depth (P := P) (base := base) c
  obtain ⟨ds, h1, h2⟩ := kbd2 (ps := ["deep", "least", "most"]) (ks := []) (m := 1) (ix := [0, 1, 2]) F [("least", V.int (0)), ("most", V.int (6))] (by intro z; cases z) (fun q hq => match q, hq with | _, .head _ => .head _ | _, .tail _ (.head _) => .tail _ (.head _)) (fun _ _ _ _ _ _ us mv ws h1 h2 h3 => match us, mv, ws, h1, h2, h3 with | [_], [_, _], [], _, _, _ => ⟨_, _, _, _, _, _, rfl, rfl, ⟨_, _, _, _, _, _, rfl, rfl, rfl⟩⟩)
  exact ⟨⟨fd, ["deep", "least", "most"], _, ds, ok, h2, h1, fun _ => .cons (.int _) (.cons (.int _) (.nil))⟩, (c.glo 11), F.kp, by decide, rfl⟩
theorem sc_all_words : FnScope ["many", "long", "found", "turn", "head", "sign"] ["many", "long"] (defScope (top 16)) := ⟨rfl, rfl, rfl, by decide +kernel, rfl, by decide +kernel, by decide +kernel⟩
theorem okf_all_words (c : C w K mg) : ∃ fd, FunD K "all_words" "all_words" (defArgs (top 16)) (defBody (top 16)) (defScope (top 16)) (d_all_words.dvs K) (d_all_words.kws K) (He.ga K "all_words") fd ∧ FnOk P w K mg base (L2.CX P w) 5 (He.ga K "all_words") fd ["many", "long"] (spF K mg 2 f_all_words) := by
  obtain ⟨fd, F⟩ := c.def_ 5 (d := d_all_words)
  refine ⟨fd, F, fn_ok (N := ["many", "long", "found", "turn", "head", "sign"]) (k := 4) F sc_all_words (g := g_all_words) (fun cdv A outer s H E B hr => ?_)⟩
  exact dss_cons (ds_expr (de_do (do_fn (ok_need_many c) hr (by decide) (takes_of rfl rfl rfl rfl) (da_cons (de_var 0) da_nil) (mLen.to (mLen_cons mLen_nil) rfl))))
      (dss_cons (ds_expr (de_do (do_kw (okw_need_depth_0 c) hr (by decide) (takes_of rfl rfl rfl rfl) (da_cons (de_var 1) da_nil) dk_nil (mLen_cons mLen_nil) mLen_nil)))
      (dss_cons (ds_setO 2 sc_all_words.nd (do_lst (da_cons de_str da_nil)))
      (dss_cons (ds_for (passes_of rfl) rfl (di_range1 (c.free 28) (de_var 1)) (dg_name 3 sc_all_words.nd) (dss_one (ds_setLc2 2 [("head", 4), ("sign", 5)] [5] rfl sc_all_words.nd (di_seq (de_var 2)) (blkOk_by (by kernel_rfl)) (by decide) (by decide) (by decide) (fun _ _ _ _ _ => dg_name 4 sc_all_words.nd) (fun _ _ _ _ _ => dts_nil) (fun _ _ _ _ _ => di_seq (de_do (do_slice (de_gstr (c.str 37)) dp_none (dp_some (de_var 0))))) (fun _ _ _ _ _ => dg_name 5 sc_all_words.nd) (fun _ _ _ _ _ => dts_nil) (fun _ _ _ _ _ => de_add (de_var 4) (de_var 5)) (sw_true rfl rfl rfl (by decide +kernel)))))
      (dss_one (ds_ret (do_move 2))))))
theorem ok_all_words (c : C w K mg) : FnC P w K mg base 5 2 "all_words" f_all_words [] := by
  obtain ⟨fd, F, ok⟩ := okf_all_words (P := P) (base := base) c
  exact ⟨⟨fd, ["many", "long"], [], [], ok, FunD.bindsN F (fun _ _ _ _ _ _ us hl => match us, hl with | [_, _], _ => rfl), .nil, fun _ => .nil⟩, (c.glo 12), F.kp⟩
theorem sc_least_so : FnScope ["word", "at"] ["word"] (defScope (top 17)) := ⟨rfl, rfl, rfl, by decide +kernel, rfl, by decide +kernel, by decide +kernel⟩
theorem okf_least_so (c : C w K mg) : ∃ fd, FunD K "least_so" "least_so" (defArgs (top 17)) (defBody (top 17)) (defScope (top 17)) (d_least_so.dvs K) (d_least_so.kws K) (He.ga K "least_so") fd ∧ FnOk P w K mg base (L2.CX P w) 2 (He.ga K "least_so") fd ["word"] (spF K mg 1 f_least_so) := by
  obtain ⟨fd, F⟩ := c.def_ 6 (d := d_least_so)
  refine ⟨fd, F, fn_ok (N := ["word", "at"]) (k := 1) F sc_least_so (g := g_least_so) (fun cdv A outer s H E B hr => ?_)⟩
  exact dss_one (ds_ret (do_de (de_and (de_ne (hu_of hr) (de_var 0) de_str) (de_one (de_all rfl (c.free 35) (da_cons (de_do (do_lc [("at", 1)] rfl sc_least_so.nd (di_range2 (c.free 28) de_int (de_len (c.free 27) (da_cons (de_var 0) da_nil))) (blkOk_by (by kernel_rfl)) (by decide) (fun _ _ _ _ _ => dg_name 1 sc_least_so.nd) (fun _ _ _ _ _ => dts_nil) (fun _ _ _ _ _ => de_lt (de_var 0) (de_do (do_slice (de_var 0) (dp_some (de_var 1)) dp_none))))) da_nil))))))
theorem ok_least_so (c : C w K mg) : FnC P w K mg base 2 1 "least_so" f_least_so [] := by
  obtain ⟨fd, F, ok⟩ := okf_least_so (P := P) (base := base) c
  exact ⟨⟨fd, ["word"], [], [], ok, FunD.bindsN F (fun _ _ _ _ _ _ us hl => match us, hl with | [_], _ => rfl), .nil, fun _ => .nil⟩, (c.glo 13), F.kp⟩
theorem sc_leasts : FnScope ["many", "long", "word"] ["many", "long"] (defScope (top 18)) := ⟨rfl, rfl, rfl, by decide +kernel, rfl, by decide +kernel, by decide +kernel⟩
theorem okf_leasts (c : C w K mg) : ∃ fd, FunD K "leasts" "leasts" (defArgs (top 18)) (defBody (top 18)) (defScope (top 18)) (d_leasts.dvs K) (d_leasts.kws K) (He.ga K "leasts") fd ∧ FnOk P w K mg base (L2.CX P w) 6 (He.ga K "leasts") fd ["many", "long"] (spF K mg 2 f_leasts) := by
  obtain ⟨fd, F⟩ := c.def_ 7 (d := d_leasts)
  refine ⟨fd, F, fn_ok (N := ["many", "long", "word"]) (k := 5) F sc_leasts (g := g_leasts) (fun cdv A outer s H E B hr => ?_)⟩
  exact dss_one (ds_ret (do_lc [("word", 2)] rfl sc_leasts.nd (di_seq (de_do (do_fn (ok_all_words c) hr (by decide) (takes_of rfl rfl rfl rfl) (da_cons (de_var 0) (da_cons (de_var 1) da_nil)) (mLen.to (mLen_cons (mLen_cons mLen_nil)) rfl)))) (blkOk_by (by kernel_rfl)) (by decide) (fun _ _ _ _ _ => dg_name 2 sc_leasts.nd) (fun _ _ _ _ _ => dts_one (dt_val (de_do (do_fn (ok_least_so c) hr (by decide) LamX.takes0 (da_cons (de_var 2) da_nil) (mLen.to (mLen_cons mLen_nil) rfl))))) (fun _ _ _ _ _ => de_var 2)))
theorem okw_leasts_0 (c : C w K mg) : FnW P w K mg base 6 2 "leasts" f_leasts 0 ["long", "many"] [1, 0] [] := by
  obtain ⟨fd, F, ok⟩ := okf_leasts (P := P) (base := base) c
  exact ⟨⟨fd, ["many", "long"], [], [], ok, kbd0 F (fun _ _ _ _ _ _ us ws h1 h2 => match us, ws, h1, h2 with | [], [_, _], _, _ => rfl), .nil, fun _ => .nil⟩, (c.glo 14), F.kp, by decide, rfl⟩
theorem ok_leasts (c : C w K mg) : FnC P w K mg base 6 2 "leasts" f_leasts [] := by
  obtain ⟨fd, F, ok⟩ := okf_leasts (P := P) (base := base) c
  exact ⟨⟨fd, ["many", "long"], [], [], ok, FunD.bindsN F (fun _ _ _ _ _ _ us hl => match us, hl with | [_, _], _ => rfl), .nil, fun _ => .nil⟩, (c.glo 14), F.kp⟩
theorem sc_law_open : FnScope ["_law_script", "_law_seed", "_law_cell"] ["_law_script"] (defScope (top 21)) := ⟨rfl, rfl, rfl, by decide +kernel, rfl, by decide +kernel, by decide +kernel⟩
theorem okf_law_open (c : C w K mg) : ∃ fd, FunD K "_law_open" "_law_open" (defArgs (top 21)) (defBody (top 21)) (defScope (top 21)) (d__law_open.dvs K) (d__law_open.kws K) (He.ga K "_law_open") fd ∧ FnOk P w K mg base (L2.CX P w) 2 (He.ga K "_law_open") fd ["_law_script"] (spF K mg 1 f_open) := by
  obtain ⟨fd, F⟩ := c.def_ 9 (d := d__law_open)
  refine ⟨fd, F, fn_ok (N := ["_law_script", "_law_seed", "_law_cell"]) (k := 1) F sc_law_open (g := g_open) (fun cdv A outer s H E B hr => ?_)⟩
  exact dss_cons (ds_set 1 sc_law_open.nd de_int)
      (dss_cons (ds_for (passes_of rfl) rfl (di_seq (de_do (do_slice (de_var 0) dp_none (dp_some de_int)))) (dg_name 2 sc_law_open.nd) (dss_one (ds_set 1 sc_law_open.nd (de_mod (de_add (de_add (de_mulA (de_var 1) de_int) (de_mod (de_var 2) de_int)) de_int) de_int))))
      (dss_one (ds_ret (do_lst (da_cons (de_do (do_list (c.free 30) (de_do (do_slice (de_var 0) dp_none (dp_some de_int))))) (da_cons de_int (da_cons de_int (da_cons (de_var 1) (da_cons de_int da_nil)))))))))
theorem ok_law_open (c : C w K mg) : FnC P w K mg base 2 1 "_law_open" f_open [] := by
  obtain ⟨fd, F, ok⟩ := okf_law_open (P := P) (base := base) c
  exact ⟨⟨fd, ["_law_script"], [], [], ok, FunD.bindsN F (fun _ _ _ _ _ _ us hl => match us, hl with | [_], _ => rfl), .nil, fun _ => .nil⟩, (c.glo 16), F.kp⟩
theorem sc_law_draw : FnScope ["_law_box", "_law_many9", "_law_base", "_law_cell", "_law_got"] ["_law_box", "_law_many9"] (defScope (top 22)) := ⟨rfl, rfl, rfl, by decide +kernel, rfl, by decide +kernel, by decide +kernel⟩
theorem okf_law_draw (c : C w K mg) : ∃ fd, FunD K "_law_draw" "_law_draw" (defArgs (top 22)) (defBody (top 22)) (defScope (top 22)) (d__law_draw.dvs K) (d__law_draw.kws K) (He.ga K "_law_draw") fd ∧ FnOk P w K mg base (L2.CX P w) 2 (He.ga K "_law_draw") fd ["_law_box", "_law_many9"] (spF K mg 2 f_draw) := by
  obtain ⟨fd, F⟩ := c.def_ 10 (d := d__law_draw)
  refine ⟨fd, F, fn_ok (N := ["_law_box", "_law_many9", "_law_base", "_law_cell", "_law_got"]) (k := 1) F sc_law_draw (g := g_draw) (fun cdv A outer s H E B hr => ?_)⟩
  exact dss_cons (ds_if (dt_w (dw_and (dt_lt (de_pix 0 (hu_of hr) de_int) de_int) (dw_and1 (dt_lt (de_pix 0 (hu_of hr) de_int) (de_len (c.free 27) (da_cons (de_pix 0 (hu_of hr) de_int) da_nil)))))) (dss_cons (ds_set 3 sc_law_draw.nd (de_ix (de_pix 0 (hu_of hr) de_int) (de_pix 0 (hu_of hr) de_int)))
      (dss_cons (ds_setIx 0 (hu_of hr) de_int (de_add (de_pix 0 (hu_of hr) de_int) de_int))
      (dss_one (ds_if (dt_ge (de_var 3) (de_pow de_int de_int)) (dss_one (ds_setIx 0 (hu_of hr) de_int (de_var 3))) (dss_one (ds_setIx 0 (hu_of hr) de_int (de_mod (de_add (de_pix 0 (hu_of hr) de_int) (de_mulA (de_mod (de_var 3) de_int) de_int)) de_int))))))) dss_nil)
      (dss_cons (ds_if (dt_gt (de_pix 0 (hu_of hr) de_int) de_int) (dss_cons (ds_set 4 sc_law_draw.nd (de_mod (de_pix 0 (hu_of hr) de_int) (de_var 1)))
      (dss_cons (ds_setIx 0 (hu_of hr) de_int (de_div (de_pix 0 (hu_of hr) de_int) (de_var 1)))
      (dss_one (ds_ret (do_de (de_var 4)))))) dss_nil)
      (dss_cons (ds_setIx 0 (hu_of hr) de_int (de_add (de_pix 0 (hu_of hr) de_int) de_int))
      (dss_cons (ds_set 2 sc_law_draw.nd (de_mod (de_add (de_pix 0 (hu_of hr) de_int) (de_mulA (de_pix 0 (hu_of hr) de_int) de_int)) de_int))
      (dss_cons (ds_setIx 0 (hu_of hr) de_int (de_mod (de_add (de_add (de_mulA (de_mod (de_mulA (de_var 2) (de_var 2)) de_int) (de_add (de_mod (de_var 2) de_int) de_int)) (de_mulA de_int (de_var 2))) de_int) de_int))
      (dss_one (ds_ret (do_de (de_mod (de_add (de_div (de_pix 0 (hu_of hr) de_int) de_int) (de_mulA (de_mod (de_pix 0 (hu_of hr) de_int) de_int) de_int)) (de_var 1)))))))))
theorem ok_law_draw (c : C w K mg) : FnC P w K mg base 2 2 "_law_draw" f_draw [] := by
  obtain ⟨fd, F, ok⟩ := okf_law_draw (P := P) (base := base) c
  exact ⟨⟨fd, ["_law_box", "_law_many9"], [], [], ok, FunD.bindsN F (fun _ _ _ _ _ _ us hl => match us, hl with | [_, _], _ => rfl), .nil, fun _ => .nil⟩, (c.glo 17), F.kp⟩
theorem sc_law_words : FnScope ["_law_many9", "_law_long9", "_law_found", "_law_turn", "_law_wider", "_law_head", "_law_sign"] ["_law_many9", "_law_long9"] (defScope (top 23)) := ⟨rfl, rfl, rfl, by decide +kernel, rfl, by decide +kernel, by decide +kernel⟩
theorem okf_law_words (c : C w K mg) : ∃ fd, FunD K "_law_words" "_law_words" (defArgs (top 23)) (defBody (top 23)) (defScope (top 23)) (d__law_words.dvs K) (d__law_words.kws K) (He.ga K "_law_words") fd ∧ FnOk P w K mg base (L2.CX P w) 2 (He.ga K "_law_words") fd ["_law_many9", "_law_long9"] (spF K mg 2 fl_words) := by
  obtain ⟨fd, F⟩ := c.def_ 11 (d := d__law_words)
  refine ⟨fd, F, fn_ok (N := ["_law_many9", "_law_long9", "_law_found", "_law_turn", "_law_wider", "_law_head", "_law_sign"]) (k := 1) F sc_law_words (g := gl_words) (fun cdv A outer s H E B hr => ?_)⟩
  exact dss_cons (ds_set 2 sc_law_words.nd (de_lst (da_cons de_str da_nil)))
      (dss_cons (ds_for (passes_of rfl) rfl (di_range1 (c.free 28) (de_var 1)) (dg_name 3 sc_law_words.nd) (dss_cons (ds_set 4 sc_law_words.nd (de_lst da_nil))
      (dss_cons (ds_for (passes_of rfl) rfl (di_seq (de_var 2)) (dg_name 5 sc_law_words.nd) (dss_one (ds_set 4 sc_law_words.nd (de_do (do_cat (de_var 4) (de_do (do_lc [("_law_sign", 6)] rfl sc_law_words.nd (di_seq (de_do (do_slice de_str dp_none (dp_some (de_var 0))))) (blkOk_by (by kernel_rfl)) (by decide) (fun _ _ _ _ _ => dg_name 6 sc_law_words.nd) (fun _ _ _ _ _ => dts_nil) (fun _ _ _ _ _ => de_add (de_var 5) (de_var 6)))))))))
      (dss_one (ds_set 2 sc_law_words.nd (de_var 4))))))
      (dss_one (ds_ret (do_de (de_var 2)))))
theorem ok_law_words (c : C w K mg) : FnC P w K mg base 2 2 "_law_words" fl_words [] := by
  obtain ⟨fd, F, ok⟩ := okf_law_words (P := P) (base := base) c
  exact ⟨⟨fd, ["_law_many9", "_law_long9"], [], [], ok, FunD.bindsN F (fun _ _ _ _ _ _ us hl => match us, hl with | [_, _], _ => rfl), .nil, fun _ => .nil⟩, (c.glo 18), F.kp⟩
theorem sc_law_least : FnScope ["_law_word", "_law_turns", "_law_at", "_law_one"] ["_law_word"] (defScope (top 24)) := ⟨rfl, rfl, rfl, by decide +kernel, rfl, by decide +kernel, by decide +kernel⟩
theorem okf_law_least (c : C w K mg) : ∃ fd, FunD K "_law_least" "_law_least" (defArgs (top 24)) (defBody (top 24)) (defScope (top 24)) (d__law_least.dvs K) (d__law_least.kws K) (He.ga K "_law_least") fd ∧ FnOk P w K mg base (L2.CX P w) 2 (He.ga K "_law_least") fd ["_law_word"] (spF K mg 1 fl_least) := by
  obtain ⟨fd, F⟩ := c.def_ 12 (d := d__law_least)
  refine ⟨fd, F, fn_ok (N := ["_law_word", "_law_turns", "_law_at", "_law_one"]) (k := 1) F sc_law_least (g := gl_least) (fun cdv A outer s H E B hr => ?_)⟩
  exact dss_cons (ds_setLc 1 [("_law_at", 2)] rfl sc_law_least.nd (di_range2 (c.free 28) de_int (de_len (c.free 27) (da_cons (de_var 0) da_nil))) (blkOk_by (by kernel_rfl)) (by decide) (fun _ _ _ _ _ => dg_name 2 sc_law_least.nd) (fun _ _ _ _ _ => dts_nil) (fun _ _ _ _ _ => de_add (de_do (do_slice (de_var 0) (dp_some (de_var 2)) dp_none)) (de_do (do_slice (de_var 0) dp_none (dp_some (de_var 2))))) (sw_true rfl rfl rfl (by decide +kernel)))
      (dss_one (ds_ret (do_de (de_and (de_ne (hu_of hr) (de_var 0) de_str) (de_one (de_all rfl (c.free 35) (da_cons (de_do (do_lc [("_law_one", 3)] rfl sc_law_least.nd (di_seq (de_var 1)) (blkOk_by (by kernel_rfl)) (by decide) (fun _ _ _ _ _ => dg_name 3 sc_law_least.nd) (fun _ _ _ _ _ => dts_nil) (fun _ _ _ _ _ => de_lt (de_var 0) (de_var 3)))) da_nil)))))))
theorem ok_law_least (c : C w K mg) : FnC P w K mg base 2 1 "_law_least" fl_least [] := by
  obtain ⟨fd, F, ok⟩ := okf_law_least (P := P) (base := base) c
  exact ⟨⟨fd, ["_law_word"], [], [], ok, FunD.bindsN F (fun _ _ _ _ _ _ us hl => match us, hl with | [_], _ => rfl), .nil, fun _ => .nil⟩, (c.glo 19), F.kp⟩
theorem sc_law_least_words : FnScope ["_law_many9", "_law_long9", "_law_word"] ["_law_many9", "_law_long9"] (defScope (top 25)) := ⟨rfl, rfl, rfl, by decide +kernel, rfl, by decide +kernel, by decide +kernel⟩
theorem okf_law_least_words (c : C w K mg) : ∃ fd, FunD K "_law_least_words" "_law_least_words" (defArgs (top 25)) (defBody (top 25)) (defScope (top 25)) (d__law_least_words.dvs K) (d__law_least_words.kws K) (He.ga K "_law_least_words") fd ∧ FnOk P w K mg base (L2.CX P w) 3 (He.ga K "_law_least_words") fd ["_law_many9", "_law_long9"] (spF K mg 2 fl_least_words) := by
  obtain ⟨fd, F⟩ := c.def_ 13 (d := d__law_least_words)
  refine ⟨fd, F, fn_ok (N := ["_law_many9", "_law_long9", "_law_word"]) (k := 2) F sc_law_least_words (g := gl_least_words) (fun cdv A outer s H E B hr => ?_)⟩
  exact dss_one (ds_ret (do_lc [("_law_word", 2)] rfl sc_law_least_words.nd (di_seq (de_do (do_fn (ok_law_words c) hr (by decide) (takes_of rfl rfl rfl rfl) (da_cons (de_var 0) (da_cons (de_var 1) da_nil)) (mLen.to (mLen_cons (mLen_cons mLen_nil)) rfl)))) (blkOk_by (by kernel_rfl)) (by decide) (fun _ _ _ _ _ => dg_name 2 sc_law_least_words.nd) (fun _ _ _ _ _ => dts_one (dt_val (de_do (do_fn (ok_law_least c) hr (by decide) LamX.takes0 (da_cons (de_var 2) da_nil) (mLen.to (mLen_cons mLen_nil) rfl))))) (fun _ _ _ _ _ => de_var 2)))
theorem ok_law_least_words (c : C w K mg) : FnC P w K mg base 3 2 "_law_least_words" fl_least_words [] := by
  obtain ⟨fd, F, ok⟩ := okf_law_least_words (P := P) (base := base) c
  exact ⟨⟨fd, ["_law_many9", "_law_long9"], [], [], ok, FunD.bindsN F (fun _ _ _ _ _ _ us hl => match us, hl with | [_, _], _ => rfl), .nil, fun _ => .nil⟩, (c.glo 20), F.kp⟩
theorem sc_law_int : FnScope ["_law_thing"] ["_law_thing"] (defScope (top 26)) := ⟨rfl, rfl, rfl, by decide +kernel, rfl, by decide +kernel, by decide +kernel⟩
theorem okf_law_int (c : C w K mg) : ∃ fd, FunD K "_law_int" "_law_int" (defArgs (top 26)) (defBody (top 26)) (defScope (top 26)) (d__law_int.dvs K) (d__law_int.kws K) (He.ga K "_law_int") fd ∧ FnOk P w K mg base (L2.CX P w) 2 (He.ga K "_law_int") fd ["_law_thing"] (spF K mg 1 f_int) := by
  obtain ⟨fd, F⟩ := c.def_ 14 (d := d__law_int)
  refine ⟨fd, F, fn_ok (N := ["_law_thing"]) (k := 1) F sc_law_int (g := g_int) (fun cdv A outer s H E B hr => ?_)⟩
  exact dss_one (ds_ret (do_de (de_and (de_isi (t := "int") (c.free 29) (c.free 32) (by decide +kernel) (de_var 0) rfl) (de_one (de_not (de_isi (t := "bool") (c.free 29) (c.free 33) (by decide +kernel) (de_var 0) rfl))))))
theorem ok_law_int (c : C w K mg) : FnC P w K mg base 2 1 "_law_int" f_int [] := by
  obtain ⟨fd, F, ok⟩ := okf_law_int (P := P) (base := base) c
  exact ⟨⟨fd, ["_law_thing"], [], [], ok, FunD.bindsN F (fun _ _ _ _ _ _ us hl => match us, hl with | [_], _ => rfl), .nil, fun _ => .nil⟩, (c.glo 21), F.kp⟩
theorem sc_law_like : FnScope ["_law_found", "_law_due", "_law_k"] ["_law_found", "_law_due"] (defScope (top 27)) := ⟨rfl, rfl, rfl, by decide +kernel, rfl, by decide +kernel, by decide +kernel⟩
theorem ok_law_like : ∀ (n : Nat), C w K mg → FnC P w K mg base (2 + n) 2 "_law_like" (f_like n) []
  | 0, c => by
    obtain ⟨fd, F⟩ := c.def_ 15 (d := d__law_like)
    exact ⟨⟨fd, ["_law_found", "_law_due"], [], [], FnOk.bad rfl, F.bindsN (fun _ _ _ _ _ _ us hl => match us, hl with | [_, _], _ => rfl), .nil, fun _ => .nil⟩, (c.glo 22), F.kp⟩
  | n + 1, c => by
    have ih := ok_law_like n c
    obtain ⟨fd, F⟩ := c.def_ 15 (d := d__law_like)
    refine ⟨⟨fd, ["_law_found", "_law_due"], [], [], fn_ok (N := ["_law_found", "_law_due", "_law_k"]) (k := 2 + n) F sc_law_like (g := g_like (f_like n)) (fun cdv A outer s H E B hr => ?_), F.bindsN (fun _ _ _ _ _ _ us hl => match us, hl with | [_, _], _ => rfl), .nil, fun _ => .nil⟩, (c.glo 22), F.kp⟩
    exact dss_cons (ds_if (dt_isN (de_var 1) de_non) (dss_one (ds_ret (do_de (de_isN (de_var 0) de_non)))) dss_nil)
      (dss_cons (ds_if (dt_val (de_isi (t := "bool") (c.free 29) (c.free 33) (by decide +kernel) (de_var 1) rfl)) (dss_one (ds_ret (do_de (de_and (de_isi (t := "bool") (c.free 29) (c.free 33) (by decide +kernel) (de_var 0) rfl) (de_one (de_eq (hu_of hr) (de_var 0) (de_var 1))))))) dss_nil)
      (dss_cons (ds_if (dt_val (de_isi (t := "int") (c.free 29) (c.free 32) (by decide +kernel) (de_var 1) rfl)) (dss_one (ds_ret (do_de (de_and (de_do (do_fn (ok_law_int c) hr (by omega) (takes_of rfl rfl rfl rfl) (da_cons (de_var 0) da_nil) (mLen.to (mLen_cons mLen_nil) rfl))) (de_one (de_eq (hu_of hr) (de_var 0) (de_var 1))))))) dss_nil)
      (dss_cons (ds_if (dt_val (de_isi (t := "str") (c.free 29) (c.free 34) (by decide +kernel) (de_var 1) rfl)) (dss_one (ds_ret (do_de (de_and (de_isi (t := "str") (c.free 29) (c.free 34) (by decide +kernel) (de_var 0) rfl) (de_one (de_eq (hu_of hr) (de_var 0) (de_var 1))))))) dss_nil)
      (dss_cons (ds_if (dt_w (dw_or (dt_ne (hu_of hr) (de_isi (t := "tuple") (c.free 29) (c.free 31) (by decide +kernel) (de_var 1) rfl) (de_isi (t := "tuple") (c.free 29) (c.free 31) (by decide +kernel) (de_var 0) rfl)) (dw_or1 (dt_ne (hu_of hr) (de_isi (t := "list") (c.free 29) (c.free 30) (by decide +kernel) (de_var 1) rfl) (de_isi (t := "list") (c.free 29) (c.free 30) (by decide +kernel) (de_var 0) rfl))))) (dss_one (ds_ret (do_de de_bl))) dss_nil)
      (dss_one (ds_ret (do_de (de_and (de_eq (hu_of hr) (de_len (c.free 27) (da_cons (de_var 0) da_nil)) (de_len (c.free 27) (da_cons (de_var 1) da_nil))) (de_one (de_all rfl (c.free 35) (da_cons (de_do (do_lc [("_law_k", 2)] rfl sc_law_like.nd (di_range1 (c.free 28) (de_len (c.free 27) (da_cons (de_var 1) da_nil))) (blkOk_by (by kernel_rfl)) (by decide) (fun _ _ _ _ _ => dg_name 2 sc_law_like.nd) (fun _ _ _ _ _ => dts_nil) (fun _ _ _ _ _ => de_do (do_fn ih hr (by omega) LamX.takes0 (da_cons (de_ix (de_var 0) (de_var 2)) (da_cons (de_ix (de_var 1) (de_var 2)) da_nil)) (mLen.to (mLen_cons (mLen_cons mLen_nil)) rfl))))) da_nil)))))))))))
theorem sc_law_of : FnScope ["_law_box", "_law_some"] ["_law_box", "_law_some"] (defScope (top 28)) := ⟨rfl, rfl, rfl, by decide +kernel, rfl, by decide +kernel, by decide +kernel⟩
theorem okf_law_of (c : C w K mg) : ∃ fd, FunD K "_law_of" "_law_of" (defArgs (top 28)) (defBody (top 28)) (defScope (top 28)) (d__law_of.dvs K) (d__law_of.kws K) (He.ga K "_law_of") fd ∧ FnOk P w K mg base (L2.CX P w) 3 (He.ga K "_law_of") fd ["_law_box", "_law_some"] (spF K mg 2 fl_of) := by
  obtain ⟨fd, F⟩ := c.def_ 16 (d := d__law_of)
  refine ⟨fd, F, fn_ok (N := ["_law_box", "_law_some"]) (k := 2) F sc_law_of (g := gl_of) (fun cdv A outer s H E B hr => ?_)⟩
  exact dss_one (ds_ret (do_de (de_ix (de_var 1) (de_do (do_fnR 0 (ok_law_draw c) hr (by decide) (takes_of rfl rfl rfl rfl) (da_cons (de_len (c.free 27) (da_cons (de_var 1) da_nil)) da_nil) (mLen.to1 (mLen_cons mLen_nil) rfl))))))
theorem ok_law_of (c : C w K mg) : FnC P w K mg base 3 2 "_law_of" fl_of [] := by
  obtain ⟨fd, F, ok⟩ := okf_law_of (P := P) (base := base) c
  exact ⟨⟨fd, ["_law_box", "_law_some"], [], [], ok, FunD.bindsN F (fun _ _ _ _ _ _ us hl => match us, hl with | [_, _], _ => rfl), .nil, fun _ => .nil⟩, (c.glo 23), F.kp⟩
theorem sc_law_far : FnScope ["_law_box"] ["_law_box"] (defScope (top 29)) := ⟨rfl, rfl, rfl, by decide +kernel, rfl, by decide +kernel, by decide +kernel⟩
theorem okf_law_far (c : C w K mg) : ∃ fd, FunD K "_law_far" "_law_far" (defArgs (top 29)) (defBody (top 29)) (defScope (top 29)) (d__law_far.dvs K) (d__law_far.kws K) (He.ga K "_law_far") fd ∧ FnOk P w K mg base (L2.CX P w) 4 (He.ga K "_law_far") fd ["_law_box"] (spF K mg 1 fl_far) := by
  obtain ⟨fd, F⟩ := c.def_ 17 (d := d__law_far)
  refine ⟨fd, F, fn_ok (N := ["_law_box"]) (k := 3) F sc_law_far (g := gl_far) (fun cdv A outer s H E B hr => ?_)⟩
  exact dss_one (ds_ret (do_fnR 0 (ok_law_of c) hr (by decide) (takes_of rfl rfl rfl rfl) (da_cons (de_lst (da_cons (de_neg de_int) (da_cons de_int (da_cons (de_pow de_int de_int) (da_cons (de_sub (de_sub de_int de_int) (de_do (do_fnR 0 (ok_law_draw c) hr (by decide) (takes_of rfl rfl rfl rfl) (da_cons (de_pow de_int de_int) da_nil) (mLen.to1 (mLen_cons mLen_nil) rfl)))) (da_cons (de_add de_int (de_do (do_fnR 0 (ok_law_draw c) hr (by decide) (takes_of rfl rfl rfl rfl) (da_cons (de_pow de_int de_int) da_nil) (mLen.to1 (mLen_cons mLen_nil) rfl)))) da_nil)))))) da_nil) (mLen.to1 (mLen_cons mLen_nil) rfl)))
theorem ok_law_far (c : C w K mg) : FnC P w K mg base 4 1 "_law_far" fl_far [] := by
  obtain ⟨fd, F, ok⟩ := okf_law_far (P := P) (base := base) c
  exact ⟨⟨fd, ["_law_box"], [], [], ok, FunD.bindsN F (fun _ _ _ _ _ _ us hl => match us, hl with | [_], _ => rfl), .nil, fun _ => .nil⟩, (c.glo 24), F.kp⟩
theorem sc_law_asked : FnScope ["_law_many9", "_law_long9"] ["_law_many9", "_law_long9"] (defScope (top 30)) := ⟨rfl, rfl, rfl, by decide +kernel, rfl, by decide +kernel, by decide +kernel⟩
theorem ok_law_asked (c : C w K mg) (hTB : ∀ p ∈ tf.map (He.cT K), LamX.TabB base mg p.1 p.2) : FnCT P w K mg base (tabsN K qs) 9 2 "_law_asked" f_law_asked [] := by
  obtain ⟨fd, F⟩ := c.def_ 18 (d := d__law_asked)
  refine ⟨⟨fd, ["_law_many9", "_law_long9"], [], [], fn_okT (N := ["_law_many9", "_law_long9"]) (k := 8) F sc_law_asked (code_ofN (q := ("_law_asked", none)) rfl) (g := g_law_asked) (fun cdv A outer s H E B hc hr => ?_), F.bindsN (fun _ _ _ _ _ _ us hl => match us, hl with | [_, _], _ => rfl), .nil, fun _ => .nil⟩, (c.glo 25), F.kp⟩
  have tc := tabC_ofN (P := P) (w := w) (K := K) (N := ["_law_many9", "_law_long9"]) (qual := "_law_asked") (scope := defScope (top 30)) (f := He.ga K "_law_asked") (A := A) (outer := outer) (s := s) (H := H) (E := E) (qs := qs) (d := ("_law_asked", none)) hTB (ex_ne c.more) (.head _) hc
  exact dss_one (ds_ret (do_lst (da_cons (de_whyC (why_law_why c) tc hr (k := 6) (by decide) (LamX.lamS_by (by kernel_rfl)) (fun _ _ _ _ _ _ _ hl => de_do (do_fn (ok_all_words c) hl (by decide) takes_lam (da_cons (de_var 0) (da_cons (de_var 1) da_nil)) (mLen.to (mLen_cons (mLen_cons mLen_nil)) rfl)))) (da_cons (de_whyDC (why_law_why c) tc hr (k := 6) (by decide) (N' := ["_law_many9", "_law_long9"]) (a0 := "_law_again") (lamD_by (by kernel_rfl)) pe_int (fun _ _ _ _ _ _ _ hl => de_do (do_kw0 (okw_leasts_0 c) hl (by decide) takes_lam (dk_cons (de_var 1) (dk_cons (de_var 0) dk_nil)) (mLen_cons (mLen_cons mLen_nil))))) da_nil))))
theorem sc_law : FnScope ["_law_script", "_law_box", "_law_turn", "_law_far_here", "_law_many9", "_law_long9", "_law_due", "_law_again", "_law_odd", "_law_none", "_law_found", "_law_rows"] ["_law_script"] (defScope (top 31)) := ⟨rfl, rfl, rfl, by decide +kernel, rfl, by decide +kernel, by decide +kernel⟩
theorem okl (c : C w K mg) (hTB : ∀ p ∈ tf.map (He.cT K), LamX.TabB base mg p.1 p.2) : ∃ fd, FunD K "law" "law" (defArgs (top 31)) (defBody (top 31)) (defScope (top 31)) [] [] (He.ga K "law") fd ∧ FnOk P w K mg base (L2.CX P w) 13 (He.ga K "law") fd ["_law_script"] (spLaw K (tf.map (He.cT K))) := by
  obtain ⟨fd, F⟩ := c.def_ 19 (d := d_law)
  refine ⟨fd, F, law_okT (N := ["_law_script", "_law_box", "_law_turn", "_law_far_here", "_law_many9", "_law_long9", "_law_due", "_law_again", "_law_odd", "_law_none", "_law_found", "_law_rows"]) (k := 12) (T := tabsN K qs) F sc_law tabsN_in (code_ofN (q := ("law", none)) rfl) (g := g_law) (fun cdv A outer s H E B hc hr => ?_) law_true⟩
  exact dss_cons (ds_setO 1 sc_law.nd (do_fn (ok_law_open c) hr (by decide) (takes_of rfl rfl rfl rfl) (da_cons (de_var 0) da_nil) (mLen.to (mLen_cons mLen_nil) rfl)))
      (dss_cons (ds_for (passes_of rfl) rfl (di_range1 (c.free 28) de_int) (dg_name 2 sc_law.nd) (dss_blur [4, 5, 6, 7, 10, 8, 9] (dss_cons (ds_set 4 sc_law.nd (de_add de_int (de_do (do_fnR 1 (ok_law_draw c) hr (by decide) (takes_of rfl rfl rfl rfl) (da_cons de_int da_nil) (mLen.to1 (mLen_cons mLen_nil) rfl)))))
      (dss_cons (ds_set 5 sc_law.nd (de_do (do_fnR 1 (ok_law_draw c) hr (by decide) (takes_of rfl rfl rfl rfl) (da_cons (de_ix (de_lst (da_cons de_int (da_cons de_int (da_cons de_int (da_cons de_int da_nil))))) (de_sub (de_var 4) de_int)) da_nil) (mLen.to1 (mLen_cons mLen_nil) rfl))))
      (dss_cons (ds_set 6 sc_law.nd (de_lst (da_cons (de_do (do_fn (ok_law_words c) hr (by decide) (takes_of rfl rfl rfl rfl) (da_cons (de_var 4) (da_cons (de_var 5) da_nil)) (mLen.to (mLen_cons (mLen_cons mLen_nil)) rfl))) (da_cons (de_do (do_fn (ok_law_least_words c) hr (by decide) (takes_of rfl rfl rfl rfl) (da_cons (de_var 4) (da_cons (de_var 5) da_nil)) (mLen.to (mLen_cons (mLen_cons mLen_nil)) rfl))) da_nil))))
      (dss_cons (ds_for (passes_of rfl) rfl (di_range1 (c.free 28) de_int) (dg_name 7 sc_law.nd) (dss_blur [10] (dss_cons (ds_setO 10 sc_law.nd (do_nl (dos_cons (do_fn (ok_all_words c) hr (by decide) (takes_of rfl rfl rfl rfl) (da_cons (de_var 4) (da_cons (de_var 5) da_nil)) (mLen.to (mLen_cons (mLen_cons mLen_nil)) rfl)) (dos_cons (do_fn (ok_leasts c) hr (by decide) (takes_of rfl rfl rfl rfl) (da_cons (de_var 4) (da_cons (de_var 5) da_nil)) (mLen.to (mLen_cons (mLen_cons mLen_nil)) rfl)) dos_nil))))
      (dss_cons (ds_if (dt_not (dt_val (de_do (do_callN 10 (ok_law_like 8 c) hr (by decide) (takes_of rfl rfl rfl rfl) (da_cons (de_var 6) da_nil) (mLen.to1 (mLen_cons mLen_nil) rfl))))) (dss_one (ds_ret (do_de de_bl))) dss_nil)
      (dss_cons (ds_nlApp 10 0 de_str)
      (dss_one (ds_nlClr 10 1)))))))
      (dss_blur [7, 10] (dss_cons (ds_set 8 sc_law.nd (de_do (do_fnR 1 (ok_law_far c) hr (by decide) (takes_of rfl rfl rfl rfl) da_nil (mLen.to1 mLen_nil rfl))))
      (dss_cons (ds_if (dt_ne (hu_of hr) (de_do (do_fnT hT0 (ok_law_asked c hTB) hr (by decide) (takes_of rfl rfl rfl rfl) (da_cons (de_var 4) (da_cons (de_var 8) da_nil)) (mLen.to (mLen_cons (mLen_cons mLen_nil)) rfl))) (de_do (do_rep (do_lst (da_cons (de_tup (da_cons de_str (da_cons de_str da_nil))) da_nil))))) (dss_one (ds_ret (do_de de_bl))) dss_nil)
      (dss_cons (ds_set 9 sc_law.nd (de_do (do_fnR 1 (ok_law_of c) hr (by decide) (takes_of rfl rfl rfl rfl) (da_cons (de_lst (da_cons de_int (da_cons de_int (da_cons (de_var 8) da_nil)))) da_nil) (mLen.to1 (mLen_cons mLen_nil) rfl))))
      (dss_one (ds_if (dt_ne (hu_of hr) (de_do (do_cat (de_do (do_fnT hT0 (ok_law_asked c hTB) hr (by decide) (takes_of rfl rfl rfl rfl) (da_cons (de_var 9) (da_cons (de_var 5) da_nil)) (mLen.to (mLen_cons (mLen_cons mLen_nil)) rfl))) (de_do (do_fnT hT0 (ok_law_asked c hTB) hr (by decide) (takes_of rfl rfl rfl rfl) (da_cons (de_var 9) (da_cons (de_var 8) da_nil)) (mLen.to (mLen_cons (mLen_cons mLen_nil)) rfl))))) (de_do (do_rep (do_lst (da_cons (de_tup (da_cons de_str (da_cons de_str da_nil))) da_nil))))) (dss_one (ds_ret (do_de de_bl))) dss_nil))))))))))))
      (dss_cons (ds_set 3 sc_law.nd (de_lst (da_cons (de_do (do_fn (ok_all_words c) hr (by decide) (takes_of rfl rfl rfl rfl) (da_cons de_int (da_cons de_int da_nil)) (mLen.to (mLen_cons (mLen_cons mLen_nil)) rfl))) (da_cons (de_do (do_fn (ok_all_words c) hr (by decide) (takes_of rfl rfl rfl rfl) (da_cons de_int (da_cons de_int da_nil)) (mLen.to (mLen_cons (mLen_cons mLen_nil)) rfl))) (da_cons (de_do (do_fn (ok_leasts c) hr (by decide) (takes_of rfl rfl rfl rfl) (da_cons de_int (da_cons de_int da_nil)) (mLen.to (mLen_cons (mLen_cons mLen_nil)) rfl))) (da_cons (de_do (do_fn (ok_leasts c) hr (by decide) (takes_of rfl rfl rfl rfl) (da_cons de_int (da_cons de_int da_nil)) (mLen.to (mLen_cons (mLen_cons mLen_nil)) rfl))) da_nil))))))
      (dss_cons (ds_if (dt_not (dt_val (de_do (do_fn (ok_law_like 8 c) hr (by decide) (takes_of rfl rfl rfl rfl) (da_cons (de_do (do_lc [("_law_rows", 11)] rfl sc_law.nd (di_seq (de_var 3)) (blkOk_by (by kernel_rfl)) (by decide) (fun _ _ _ _ _ => dg_name 11 sc_law.nd) (fun _ _ _ _ _ => dts_nil) (fun _ _ _ _ _ => de_len (c.free 27) (da_cons (de_var 11) da_nil)))) (da_cons (de_lst (da_cons de_int (da_cons de_int (da_cons de_int (da_cons de_int da_nil))))) da_nil)) (mLen.to (mLen_cons (mLen_cons mLen_nil)) rfl))))) (dss_one (ds_ret (do_de de_bl))) dss_nil)
      (dss_cons (ds_if (dt_not (dt_val (de_do (do_fn (ok_law_like 8 c) hr (by decide) (takes_of rfl rfl rfl rfl) (da_cons (de_do (do_lc [("_law_rows", 11)] rfl sc_law.nd (di_seq (de_var 3)) (blkOk_by (by kernel_rfl)) (by decide) (fun _ _ _ _ _ => dg_name 11 sc_law.nd) (fun _ _ _ _ _ => dts_nil) (fun _ _ _ _ _ => de_ix (de_var 11) (de_neg de_int)))) (da_cons (de_lst (da_cons de_str (da_cons de_str (da_cons de_str (da_cons de_str da_nil))))) da_nil)) (mLen.to (mLen_cons (mLen_cons mLen_nil)) rfl))))) (dss_one (ds_ret (do_de de_bl))) dss_nil)
      (dss_one (ds_ret (do_fn (ok_law_like 8 c) hr (by decide) (takes_of rfl rfl rfl rfl) (da_cons (de_lst (da_cons (de_do (do_fn (ok_all_words c) hr (by decide) (takes_of rfl rfl rfl rfl) (da_cons de_int (da_cons de_int da_nil)) (mLen.to (mLen_cons (mLen_cons mLen_nil)) rfl))) (da_cons (de_do (do_fn (ok_leasts c) hr (by decide) (takes_of rfl rfl rfl rfl) (da_cons de_int (da_cons de_int da_nil)) (mLen.to (mLen_cons (mLen_cons mLen_nil)) rfl))) (da_cons (de_do (do_fn (ok_leasts c) hr (by decide) (takes_of rfl rfl rfl rfl) (da_cons de_int (da_cons de_int da_nil)) (mLen.to (mLen_cons (mLen_cons mLen_nil)) rfl))) da_nil)))) (da_cons (de_lst (da_cons (de_lst (da_cons de_str da_nil)) (da_cons (de_lst da_nil) (da_cons (de_lst da_nil) da_nil)))) da_nil)) (mLen.to (mLen_cons (mLen_cons mLen_nil)) rfl))))))))
end
end K06
open PySem PySem.W PySem.Calls PyProof.Rows
theorem PySem.Challenge.cw_wordtread_k06_lists_of_words_holds : PySem.Challenge.rw_wordtread_k06_lists_of_words.Holds := by
  w_on; o_law
  refine HandSHeadRun.head_any (r := OpenLaw.row PySem.Challenge.rw_wordtread_k06_lists_of_words) (q := view (OpenLaw.row PySem.Challenge.rw_wordtread_k06_lists_of_words).prog [31]) (H := K06.hk) (ob := K06.ob) (M := 20000) (loose := ((["TreadError", "BadCount", "BadDepth", "Stuck", "NotBrackets", "BadMove", "BadText", "NoName", "Ring", "InUse", "need_many", "need_depth", "all_words", "least_so", "leasts", "_law_why", "_law_open", "_law_draw", "_law_words", "_law_least", "_law_least_words", "_law_int", "_law_like", "_law_of"] : List Str) ++ (["_law_far", "_law_asked", "LETTERS", "LONGEST"] : List Str))) (d := HandSHeadRun.topDef (OpenLaw.row PySem.Challenge.rw_wordtread_k06_lists_of_words).prog 31) (kwd := []) K06.ob_eq
    (by kernel_rfl) (fun s => by kernel_rfl) K06.run (by kernel_rfl) (by kernel_rfl) (by kernel_rfl) (by rfl) (by first | assumption | decide +kernel) (by decide +kernel) ⟨rfl, rfl, rfl, rfl, rfl, by decide +kernel⟩ ?hw ?hc
  case hw => w_witness2
  case hc =>
    refine LamX.walk_ofTsE (l := PySem.Challenge.rw_wordtread_k06_lists_of_words) (n := 63) (k := 13) (x := "_law_script") (CX := fun w => L2.CX PySem.Challenge.rw_wordtread_k06_lists_of_words.prog w) rfl (by decide) (by kernel_rfl) ⟨rfl, by decide, by decide⟩ ?F (fun _ _ _ _ _ z => DL.cx_none z)
    intro w mg fa h Y G hmg0
    obtain ⟨K, KX, cc⟩ := Y
    have c : K06.C w K mg := ⟨h, KX, G, cc⟩
    have hmg : mg ("law" : PySem.Str) = some (.ref fa) := by
      have e : (HandSHeadRun.topDef (OpenLaw.row PySem.Challenge.rw_wordtread_k06_lists_of_words).prog 31).name = ("law" : PySem.Str) := by kernel_rfl
      rw [← e]
      exact hmg0
    have e := hmg.symm.trans (c.glo 26)
    cases e
    obtain ⟨fd, F⟩ := c.def_ 19 (d := K06.d_law)
    have b := L2.FunD.bindsA (ps := ["_law_script"]) F (fun _ _ _ _ _ _ us hl => match us, hl with | [_], _ => rfl)
    refine ⟨K, KX, DL.law_at (fd := fd) KX G cc rfl (fun s v => b s [v] rfl) fun base hb hn hT => ?_⟩
    obtain ⟨fd2, F2, ok⟩ := K06.okl (P := PySem.Challenge.rw_wordtread_k06_lists_of_words.prog) (base := base) c hT
    have e2 : fd2 = fd := by
      obtain ⟨oc, od, dV, kV, doc, pm, an, cdv, ct, osl, e1, lk, _⟩ := F.ex
      obtain ⟨oc2, od2, dV2, kV2, doc2, pm2, an2, cdv2, ct2, osl2, e2, lk2, _⟩ := F2.ex
      have lk3 : K.lookup (He.ga K "law") = _ := lk
      rw [lk2] at lk3
      cases lk3
      rfl
    subst e2
    exact ok
