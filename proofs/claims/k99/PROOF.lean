import PyProof.Rows.All
import Wide.All
import OpenK.AllK
import Wide.FinOn
import HandS.ForMost
import HandS.IsInst
import HandS.Flow
import HandS.Exc
import HandS.ExcOwn
import HandS.TryOnly
import HandS.WordsExc
import HandS.Wide
import HandS.Zip
import HandS.TupAny
import HandS.Lambda
import KE.DataMinMax
import KE.SortData
import HandS.TupMul
import HandS.Deep
import HandS.Conv
import KE.SortCalls
import PyProof.TupleOfSeq
import HandS.SetFor
import KE.GoesMore
import KE.GoesEnum
import HandS.TupLe
import HandS.Style
import HandS.Dict
import HandS.Strs
import HandS.Ends
import PySem.Challenge.RW_printyard_k99_whole_best_angles
set_option Elab.async false
set_option linter.all false
set_option maxRecDepth 100000
/-! TL: trees of data over the hand layer. -/
namespace TL
open PySem PySem.Spec L2
open PyProof.Rows hiding St

/-! ### data -/
abbrev PD := PyData
/-- a list that stands still -/
def FzL (K : PySem.W.Frag) (F : Hp) (a : Addr) (xs : List V) : Prop := ∃ o, F a = some (.frz o (.lst xs))
def kPD : Key → PD
  | .inl i => .int i
  | .inr x => .str x
mutual
inductive Rp (K : PySem.W.Frag) (F : Hp) : PD → V → Prop
  | non : Rp K F .none .non
  | bl (b : Bool) : Rp K F (.bool b) (.bl b)
  | int (i : Int) : Rp K F (.int i) (.int i)
  | str (x : Str) : Rp K F (.str x) (.str x)
  | lst {a : Addr} {xs : List V} {ds : List PD} : FzL K F a xs → Rps K F ds xs → Rp K F (.list ds) (.ref a)
  | tup {a : Addr} {xs : List V} {ds : List PD} : SqT K F a xs → Rps K F ds xs → Rp K F (.tuple ds) (.ref a)
  | dct {a : Addr} {o : Obj} {kvs : List (Key × V)} {ds : List (PD × PD)} : F a = some (.frz o (.dK kvs)) → Rkv K F ds kvs → Rp K F (.dict ds) (.ref a)
  | dctT {a : Addr} {o : Obj} {kvs : List (List Key × V)} {ds : List (PD × PD)} : F a = some (.frz o (.dT kvs)) → Rtv K F ds kvs → Rp K F (.dict ds) (.ref a)
inductive Rps (K : PySem.W.Frag) (F : Hp) : List PD → List V → Prop
  | nil : Rps K F [] []
  | cons {d : PD} {v : V} {ds : List PD} {vs : List V} : Rp K F d v → Rps K F ds vs → Rps K F (d :: ds) (v :: vs)
inductive Rkv (K : PySem.W.Frag) (F : Hp) : List (PD × PD) → List (Key × V) → Prop
  | nil : Rkv K F [] []
  | cons {k : Key} {d : PD} {v : V} {ds : List (PD × PD)} {vs : List (Key × V)} : Rp K F d v → Rkv K F ds vs → Rkv K F ((kPD k, d) :: ds) ((k, v) :: vs)
inductive Rtv (K : PySem.W.Frag) (F : Hp) : List (PD × PD) → List (List Key × V) → Prop
  | nil : Rtv K F [] []
  | cons {k : List Key} {d : PD} {v : V} {ds : List (PD × PD)} {vs : List (List Key × V)} : Rp K F d v → Rtv K F ds vs → Rtv K F ((.tuple (k.map kPD), d) :: ds) ((k, v) :: vs)
end
/-- what stands still stays -/
def Le (F F' : Hp) : Prop := ∀ p o, F p = some o → F' p = some o
/-- what may be written to -/
def Wr : HO → Prop
  | .lst _ => True
  | .dK _ => True
  | .dT _ => True
  | _ => False
theorem Wr.mut {o : HO} (h : Wr o) : Mut (some o) := by cases o <;> first | exact True.intro | exact h.elim
/-- .. all but what may be written to -/
def LeF (F F' : Hp) : Prop := ∀ p o, F p = some o → ¬ Wr o → F' p = some o
theorem Le.refl (F : Hp) : Le F F := fun _ _ h => h
theorem Le.trans {F F1 F2 : Hp} (a : Le F F1) (b : Le F1 F2) : Le F F2 := fun p o h => b p o (a p o h)
theorem Le.f {F F' : Hp} (h : Le F F') : LeF F F' := fun p o e _ => h p o e
theorem LeF.trans {F F1 F2 : Hp} (a : LeF F F1) (b : LeF F1 F2) : LeF F F2 := fun p o h n => b p o (a p o h n) n
theorem LeF.refl (F : Hp) : LeF F F := fun _ _ h _ => h
section
variable {K : PySem.W.Frag} {F F' H H' : Hp}
theorem FzL.mono {a : Addr} {xs : List V} (h : FzL K F a xs) (l : LeF F F') : FzL K F' a xs := by
  obtain ⟨o, h⟩ := h
  exact ⟨o, l _ _ h fun z => z⟩
theorem FzL.sq {a : Addr} {xs : List V} (h : FzL K F a xs) : SqL K F a xs := by
  obtain ⟨o, h⟩ := h
  exact .inl (.inr ⟨o, h⟩)
theorem FzL.rd {a : Addr} {xs : List V} (h : FzL K F a xs) (l : Le F H) : Rd H a (.lst xs) := by
  obtain ⟨o, h⟩ := h
  exact .inr ⟨o, l _ _ h⟩
theorem sqT_mono {a : Addr} {xs : List V} (h : SqT K F a xs) (l : LeF F F') : SqT K F' a xs := by
  rcases h with (h | ⟨o, h⟩) | h
  · exact .inl (.inl (l _ _ h fun z => z))
  · exact .inl (.inr ⟨o, l _ _ h fun z => z⟩)
  · exact .inr h
theorem sqL_mono {a : Addr} {xs : List V} (h : SqL K F a xs) (l : Le F F') : SqL K F' a xs := by
  rcases h with (h | ⟨o, h⟩) | h
  · exact .inl (.inl (l _ _ h))
  · exact .inl (.inr ⟨o, l _ _ h⟩)
  · exact .inr h
mutual
theorem Rp.mono (l : LeF F F') : ∀ {d : PD} {v : V}, Rp K F d v → Rp K F' d v
  | _, _, .non => .non
  | _, _, .bl b => .bl b
  | _, _, .int i => .int i
  | _, _, .str x => .str x
  | _, _, .lst h r => .lst (h.mono l) (Rps.mono l r)
  | _, _, .tup h r => .tup (sqT_mono h l) (Rps.mono l r)
  | _, _, .dct h r => .dct (l _ _ h fun z => z) (Rkv.mono l r)
  | _, _, .dctT h r => .dctT (l _ _ h fun z => z) (Rtv.mono l r)
theorem Rps.mono (l : LeF F F') : ∀ {d : List PD} {v : List V}, Rps K F d v → Rps K F' d v
  | _, _, .nil => .nil
  | _, _, .cons h r => .cons (Rp.mono l h) (Rps.mono l r)
theorem Rkv.mono (l : LeF F F') : ∀ {d : List (PD × PD)} {v : List (Key × V)}, Rkv K F d v → Rkv K F' d v
  | _, _, .nil => .nil
  | _, _, .cons h r => .cons (Rp.mono l h) (Rkv.mono l r)
theorem Rtv.mono (l : LeF F F') : ∀ {d : List (PD × PD)} {v : List (List Key × V)}, Rtv K F d v → Rtv K F' d v
  | _, _, .nil => .nil
  | _, _, .cons h r => .cons (Rp.mono l h) (Rtv.mono l r)
end
theorem Rps.length : ∀ {ds : List PD} {vs : List V}, Rps K F ds vs → vs.length = ds.length
  | _, _, .nil => rfl
  | _, _, .cons _ r => by simp [Rps.length r]
theorem Rps.get : ∀ {ds : List PD} {vs : List V} {i : Nat} {d : PD}, Rps K F ds vs → ds[i]? = some d → ∃ v, vs[i]? = some v ∧ Rp K F d v
  | _, _, _, _, .nil, e => by simp at e
  | _, _, 0, _, .cons h r, e => by simp at e; subst e; exact ⟨_, rfl, h⟩
  | _, _, i + 1, _, .cons h r, e => by
    obtain ⟨v, e1, e2⟩ := Rps.get (i := i) r (by simpa using e)
    exact ⟨v, by simpa using e1, e2⟩
theorem Rps.get' : ∀ {ds : List PD} {vs : List V} {i : Nat} {v : V}, Rps K F ds vs → vs[i]? = some v → ∃ d, ds[i]? = some d ∧ Rp K F d v
  | _, _, _, _, .nil, e => by simp at e
  | _, _, 0, _, .cons h r, e => by simp at e; subst e; exact ⟨_, rfl, h⟩
  | _, _, i + 1, _, .cons h r, e => by
    obtain ⟨v, e1, e2⟩ := Rps.get' (i := i) r (by simpa using e)
    exact ⟨v, by simpa using e1, e2⟩
theorem Rps.append : ∀ {ds es : List PD} {vs us : List V}, Rps K F ds vs → Rps K F es us → Rps K F (ds ++ es) (vs ++ us)
  | _, _, _, _, .nil, s => s
  | _, _, _, _, .cons h r, s => .cons h (Rps.append r s)
theorem Rps.set {d : PD} {v : V} (h : Rp K F d v) : ∀ {ds : List PD} {vs : List V} (i : Nat), Rps K F ds vs → Rps K F (ds.set i d) (vs.set i v)
  | _, _, _, .nil => .nil
  | _, _, 0, .cons _ r => .cons h r
  | _, _, i + 1, .cons q r => .cons q (Rps.set h i r)
theorem Rps.take : ∀ {ds : List PD} {vs : List V} (n : Nat), Rps K F ds vs → Rps K F (ds.take n) (vs.take n)
  | _, _, 0, _ => .nil
  | _, _, _ + 1, .nil => .nil
  | _, _, n + 1, .cons h r => .cons h (Rps.take n r)
theorem Rps.drop : ∀ {ds : List PD} {vs : List V} (n : Nat), Rps K F ds vs → Rps K F (ds.drop n) (vs.drop n)
  | _, _, 0, r => r
  | _, _, _ + 1, .nil => .nil
  | _, _, n + 1, .cons h r => Rps.drop n r
theorem Rps.reverse : ∀ {ds : List PD} {vs : List V}, Rps K F ds vs → Rps K F ds.reverse vs.reverse
  | _, _, .nil => .nil
  | _, _, .cons h r => by
    rw [List.reverse_cons, List.reverse_cons]
    exact (Rps.reverse r).append (.cons h .nil)
theorem Rps.eraseIdx : ∀ {ds : List PD} {vs : List V} (n : Nat), Rps K F ds vs → Rps K F (ds.eraseIdx n) (vs.eraseIdx n)
  | _, _, _, .nil => .nil
  | _, _, 0, .cons h r => r
  | _, _, n + 1, .cons h r => .cons h (Rps.eraseIdx n r)
theorem Rps.replicate {d : PD} {v : V} (h : Rp K F d v) : ∀ n, Rps K F (List.replicate n d) (List.replicate n v)
  | 0 => .nil
  | n + 1 => .cons h (Rps.replicate h n)
theorem Rps.ints : ∀ (ns : List Int), Rps K F (ns.map PyData.int) (ns.map V.int)
  | [] => .nil
  | n :: ns => .cons (.int n) (Rps.ints ns)
theorem Rps.bools : ∀ (ns : List Bool), Rps K F (ns.map PyData.bool) (ns.map V.bl)
  | [] => .nil
  | n :: ns => .cons (.bl n) (Rps.bools ns)
theorem Rps.strs : ∀ (ns : List Str), Rps K F (ns.map PyData.str) (ns.map V.str)
  | [] => .nil
  | n :: ns => .cons (.str n) (Rps.strs ns)
theorem Rps.ints_inv : ∀ {ns : List Int} {vs : List V}, Rps K F (ns.map PyData.int) vs → vs = ns.map V.int
  | [], _, .nil => rfl
  | n :: ns, _, .cons h r => by cases h; rw [Rps.ints_inv r]; rfl
theorem Rps.bools_inv : ∀ {ns : List Bool} {vs : List V}, Rps K F (ns.map PyData.bool) vs → vs = ns.map V.bl
  | [], _, .nil => rfl
  | n :: ns, _, .cons h r => by cases h; rw [Rps.bools_inv r]; rfl
theorem Rps.strs_inv : ∀ {ns : List Str} {vs : List V}, Rps K F (ns.map PyData.str) vs → vs = ns.map V.str
  | [], _, .nil => rfl
  | n :: ns, _, .cons h r => by cases h; rw [Rps.strs_inv r]; rfl

/-! ### things that are no data -/
/-- the script; .. -/
inductive Tg where
  | scr (ns : List Int) | fn (v : V)
def Rt (K : PySem.W.Frag) (F : Hp) : Tg → V → Prop
  | .scr ns, v => ∃ a, v = .ref a ∧ ((∃ o, F a = some (.frz o (.lst (ns.map V.int)))) ∨ ∃ (o : Obj) (its : Array Value) (n : Nat), K.lookup a = some o ∧ o.cls = .type "list" ∧ o.dict = none ∧ o.data = .seq its n ∧ its.size ≤ sizeLine ∧ Vals (ns.map V.int) its.toList)
  | .fn w, v => v = w
theorem Rt.mono (l : LeF F F') {t : Tg} {v : V} (h : Rt K F t v) : Rt K F' t v := by
  cases t with
  | scr ns =>
    obtain ⟨a, e, h | h⟩ := h
    · obtain ⟨o, h⟩ := h
      exact ⟨a, e, .inl ⟨o, l _ _ h fun z => z⟩⟩
    · exact ⟨a, e, .inr h⟩
  | fn w => exact h
/-! the store's entries: a list; a code object's table -/
inductive SE where
  | l (ds : List PD) | tab (P : Addr) (q : Str)
def SOk (K : PySem.W.Frag) (F H : Hp) (p : Addr) : SE → Prop
  | .l ds => ∃ xs, H p = some (.lst xs) ∧ Rps K F ds xs
  | .tab P q => p = P ∧ ∃ ps : Array Value, H P = some (.tbl ps) ∧ TriplesOk ps.toList ∧ ∀ (pos : Pos) (cv : Value), codeAmong pos ps.toList = some cv → ∃ c, cv = .ref c ∧ F c = some (LamX.CodeO c q)
theorem SOk.mono {p : Addr} {e : SE} (h : SOk K F H p e) (l : LeF F F') (lh : ∀ o, H p = some o → H' p = some o) : SOk K F' H' p e := by
  cases e with
  | l ds => obtain ⟨xs, a, b⟩ := h; exact ⟨xs, lh _ a, Rps.mono l b⟩
  | tab P q =>
    obtain ⟨e, ps, a, b, c⟩ := h
    subst e
    exact ⟨rfl, ps, lh _ a, b, fun pos cv hc => by
      obtain ⟨c0, e1, e2⟩ := c pos cv hc
      exact ⟨c0, e1, l _ _ e2 fun z => z⟩⟩
theorem SOk.at_ne {p q : Addr} {o : HO} {e : SE} (h : SOk K F H q e) (n : q ≠ p) : SOk K F (upd H p o) q e := by
  cases e with
  | l ds => obtain ⟨xs, a, b⟩ := h; exact ⟨xs, by rw [upd_ne n]; exact a, b⟩
  | tab P r =>
    obtain ⟨e, ps, a, b, c⟩ := h
    subst e
    exact ⟨rfl, ps, by rw [upd_ne n]; exact a, b, c⟩
theorem SOk.there {p : Addr} {e : SE} (h : SOk K F H p e) : ∃ o, H p = some o := by
  cases e with
  | l ds => obtain ⟨xs, a, b⟩ := h; exact ⟨_, a⟩
  | tab P q =>
    obtain ⟨e, ps, a, b, c⟩ := h
    subst e
    exact ⟨_, a⟩

/-! no dict within -/
mutual
def noDict : PD → Bool
  | .none | .bool _ | .int _ | .str _ => true
  | .list xs | .tuple xs => noDicts xs
  | .dict _ => false
def noDicts : List PD → Bool
  | [] => true
  | x :: xs => noDict x && noDicts xs
end
mutual
theorem Rp.dp (l : Le F H) : ∀ {d : PD} {v : V}, noDict d = true → Rp K F d v → Dp K H v d
  | _, _, _, .non => .non
  | _, _, _, .bl b => .bl b
  | _, _, _, .int i => .int i
  | _, _, _, .str x => .str x
  | _, _, n, .lst h r => .lst (sqL_mono h.sq l) (Rps.dp l (by simpa [noDict] using n) r)
  | _, _, n, .tup h r => .tup (sqT_mono h l.f) (Rps.dp l (by simpa [noDict] using n) r)
  | _, _, n, .dct _ _ => by simp [noDict] at n
  | _, _, n, .dctT _ _ => by simp [noDict] at n
theorem Rps.dp (l : Le F H) : ∀ {d : List PD} {v : List V}, noDicts d = true → Rps K F d v → DpAll K H v d
  | _, _, _, .nil => .nil
  | _, _, n, .cons h r => .cons (Rp.dp l (by simp [noDicts] at n; exact n.1) h) (Rps.dp l (by simp [noDicts] at n; exact n.2) r)
end
mutual
theorem noDict_of_can : ∀ {d : PD}, d.canLay0 = true → noDict d = true
  | .none, _ => rfl
  | .bool _, _ => rfl
  | .int _, _ => rfl
  | .str _, _ => rfl
  | .list xs, h => by rw [noDict]; exact noDicts_of_can (by simpa [PyData.canLay0] using h)
  | .tuple xs, h => by rw [noDict]; exact noDicts_of_can (by simpa [PyData.canLay0] using h)
  | .dict _, h => by simp [PyData.canLay0] at h
theorem noDicts_of_can : ∀ {d : List PD}, PyData.canLayAll0 d = true → noDicts d = true
  | [], _ => rfl
  | x :: xs, h => by
    simp [PyData.canLayAll0] at h
    simp [noDicts, noDict_of_can h.1, noDicts_of_can h.2]
end
end
end TL

namespace TL
open PySem PySem.Spec L2
open PyProof.Rows hiding St

/-! ### what the pure side knows of a frame -/
inductive Sl where
  | un | v (d : PD) | raw (x : Tg) | mt (n : Nat) | own (ds : List PD) | ownD (kvs : List (PD × PD)) | ownT (kvs : List (PD × PD))
def Sl.isOwn : Sl → Bool
  | .own _ => true
  | .ownD _ => true
  | .ownT _ => true
  | _ => false
abbrev Env := List Sl
abbrev Sto := List SE
def OwnOk (K : PySem.W.Frag) (F H : Hp) (p : Addr) : Sl → Prop
  | .own ds => ∃ xs, H p = some (.lst xs) ∧ Rps K F ds xs
  | .ownD kvs => ∃ ks, H p = some (.dK ks) ∧ Rkv K F kvs ks
  | .ownT kvs => ∃ ks, H p = some (.dT ks) ∧ Rtv K F kvs ks
  | _ => False
structure Rel (K : PySem.W.Frag) (φ : List Addr) (F : Hp) (env : Env) (st : Sto) (σ : St) (H : Hp) : Prop where
  sub : Le F H
  len : env.length = σ.length
  val : ∀ (i : Nat) d, env[i]? = some (.v d) → ∃ v, σ[i]? = some (some v) ∧ Rp K F d v
  raw : ∀ (i : Nat) x, env[i]? = some (.raw x) → ∃ v, σ[i]? = some (some v) ∧ Rt K F x v
  mt : ∀ (i n : Nat), env[i]? = some (.mt n) → ∃ p, φ[n]? = some p ∧ σ[i]? = some (some (.ref p))
  own : ∀ (i : Nat) sl, env[i]? = some sl → sl.isOwn = true → ∃ p, σ[i]? = some (some (.ref p)) ∧ F p = none ∧ p ∉ φ ∧ OwnOk K F H p sl
  inj : ∀ (i j : Nat) sl sl' x, env[i]? = some sl → sl.isOwn = true → env[j]? = some sl' → sl'.isOwn = true → σ[i]? = some (some x) → σ[j]? = some (some x) → i = j
  slen : φ.length = st.length
  nd : φ.Nodup
  sto : ∀ (k : Nat) p e, φ[k]? = some p → st[k]? = some e → F p = none ∧ SOk K F H p e
structure Grow (F H F' H' : Hp) : Prop where
  f : Le F F'
  h : Le H H'
  new : ∀ p o, F' p = some o → F p = some o ∨ (H p = none ∧ H' p = some o)
section
variable {K : PySem.W.Frag} {φ : List Addr} {F F' H H' : Hp} {env : Env} {st : Sto} {σ : St}
theorem Rkv.mono' (l : LeF F F') {d : List (PD × PD)} {v : List (Key × V)} (h : Rkv K F d v) : Rkv K F' d v := Rkv.mono l h
theorem OwnOk.grow {p : Addr} {sl : Sl} (h : OwnOk K F H p sl) (l : LeF F F') (lh : ∀ o, H p = some o → H' p = some o) : OwnOk K F' H' p sl := by
  cases sl with
  | own ds => obtain ⟨xs, e, r⟩ := h; exact ⟨xs, lh _ e, Rps.mono l r⟩
  | ownD ds => obtain ⟨xs, e, r⟩ := h; exact ⟨xs, lh _ e, Rkv.mono l r⟩
  | ownT ds => obtain ⟨xs, e, r⟩ := h; exact ⟨xs, lh _ e, Rtv.mono l r⟩
  | _ => exact h
theorem OwnOk.there {p : Addr} {sl : Sl} (h : OwnOk K F H p sl) : ∃ o, H p = some o ∧ Wr o := by
  cases sl with
  | own ds => obtain ⟨xs, e, r⟩ := h; exact ⟨_, e, True.intro⟩
  | ownD ds => obtain ⟨xs, e, r⟩ := h; exact ⟨_, e, True.intro⟩
  | ownT ds => obtain ⟨xs, e, r⟩ := h; exact ⟨_, e, True.intro⟩
  | _ => exact h.elim
theorem Rel.grow (R : Rel K φ F env st σ H) (g : Grow F H F' H') : Rel K φ F' env st σ H' := by
  have nn : ∀ p o, H p = some o → F p = none → F' p = none := fun p o e n => by
    cases q : F' p with
    | none => rfl
    | some u =>
      rcases g.new p u q with z | ⟨z, _⟩
      · rw [n] at z; cases z
      · rw [e] at z; cases z
  refine ⟨fun p o e => ?_, R.len, fun i d e => ?_, fun i d e => ?_, R.mt, fun i sl e ho => ?_, R.inj, R.slen, R.nd, fun k p ds e1 e2 => ?_⟩
  · rcases g.new p o e with z | ⟨_, z⟩
    · exact g.h _ _ (R.sub _ _ z)
    · exact z
  · obtain ⟨v, e1, r⟩ := R.val i d e
    exact ⟨v, e1, Rp.mono g.f.f r⟩
  · obtain ⟨v, e1, r⟩ := R.raw i d e
    exact ⟨v, e1, Rt.mono g.f.f r⟩
  · obtain ⟨p, e1, n, np, ok⟩ := R.own i sl e ho
    obtain ⟨o, eo, _⟩ := ok.there
    exact ⟨p, e1, nn p o eo n, np, ok.grow g.f.f fun o e => g.h _ _ e⟩
  · obtain ⟨n, r⟩ := R.sto k p ds e1 e2
    obtain ⟨o, eo⟩ := r.there
    exact ⟨nn p o eo n, r.mono g.f.f fun o e => g.h _ _ e⟩
theorem Grow.refl : Grow F H F H := ⟨Le.refl _, Le.refl _, fun _ _ h => .inl h⟩
theorem upd_some {H : Hp} {p q : Addr} {o u : HO} (h : upd H p o q = some u) : (q = p ∧ o = u) ∨ (q ≠ p ∧ H q = some u) := by
  by_cases e : q = p
  · subst e; rw [upd_same] at h; exact .inl ⟨rfl, Option.some.inj h⟩
  · rw [upd_ne e] at h; exact .inr ⟨e, h⟩
theorem le_upd {H : Hp} {p : Addr} {o : HO} (n : H p = none) : Le H (upd H p o) := fun q u e => by
  rw [upd_ne (ne_of_none e n)]; exact e
/-- a new object, standing still from now on -/
theorem Grow.still {p : Addr} {o : HO} (sub : Le F H) (n : H p = none) : Grow F H (upd F p o) (upd H p o) := by
  have nf : F p = none := by
    cases q : F p with
    | none => rfl
    | some u => have := sub _ _ q; rw [n] at this; cases this
  refine ⟨le_upd nf, le_upd n, fun q u e => ?_⟩
  rcases upd_some e with ⟨rfl, rfl⟩ | ⟨h1, h2⟩
  · exact .inr ⟨n, upd_same⟩
  · exact .inl h2
/-- a new object, left as it may be -/
theorem Grow.loose {p : Addr} {o : HO} (n : H p = none) : Grow F H F (upd H p o) := ⟨Le.refl _, le_upd n, fun _ _ e => .inl e⟩
theorem Rel.none_f (R : Rel K φ F env st σ H) {p : Addr} (n : H p = none) : F p = none := by
  cases q : F p with
  | none => rfl
  | some u => have := R.sub _ _ q; rw [n] at this; cases this
theorem Rel.none_phi (R : Rel K φ F env st σ H) {p : Addr} (n : H p = none) : p ∉ φ := fun hp => by
  obtain ⟨k, hk, e⟩ := List.getElem_of_mem hp
  have hk2 : k < st.length := by rw [← R.slen]; exact hk
  obtain ⟨_, r⟩ := R.sto k p st[k] (by rw [List.getElem?_eq_getElem hk, e]) (List.getElem?_eq_getElem hk2)
  obtain ⟨o, e2⟩ := r.there
  rw [n] at e2; cases e2
theorem Rel.none_own (R : Rel K φ F env st σ H) {p : Addr} (n : H p = none) : ∀ (j : Nat) sl, env[j]? = some sl → sl.isOwn = true → σ[j]? ≠ some (some (.ref p)) := fun j sl e ho z => by
  obtain ⟨q, e1, _, _, ok⟩ := R.own j sl e ho
  rw [z] at e1; cases e1
  obtain ⟨o, eo, _⟩ := ok.there
  rw [n] at eo; cases eo
theorem env_set_some {env : Env} {i j : Nat} {s t : Sl} (h : (env.set i s)[j]? = some t) : (j = i ∧ t = s ∧ i < env.length) ∨ (j ≠ i ∧ env[j]? = some t) := by
  by_cases e : j = i
  · subst e
    by_cases hl : j < env.length
    · rw [List.getElem?_set_self hl] at h; exact .inl ⟨rfl, (Option.some.inj h).symm, hl⟩
    · rw [List.getElem?_eq_none (by simpa using hl)] at h; cases h
  · rw [List.getElem?_set_ne (Ne.symm e)] at h; exact .inr ⟨e, h⟩
/-- a slot is stored -/
theorem Rel.setSlot (R : Rel K φ F env st σ H) {i : Nat} {x : V} {s : Sl} (hv : ∀ d, s = .v d → Rp K F d x) (hr : ∀ y, s = .raw y → Rt K F y x) (hm : ∀ n, s = .mt n → ∃ p, φ[n]? = some p ∧ x = .ref p)
    (ho : s.isOwn = true → ∃ p, x = .ref p ∧ F p = none ∧ p ∉ φ ∧ OwnOk K F H p s ∧ ∀ (j : Nat) sl, j ≠ i → env[j]? = some sl → sl.isOwn = true → σ[j]? ≠ some (some (.ref p))) : Rel K φ F (env.set i s) st (σ.set i (some x)) H := by
  have at_i : ∀ (j : Nat), j = i → i < env.length → (σ.set i (some x))[j]? = some (some x) := fun j e hl => by
    subst e; rw [List.getElem?_set_self (by rw [← R.len]; exact hl)]
  have at_j : ∀ (j : Nat), j ≠ i → (σ.set i (some x))[j]? = σ[j]? := fun j e => List.getElem?_set_ne (Ne.symm e)
  refine ⟨R.sub, by simp [R.len], fun j d e => ?_, fun j y e => ?_, fun j n e => ?_, fun j sl e hs => ?_, fun j k sl sl' y e1 s1 e2 s2 f1 f2 => ?_, R.slen, R.nd, R.sto⟩
  · rcases env_set_some e with ⟨e1, e2, hl⟩ | ⟨e1, e2⟩
    · exact ⟨x, at_i j e1 hl, hv d e2.symm⟩
    · rw [at_j j e1]; exact R.val j d e2
  · rcases env_set_some e with ⟨e1, e2, hl⟩ | ⟨e1, e2⟩
    · exact ⟨x, at_i j e1 hl, hr y e2.symm⟩
    · rw [at_j j e1]; exact R.raw j y e2
  · rcases env_set_some e with ⟨e1, e2, hl⟩ | ⟨e1, e2⟩
    · obtain ⟨p, h1, h2⟩ := hm n e2.symm
      exact ⟨p, h1, by rw [at_i j e1 hl, h2]⟩
    · rw [at_j j e1]; exact R.mt j n e2
  · rcases env_set_some e with ⟨e1, e2, hl⟩ | ⟨e1, e2⟩
    · subst e2
      obtain ⟨p, h1, h2, h3, h4, _⟩ := ho hs
      exact ⟨p, by rw [at_i j e1 hl, h1], h2, h3, h4⟩
    · rw [at_j j e1]; exact R.own j sl e2 hs
  · rcases env_set_some e1 with ⟨a1, a2, al⟩ | ⟨a1, a2⟩
    · rcases env_set_some e2 with ⟨b1, b2, bl⟩ | ⟨b1, b2⟩
      · rw [a1, b1]
      · subst a2
        obtain ⟨p, h1, _, _, _, h5⟩ := ho s1
        rw [at_i j a1 al] at f1
        rw [at_j k b1] at f2
        have ex : y = .ref p := by rw [← h1]; exact (Option.some.inj (Option.some.inj f1)).symm
        rw [ex] at f2
        exact absurd f2 (h5 k sl' b1 b2 s2)
    · rcases env_set_some e2 with ⟨b1, b2, bl⟩ | ⟨b1, b2⟩
      · subst b2
        obtain ⟨p, h1, _, _, _, h5⟩ := ho s2
        rw [at_i k b1 bl] at f2
        rw [at_j j a1] at f1
        have ex : y = .ref p := by rw [← h1]; exact (Option.some.inj (Option.some.inj f2)).symm
        rw [ex] at f1
        exact absurd f1 (h5 j sl a1 a2 s1)
      · rw [at_j j a1] at f1
        rw [at_j k b1] at f2
        exact R.inj j k sl sl' y a2 s1 b2 s2 f1 f2
theorem Rel.set_v (R : Rel K φ F env st σ H) {i : Nat} {x : V} {d : PD} (h : Rp K F d x) : Rel K φ F (env.set i (.v d)) st (σ.set i (some x)) H :=
  R.setSlot (fun d' e => by cases e; exact h) (fun _ e => by cases e) (fun _ e => by cases e) (fun e => by cases e)
/-- a slot is forgotten -/
theorem Rel.kill (R : Rel K φ F env st σ H) (i : Nat) : Rel K φ F (env.set i .un) st σ H := by
  have un : ∀ {j : Nat} {t : Sl}, (env.set i .un)[j]? = some t → t ≠ .un → env[j]? = some t := fun {j t} e n => by
    rcases env_set_some e with ⟨_, e2, _⟩ | ⟨_, e2⟩
    · exact absurd e2 n
    · exact e2
  have ow : ∀ {t : Sl}, t.isOwn = true → t ≠ .un := fun h z => by subst z; cases h
  exact ⟨R.sub, by simp [R.len], fun j d e => R.val j d (un e (by simp)), fun j d e => R.raw j d (un e (by simp)), fun j d e => R.mt j d (un e (by simp)), fun j sl e hs => R.own j sl (un e (ow hs)) hs,
    fun j k sl sl' y e1 s1 e2 s2 f1 f2 => R.inj j k sl sl' y (un e1 (ow s1)) s1 (un e2 (ow s2)) s2 f1 f2, R.slen, R.nd, R.sto⟩
/-- what σ no longer knows the frame forgets -/
theorem Rel.forget (R : Rel K φ F env st σ H) (i : Nat) : Rel K φ F (env.set i .un) st (σ.set i none) H := by
  have un : ∀ {j : Nat} {t : Sl}, (env.set i .un)[j]? = some t → t ≠ .un → j ≠ i ∧ env[j]? = some t := fun {j t} e n => by
    rcases env_set_some e with ⟨_, e2, _⟩ | ⟨e1, e2⟩
    · exact absurd e2 n
    · exact ⟨e1, e2⟩
  have at_j : ∀ (j : Nat), j ≠ i → (σ.set i none)[j]? = σ[j]? := fun j e => List.getElem?_set_ne (Ne.symm e)
  have ow : ∀ {t : Sl}, t.isOwn = true → t ≠ .un := fun h z => by subst z; cases h
  refine ⟨R.sub, by simp [R.len], fun j d e => ?_, fun j d e => ?_, fun j d e => ?_, fun j sl e hs => ?_, fun j k sl sl' y e1 s1 e2 s2 f1 f2 => ?_, R.slen, R.nd, R.sto⟩
  · obtain ⟨a, b⟩ := un e (by simp); rw [at_j j a]; exact R.val j d b
  · obtain ⟨a, b⟩ := un e (by simp); rw [at_j j a]; exact R.raw j d b
  · obtain ⟨a, b⟩ := un e (by simp); rw [at_j j a]; exact R.mt j d b
  · obtain ⟨a, b⟩ := un e (ow hs); rw [at_j j a]; exact R.own j sl b hs
  · obtain ⟨a, b⟩ := un e1 (ow s1)
    obtain ⟨c, d⟩ := un e2 (ow s2)
    rw [at_j j a] at f1; rw [at_j k c] at f2
    exact R.inj j k sl sl' y b s1 d s2 f1 f2
/-- what stands at p changes: p is nothing that the frame, the store, the still part know of, but the slot i -/
theorem Rel.write (R : Rel K φ F env st σ H) {i : Nat} {p : Addr} {s s' : Sl} {o : HO} (e : env[i]? = some s) (hs : s.isOwn = true) (hp : σ[i]? = some (some (.ref p))) (ok : OwnOk K F (upd H p o) p s') (hs' : s'.isOwn = true) :
    Rel K φ F (env.set i s') st σ (upd H p o) := by
  obtain ⟨p', e1, n, np, ok0⟩ := R.own i s e hs
  rw [hp] at e1; cases e1
  have nF : ∀ q u, F q = some u → q ≠ p := fun q u z => ne_of_none z n
  have hil : i < env.length := (List.getElem?_eq_some_iff.mp e).1
  refine ⟨fun q u z => by rw [upd_ne (nF q u z)]; exact R.sub _ _ z, by simp [R.len], fun j d z => ?_, fun j d z => ?_, fun j d z => ?_, fun j sl z hz => ?_, fun j k sl sl' y e1 s1 e2 s2 f1 f2 => ?_, R.slen, R.nd, fun k q ds z1 z2 => ?_⟩
  · rcases env_set_some z with ⟨_, e2, _⟩ | ⟨_, e2⟩
    · rw [← e2] at hs'; cases hs'
    · exact R.val j d e2
  · rcases env_set_some z with ⟨_, e2, _⟩ | ⟨_, e2⟩
    · rw [← e2] at hs'; cases hs'
    · exact R.raw j d e2
  · rcases env_set_some z with ⟨_, e2, _⟩ | ⟨_, e2⟩
    · rw [← e2] at hs'; cases hs'
    · exact R.mt j d e2
  · rcases env_set_some z with ⟨e1, e2, _⟩ | ⟨e1, e2⟩
    · rw [e1, e2]; exact ⟨p, hp, n, np, ok⟩
    · obtain ⟨q, f1, f2, f3, f4⟩ := R.own j sl e2 hz
      have nq : q ≠ p := fun zz => by
        subst zz
        exact e1 (R.inj j i sl s _ e2 hz e hs f1 hp)
      exact ⟨q, f1, f2, f3, f4.grow (LeF.refl _) fun o' e' => by rw [upd_ne nq]; exact e'⟩
  · have old : ∀ {j : Nat} {t : Sl}, (env.set i s')[j]? = some t → t.isOwn = true → ∃ t', env[j]? = some t' ∧ t'.isOwn = true := fun {j t} z hz => by
      rcases env_set_some z with ⟨e1, e2, _⟩ | ⟨e1, e2⟩
      · exact ⟨s, by rw [e1]; exact e, hs⟩
      · exact ⟨t, e2, hz⟩
    obtain ⟨t1, a1, b1⟩ := old e1 s1
    obtain ⟨t2, a2, b2⟩ := old e2 s2
    exact R.inj j k t1 t2 y a1 b1 a2 b2 f1 f2
  · obtain ⟨f1, f2⟩ := R.sto k q ds z1 z2
    have nq : q ≠ p := fun zz => by
      subst zz
      exact np (List.mem_of_getElem? z1)
    exact ⟨f1, f2.at_ne nq⟩
/-- a slot's own thing is frozen -/
theorem Rel.freeze (R : Rel K φ F env st σ H) {i : Nat} {p : Addr} {s : Sl} {ob : Obj} {u : HO} {d : PD} (e : env[i]? = some s) (hs : s.isOwn = true) (hp : σ[i]? = some (some (.ref p))) (hu : H p = some u)
    (ok : Rp K (upd F p (.frz ob u)) d (.ref p)) : Rel K φ (upd F p (.frz ob u)) (env.set i (.v d)) st σ (upd H p (.frz ob u)) := by
  obtain ⟨p', e1, n, np, ok0⟩ := R.own i s e hs
  rw [hp] at e1; cases e1
  have l : Le F (upd F p (.frz ob u)) := le_upd n
  have hil : i < env.length := (List.getElem?_eq_some_iff.mp e).1
  refine ⟨fun q w z => ?_, by simp [R.len], fun j d' z => ?_, fun j d z => ?_, fun j d z => ?_, fun j sl z hz => ?_, fun j k sl sl' y e1 s1 e2 s2 f1 f2 => ?_, R.slen, R.nd, fun k q ds z1 z2 => ?_⟩
  · rcases upd_some z with ⟨rfl, rfl⟩ | ⟨h1, h2⟩
    · exact upd_same
    · rw [upd_ne h1]; exact R.sub _ _ h2
  · rcases env_set_some z with ⟨e1, e2, _⟩ | ⟨_, e2⟩
    · cases e2; exact ⟨.ref p, by rw [e1]; exact hp, ok⟩
    · obtain ⟨v, a, b⟩ := R.val j d' e2; exact ⟨v, a, Rp.mono l.f b⟩
  · rcases env_set_some z with ⟨_, e2, _⟩ | ⟨_, e2⟩
    · cases e2
    · obtain ⟨v, a, b⟩ := R.raw j d e2; exact ⟨v, a, Rt.mono l.f b⟩
  · rcases env_set_some z with ⟨_, e2, _⟩ | ⟨_, e2⟩
    · cases e2
    · exact R.mt j d e2
  · rcases env_set_some z with ⟨e1, e2, _⟩ | ⟨e1, e2⟩
    · subst e2; cases hz
    · obtain ⟨q, f1, f2, f3, f4⟩ := R.own j sl e2 hz
      have nq : q ≠ p := fun zz => by
        subst zz
        exact e1 (R.inj j i sl s _ e2 hz e hs f1 hp)
      exact ⟨q, f1, by rw [upd_ne nq]; exact f2, f3, f4.grow l.f fun o' e' => by rw [upd_ne nq]; exact e'⟩
  · rcases env_set_some e1 with ⟨_, e3, _⟩ | ⟨_, e3⟩
    · subst e3; cases s1
    · rcases env_set_some e2 with ⟨_, e4, _⟩ | ⟨_, e4⟩
      · subst e4; cases s2
      · exact R.inj j k sl sl' y e3 s1 e4 s2 f1 f2
  · obtain ⟨f1, f2⟩ := R.sto k q ds z1 z2
    have nq : q ≠ p := fun zz => by
      subst zz
      exact np (List.mem_of_getElem? z1)
    exact ⟨by rw [upd_ne nq]; exact f1, (f2.mono l.f fun _ h => h).at_ne nq⟩
/-- the store's list at k changes -/
theorem Rel.writeSto (R : Rel K φ F env st σ H) {k : Nat} {p : Addr} {ds : List PD} {xs : List V} (e : φ[k]? = some p) (r : Rps K F ds xs) : Rel K φ F env (st.set k (.l ds)) σ (upd H p (.lst xs)) := by
  have hk : k < st.length := by rw [← R.slen]; exact (List.getElem?_eq_some_iff.mp e).1
  obtain ⟨n, e0⟩ := R.sto k p st[k] e (List.getElem?_eq_getElem hk)
  refine ⟨fun q u z => by rw [upd_ne (ne_of_none z n)]; exact R.sub _ _ z, R.len, R.val, R.raw, R.mt, fun j sl z hz => ?_, R.inj, by simp [R.slen], R.nd, fun j q es z1 z2 => ?_⟩
  · obtain ⟨q, f1, f2, f3, f4⟩ := R.own j sl z hz
    have nq : q ≠ p := fun zz => by
      subst zz
      exact f3 (List.mem_of_getElem? e)
    exact ⟨q, f1, f2, f3, f4.grow (LeF.refl _) fun o' e' => by rw [upd_ne nq]; exact e'⟩
  · by_cases hj : j = k
    · subst hj
      rw [e] at z1; cases z1
      rw [List.getElem?_set_self hk] at z2; cases z2
      exact ⟨n, xs, upd_same, r⟩
    · rw [List.getElem?_set_ne (Ne.symm hj)] at z2
      obtain ⟨f1, f2⟩ := R.sto j q es z1 z2
      have nq : q ≠ p := fun zz => by
        subst zz
        have h1 := (List.getElem?_eq_some_iff.mp z1)
        have h2 := (List.getElem?_eq_some_iff.mp e)
        obtain ⟨l1, g1⟩ := h1
        obtain ⟨l2, g2⟩ := h2
        exact hj ((List.getElem_inj R.nd).mp (g1.trans g2.symm))
      exact ⟨f1, f2.at_ne nq⟩
/-- what the frame does not know changes or comes -/
theorem Rel.other (R : Rel K φ F env st σ H) {p : Addr} {o : HO} (n : F p = none) (np : p ∉ φ) (no : ∀ (j : Nat) sl, env[j]? = some sl → sl.isOwn = true → σ[j]? ≠ some (some (.ref p))) : Rel K φ F env st σ (upd H p o) := by
  refine ⟨fun q u z => by rw [upd_ne (ne_of_none z n)]; exact R.sub _ _ z, R.len, R.val, R.raw, R.mt, fun j sl z hz => ?_, R.inj, R.slen, R.nd, fun j q es z1 z2 => ?_⟩
  · obtain ⟨q, f1, f2, f3, f4⟩ := R.own j sl z hz
    have nq : q ≠ p := fun zz => by
      subst zz
      exact no j sl z hz f1
    exact ⟨q, f1, f2, f3, f4.grow (LeF.refl _) fun o' e' => by rw [upd_ne nq]; exact e'⟩
  · obtain ⟨f1, f2⟩ := R.sto j q es z1 z2
    have nq : q ≠ p := fun zz => by
      subst zz
      exact np (List.mem_of_getElem? z1)
    exact ⟨f1, f2.at_ne nq⟩
/-- a loose thing is made still -/
theorem Rel.still (R : Rel K φ F env st σ H) {p : Addr} {o : HO} (n : F p = none) (np : p ∉ φ) (no : ∀ (j : Nat) sl, env[j]? = some sl → sl.isOwn = true → σ[j]? ≠ some (some (.ref p))) : Rel K φ (upd F p o) env st σ (upd H p o) := by
  have l : Le F (upd F p o) := le_upd n
  refine ⟨fun q u z => ?_, R.len, fun j d' z => ?_, fun j d' z => ?_, R.mt, fun j sl z hz => ?_, R.inj, R.slen, R.nd, fun j q es z1 z2 => ?_⟩
  · rcases upd_some z with ⟨rfl, rfl⟩ | ⟨h1, h2⟩
    · exact upd_same
    · rw [upd_ne h1]; exact R.sub _ _ h2
  · obtain ⟨v, a, b⟩ := R.val j d' z; exact ⟨v, a, Rp.mono l.f b⟩
  · obtain ⟨v, a, b⟩ := R.raw j d' z; exact ⟨v, a, Rt.mono l.f b⟩
  · obtain ⟨q, f1, f2, f3, f4⟩ := R.own j sl z hz
    have nq : q ≠ p := fun zz => by
      subst zz
      exact no j sl z hz f1
    exact ⟨q, f1, by rw [upd_ne nq]; exact f2, f3, f4.grow l.f fun o' e' => by rw [upd_ne nq]; exact e'⟩
  · obtain ⟨f1, f2⟩ := R.sto j q es z1 z2
    have nq : q ≠ p := fun zz => by
      subst zz
      exact np (List.mem_of_getElem? z1)
    exact ⟨by rw [upd_ne nq]; exact f1, (f2.mono l.f fun _ h => h).at_ne nq⟩
end

/-! ### the pure side's steps -/
inductive Res (α : Type) where
  | ok (a : α) (env : Env) (st : Sto)
  | exc (c : String) (env : Env) (st : Sto)
  | bad
abbrev M (α : Type) := Env → Sto → Res α
def ret {α : Type} (a : α) : M α := fun env st => .ok a env st
def bnd {α β : Type} (m : M α) (f : α → M β) : M β := fun env st => match m env st with
  | .ok a env1 st1 => f a env1 st1
  | .exc c env1 st1 => .exc c env1 st1
  | .bad => .bad
def bad {α : Type} : M α := fun _ _ => .bad
/-- a value if there is one -/
def opt {α : Type} : Option α → M α
  | some a => ret a
  | none => bad
inductive Flow where
  | nx | rt (d : PD) | rtm (n : Nat) | bk | ct
def Post {α : Type} (X : Cx) (W : WX) (σ : St) (φ : List Addr) (F : Hp) (r : Res α) (Q : α → List Addr → Hp → Env → Sto → Hp → Prop) : Prop :=
  match r with
  | .ok a env st => ∀ φ' F' H', φ <+: φ' → Le F F' → Rel X.K φ' F' env st σ H' → Q a φ' F' env st H'
  | .exc c env st => ∀ φ' F' H' C od, φ <+: φ' → Le F F' → Rel X.K φ' F' env st σ H' → X.mg (PySem.Str.ofString c) = some (.ref C) → W (.ref C) od σ H'
  | .bad => False
theorem Post.bnd {α β : Type} {X : Cx} {W : WX} {σ : St} {φ : List Addr} {F : Hp} {m : M α} {f : α → M β} {env : Env} {st : Sto} {Q : β → List Addr → Hp → Env → Sto → Hp → Prop}
    (h : Post X W σ φ F (bnd m f env st) Q) : Post X W σ φ F (m env st) fun a φ1 F1 env1 st1 H1 => Post X W σ φ1 F1 (f a env1 st1) Q := by
  unfold TL.bnd at h
  cases e : m env st with
  | ok a env1 st1 =>
    rw [e] at h
    intro φ1 F1 H1 p1 l1 R1
    show Post X W σ φ1 F1 (f a env1 st1) Q
    simp only at h
    cases e2 : f a env1 st1 with
    | ok b env2 st2 =>
      rw [e2] at h
      exact fun φ2 F2 H2 p2 l2 R2 => h φ2 F2 H2 (p1.trans p2) (l1.trans l2) R2
    | exc c env2 st2 =>
      rw [e2] at h
      exact fun φ2 F2 H2 C od p2 l2 R2 => h φ2 F2 H2 C od (p1.trans p2) (l1.trans l2) R2
    | bad => rw [e2] at h; exact h
  | exc c env1 st1 =>
    rw [e] at h
    exact h
  | bad => rw [e] at h; exact h
theorem Post.mono {α : Type} {X : Cx} {W : WX} {σ : St} {φ : List Addr} {F : Hp} {r : Res α} {Q Q' : α → List Addr → Hp → Env → Sto → Hp → Prop} (h : Post X W σ φ F r Q)
    (k : ∀ a φ' F' env st H', φ <+: φ' → Le F F' → Rel X.K φ' F' env st σ H' → Q a φ' F' env st H' → Q' a φ' F' env st H') : Post X W σ φ F r Q' := by
  cases r with
  | ok a env st => exact fun φ' F' H' p l R => k _ _ _ _ _ _ p l R (h φ' F' H' p l R)
  | exc c env st => exact h
  | bad => exact h
end TL

namespace TL
open PySem PySem.Spec L2
open PyProof.Rows hiding St

theorem PE.imp {X : Cx} {e : Expr} {t t' : TE} (h : PE X e t) (i : ∀ σ H Q, t' σ H Q → t σ H Q) : PE X e t' := ⟨fun pins s σ H Q I hq => h.run pins s σ H Q I (i σ H Q hq)⟩
theorem PT.imp {X : Cx} {e : Expr} {t t' : TT} (h : PT X e t) (i : ∀ σ H Q, t' σ H Q → t σ H Q) : PT X e t' := ⟨fun pins s σ H Q I hq => h.run pins s σ H Q I (i σ H Q hq)⟩
theorem PA.imp {X : Cx} {e : List Expr} {t t' : TA} (h : PA X e t) (i : ∀ σ H Q, t' σ H Q → t σ H Q) : PA X e t' := ⟨fun pos pins s σ H Q I hq => h.run pos pins s σ H Q I (i σ H Q hq)⟩
theorem PS.imp {X : Cx} {e : Stmt} {t t' : TS} (h : PS X e t) (i : ∀ D σ H, t' D σ H → t D σ H) : PS X e t' := ⟨fun pins s σ H D I hq => h.run pins s σ H D I (i D σ H hq)⟩
theorem PSs.imp {X : Cx} {e : List Stmt} {t t' : TS} (h : PSs X e t) (i : ∀ D σ H, t' D σ H → t D σ H) : PSs X e t' := ⟨fun pins s σ H D I hq => h.run pins s σ H D I (i D σ H hq)⟩

/-! ### freezing what was made -/
def Fz (Q : VK) : VK := fun v H => Q v H ∨ ∃ p u, v = .ref p ∧ H p = some u ∧ Mut (some u) ∧ ∀ o, Q v (upd H p (.frz o u))
theorem EP.fz {X : Cx} {pins : List (Addr × Obj)} {σ : L2.St} {Q : VK} {u : Value} {s : Shared} (h : EP X pins σ (Fz Q) u s) : EP X pins σ Q u s := by
  obtain ⟨v, H, I, r, q⟩ := h
  rcases q with q | ⟨p, o, rfl, e, mu, q⟩
  · exact ⟨v, H, I, r, q⟩
  · obtain ⟨od, I1⟩ := I.lock e mu
    exact ⟨_, _, I1, r, q od⟩
theorem PE.fz {X : Cx} {e : Expr} {t : TE} (h : PE X e t) : PE X e (fun σ H Q => t σ H (Fz Q)) :=
  ⟨fun pins s σ H Q I hq => thn (h.run pins s σ H _ I hq) fun _ _ q => EP.fz q⟩
theorem OpR.fz {X : Cx} {f : Value → Value → Sem Value} {r : R2} (h : OpR X f r) : OpR X f (fun x y H Q => r x y H (Fz Q)) :=
  fun pins s σ H x y v u Q I r1 r2 hq => thn (h pins s σ H x y v u _ I r1 r2 hq) fun _ _ q => EP.fz q
theorem CallR.fz {X : Cx} {f : Value} {r : List V → Hp → VK → Prop} (h : CallR X f r) : CallR X f (fun xs H Q => r xs H (Fz Q)) :=
  fun pins s σ H xs us Q I r1 hq => thn (h pins s σ H xs us _ I r1 hq) fun _ _ q => EP.fz q

/-! ### expressions -/
def tE (X : Cx) (W : WX) (m : M PD) : TE := fun σ H Q => ∃ φ F env st, Rel X.K φ F env st σ H ∧ Post X W σ φ F (m env st) fun d _ F' _ _ H' => ∀ v, Rp X.K F' d v → Q v H'
abbrev JE (X : Cx) (W : WX) (e : Expr) (m : M PD) : Prop := PE X e (tE X W m)
def tBo (X : Cx) (W : WX) (m : M Bool) : TT := fun σ H Q => ∃ φ F env st, Rel X.K φ F env st σ H ∧ Post X W σ φ F (m env st) fun b _ _ _ _ H' => Q b H'
abbrev JB (X : Cx) (W : WX) (e : Expr) (m : M Bool) : Prop := PT X e (tBo X W m)
def tDs (X : Cx) (W : WX) (m : M (List PD)) : TA := fun σ H Q => ∃ φ F env st, Rel X.K φ F env st σ H ∧ Post X W σ φ F (m env st) fun ds _ F' _ _ H' => ∀ vs, Rps X.K F' ds vs → Q vs H'
abbrev JDs (X : Cx) (W : WX) (es : List Expr) (m : M (List PD)) : Prop := PA X es (tDs X W m)
/-- an argument: data, a thing as it is, a list of the store -/
inductive Ag where
  | d (x : PD) | raw (v : Tg) | mt (n : Nat)
def Ra (K : PySem.W.Frag) (φ : List Addr) (F : Hp) : Ag → V → Prop
  | .d x, v => Rp K F x v
  | .raw y, v => Rt K F y v
  | .mt n, v => ∃ p, φ[n]? = some p ∧ v = .ref p
inductive Ras (K : PySem.W.Frag) (φ : List Addr) (F : Hp) : List Ag → List V → Prop
  | nil : Ras K φ F [] []
  | cons {a : Ag} {v : V} {as : List Ag} {vs : List V} : Ra K φ F a v → Ras K φ F as vs → Ras K φ F (a :: as) (v :: vs)
def tAg (X : Cx) (W : WX) (m : M Ag) : TE := fun σ H Q => ∃ φ F env st, Rel X.K φ F env st σ H ∧ Post X W σ φ F (m env st) fun d φ' F' _ _ H' => ∀ v, Ra X.K φ' F' d v → Q v H'
abbrev JG (X : Cx) (W : WX) (e : Expr) (m : M Ag) : Prop := PE X e (tAg X W m)
def tAs (X : Cx) (W : WX) (m : M (List Ag)) : TA := fun σ H Q => ∃ φ F env st, Rel X.K φ F env st σ H ∧ Post X W σ φ F (m env st) fun ds φ' F' _ _ H' => ∀ vs, Ras X.K φ' F' ds vs → Q vs H'
abbrev JAs (X : Cx) (W : WX) (es : List Expr) (m : M (List Ag)) : Prop := PA X es (tAs X W m)
section
variable {K : PySem.W.Frag} {φ φ' : List Addr} {F F' H : Hp}
theorem pre_get {φ φ' : List Addr} {n : Nat} {p : Addr} (h : φ <+: φ') (e : φ[n]? = some p) : φ'[n]? = some p := by
  obtain ⟨t, rfl⟩ := h
  rw [List.getElem?_append_left (List.getElem?_eq_some_iff.mp e).1]; exact e
theorem Ra.mono {a : Ag} {v : V} (h : Ra K φ F a v) (p : φ <+: φ') (l : LeF F F') : Ra K φ' F' a v := by
  cases a with
  | d x => exact Rp.mono l h
  | raw y => exact Rt.mono l h
  | mt n => obtain ⟨q, e, r⟩ := h; exact ⟨q, pre_get p e, r⟩
theorem Ras.mono {a : List Ag} {v : List V} (h : Ras K φ F a v) (p : φ <+: φ') (l : LeF F F') : Ras K φ' F' a v := by
  induction h with
  | nil => exact .nil
  | cons r _ ih => exact .cons (r.mono p l) ih
theorem Ras.length {a : List Ag} {v : List V} (h : Ras K φ F a v) : v.length = a.length := by
  induction h with
  | nil => rfl
  | cons r _ ih => simp [ih]
end
section
variable {X : Cx} {W : WX}
/-! names and constants -/
def mC (d : PD) : M PD := ret d
theorem je_int {i : Int} {j pos} : JE X W (.Constant (.int i) j pos) (mC (.int i)) := PE.imp pe_int fun σ H Q ⟨φ, F, env, st, R, h⟩ => h φ F H (List.prefix_refl _) (Le.refl _) R _ (.int i)
theorem je_bl {i : Bool} {j pos} : JE X W (.Constant (.bool i) j pos) (mC (.bool i)) := PE.imp pe_bl fun σ H Q ⟨φ, F, env, st, R, h⟩ => h φ F H (List.prefix_refl _) (Le.refl _) R _ (.bl i)
theorem je_non {j pos} : JE X W (.Constant .none j pos) (mC .none) := PE.imp pe_non fun σ H Q ⟨φ, F, env, st, R, h⟩ => h φ F H (List.prefix_refl _) (Le.refl _) R _ .non
theorem je_str {x : Str} {j pos} : JE X W (.Constant (.str x) j pos) (mC (.str x)) := PE.imp pe_str fun σ H Q ⟨φ, F, env, st, R, h⟩ => h φ F H (List.prefix_refl _) (Le.refl _) R _ (.str x)
/-- a name: what is its own is frozen by this -/
def mVar (i : Nat) : M PD := fun env st => match env[i]? with
  | some (.v d) => .ok d env st
  | some (.own ds) => .ok (.list ds) (env.set i (.v (.list ds))) st
  | some (.ownD ds) => .ok (.dict ds) (env.set i (.v (.dict ds))) st
  | some (.ownT ds) => .ok (.dict ds) (env.set i (.v (.dict ds))) st
  | _ => .bad
theorem je_var {i : Nat} {x : Str} {pos : Pos} (h : PE X (.Name x pos) (tVar i)) : JE X W (.Name x pos) (mVar i) := by
  refine PE.imp (PE.fz h) fun σ H Q hq => ?_
  obtain ⟨φ, F, env, st, R, h⟩ := hq
  unfold mVar at h
  have fr : ∀ {s : Sl} {d : PD}, env[i]? = some s → s.isOwn = true → (∀ p u, F p = none → OwnOk X.K F H p s → H p = some u → ∀ o, Rp X.K (upd F p (.frz o u)) d (.ref p)) →
      Post X W σ φ F (Res.ok d (env.set i (.v d)) st) (fun d _ F' _ _ H' => ∀ v, Rp X.K F' d v → Q v H') → tVar i σ H (Fz Q) := by
    intro s d e ho hrp hpost
    obtain ⟨p, e1, n, np, ok⟩ := R.own i s e ho
    obtain ⟨u, eu, mu⟩ := ok.there
    exact ⟨.ref p, e1, .inr ⟨p, u, rfl, eu, mu.mut, fun o => hpost φ _ _ (List.prefix_refl _) (le_upd n) (R.freeze e ho e1 eu (hrp p u n ok eu o)) _ (hrp p u n ok eu o)⟩⟩
  cases e : env[i]? with
  | none => rw [e] at h; exact h.elim
  | some s =>
    rw [e] at h
    cases s with
    | v d =>
      obtain ⟨v, e1, r⟩ := R.val i d e
      exact ⟨v, e1, .inl (h φ F H (List.prefix_refl _) (Le.refl _) R _ r)⟩
    | own ds =>
      refine fr e rfl (fun p u n ok eu o => ?_) h
      obtain ⟨xs, e2, r⟩ := ok
      rw [eu] at e2; cases e2
      exact .lst ⟨o, upd_same⟩ (Rps.mono (le_upd n).f r)
    | ownD ds =>
      refine fr e rfl (fun p u n ok eu o => ?_) h
      obtain ⟨xs, e2, r⟩ := ok
      rw [eu] at e2; cases e2
      exact .dct upd_same (Rkv.mono (le_upd n).f r)
    | ownT ds =>
      refine fr e rfl (fun p u n ok eu o => ?_) h
      obtain ⟨xs, e2, r⟩ := ok
      rw [eu] at e2; cases e2
      exact .dctT upd_same (Rtv.mono (le_upd n).f r)
    | un => exact h.elim
    | raw y => exact h.elim
    | mt n => exact h.elim
end
end TL

namespace TL
open PySem PySem.Spec L2
open PyProof.Rows hiding St

theorem opt_post {α : Type} {X : Cx} {W : WX} {σ : L2.St} {φ : List Addr} {F : Hp} {o : Option α} {env : Env} {st : Sto} {Q : α → List Addr → Hp → Env → Sto → Hp → Prop} (h : Post X W σ φ F (opt o env st) Q) :
    ∃ c, o = some c ∧ ∀ φ' F' H', φ <+: φ' → Le F F' → Rel X.K φ' F' env st σ H' → Q c φ' F' env st H' := by
  cases o with
  | none => exact h.elim
  | some c => exact ⟨c, rfl, h⟩
/-- the end of a step whose answer is data -/
def EndD (K : PySem.W.Frag) (F H : Hp) (c : PD) (Q : VK) : Prop := ∀ F' H' v, Grow F H F' H' → Rp K F' c v → Q v H'
theorem EndD.imm {K : PySem.W.Frag} {F H : Hp} {c : PD} {Q : VK} {v : V} (h : EndD K F H c Q) (r : Rp K F c v) : Q v H := h F H v Grow.refl r
/-- a new tuple -/
theorem EndD.tup {K : PySem.W.Frag} {F H : Hp} {ds : List PD} {xs : List V} {Q : VK} {p : Addr} (sub : Le F H) (h : EndD K F H (.tuple ds) Q) (r : Rps K F ds xs) (n : H p = none) : Q (.ref p) (upd H p (.tup xs)) := by
  have g : Grow F H (upd F p (.tup xs)) (upd H p (.tup xs)) := Grow.still sub n
  exact h _ _ _ g (.tup (.inl (.inl upd_same)) (Rps.mono g.f.f r))
/-- a new list, frozen -/
theorem EndD.lst {K : PySem.W.Frag} {F H : Hp} {ds : List PD} {xs : List V} {Q : VK} {p : Addr} (sub : Le F H) (h : EndD K F H (.list ds) Q) (r : Rps K F ds xs) (n : H p = none) : Fz Q (.ref p) (upd H p (.lst xs)) := by
  refine .inr ⟨p, _, rfl, upd_same, True.intro, fun o => ?_⟩
  rw [upd_upd]
  have g : Grow F H (upd F p (.frz o (.lst xs))) (upd H p (.frz o (.lst xs))) := Grow.still sub n
  exact h _ _ _ g (.lst ⟨o, upd_same⟩ (Rps.mono g.f.f r))
theorem EndD.dct {K : PySem.W.Frag} {F H : Hp} {ds : List (PD × PD)} {xs : List (Key × V)} {Q : VK} {p : Addr} (sub : Le F H) (h : EndD K F H (.dict ds) Q) (r : Rkv K F ds xs) (n : H p = none) : Fz Q (.ref p) (upd H p (.dK xs)) := by
  refine .inr ⟨p, _, rfl, upd_same, True.intro, fun o => ?_⟩
  rw [upd_upd]
  have g : Grow F H (upd F p (.frz o (.dK xs))) (upd H p (.frz o (.dK xs))) := Grow.still sub n
  exact h _ _ _ g (.dct upd_same (Rkv.mono g.f.f r))
/-! ### operators by data -/
def rD (K : PySem.W.Frag) (g : PD → PD → Option PD) : R2 := fun x y H Q => ∃ F a b c, Le F H ∧ Rp K F a x ∧ Rp K F b y ∧ g a b = some c ∧ EndD K F H c Q
def mBin (g : PD → PD → Option PD) (ma mb : M PD) : M PD := bnd ma fun a => bnd mb fun b => opt (g a b)
section
variable {X : Cx} {W : WX}
theorem post2 {σ : L2.St} {H : Hp} {α : Type} {ma mb : M PD} {k : PD → PD → M α} {φ : List Addr} {F : Hp} {env : Env} {st : Sto} {Q : α → List Addr → Hp → Env → Sto → Hp → Prop} {R : V → V → Hp → Prop} (Rr : Rel X.K φ F env st σ H)
    (h : Post X W σ φ F ((bnd ma fun a => bnd mb fun b => k a b) env st) Q)
    (fin : ∀ a b x y φ2 F2 env2 st2 H2, Rel X.K φ2 F2 env2 st2 σ H2 → Rp X.K F2 a x → Rp X.K F2 b y → Post X W σ φ2 F2 (k a b env2 st2) Q → R x y H2) :
    tE X W ma σ H fun x H1 => tE X W mb σ H1 fun y H2 => R x y H2 := by
  refine ⟨φ, F, env, st, Rr, (Post.bnd h).mono fun a φ1 F1 env1 st1 H1 p1 l1 R1 h1 x rx => ?_⟩
  refine ⟨φ1, F1, env1, st1, R1, (Post.bnd h1).mono fun b φ2 F2 env2 st2 H2 p2 l2 R2 h2 y ry => ?_⟩
  exact fin a b x y φ2 F2 env2 st2 H2 R2 (Rp.mono l2.f rx) ry h2
theorem je_bin {a b : Expr} {op : Operator} {pos : Pos} {g : PD → PD → Option PD} {ma mb : M PD} (ho : OpR X (binaryOp op) (rD X.K g)) (ha : JE X W a ma) (hb : JE X W b mb) : JE X W (.BinOp a op b pos) (mBin g ma mb) := by
  refine PE.imp (pe_op ho ha hb) fun σ H Q ⟨φ, F, env, st, R, h⟩ => post2 R h fun a b x y φ2 F2 env2 st2 H2 R2 rx ry h2 => ?_
  obtain ⟨c, e, q⟩ := opt_post h2
  exact ⟨F2, a, b, c, R2.sub, rx, ry, e, fun F' H' v g r => q φ2 F' H' (List.prefix_refl _) g.f (R2.grow g) v r⟩
theorem OpR.mk {f : Value → Value → Sem Value} {r r' : R2} (h : OpR X f r) (i : ∀ x y H Q, r' x y H Q → r x y H Q) : OpR X f r' := fun pins s σ H x y v u Q I r1 r2 hq => h pins s σ H x y v u Q I r1 r2 (i x y H Q hq)
/-- the writers of rules: one case for each pair of kinds -/
theorem OpR.cases {f : Value → Value → Sem Value} {r : R2} (h : ∀ x y H Q, r x y H Q → ∃ r', OpR X f r' ∧ r' x y H Q) : OpR X f r := fun pins s σ H x y v u Q I r1 r2 hq => by
  obtain ⟨r', h1, h2⟩ := h x y H Q hq
  exact h1 pins s σ H x y v u Q I r1 r2 h2

def pyAdd : PD → PD → Option PD
  | .int i, .int j => some (.int (i + j))
  | .str x, .str y => if x.length + y.length ≤ 1000000 then some (.str (x ++ y)) else none
  | .list xs, .list ys => if xs.length + ys.length ≤ 1000000 then some (.list (xs ++ ys)) else none
  | .tuple xs, .tuple ys => if xs.length + ys.length ≤ 1000000 then some (.tuple (xs ++ ys)) else none
  | _, _ => none
def pySub : PD → PD → Option PD
  | .int i, .int j => some (.int (i - j))
  | _, _ => none
/-- a truth that no one reckons out -/
noncomputable def cl (p : Prop) : Bool := @decide p (Classical.propDecidable p)
theorem cl_t {p : Prop} (h : p) : cl p = true := @decide_eq_true p (Classical.propDecidable p) h
theorem cl_of {p : Prop} (h : cl p = true) : p := @of_decide_eq_true p (Classical.propDecidable p) h
def MulOk (i j : Int) : Prop := (-(2 ^ 64) < i ∧ i < 2 ^ 64) ∨ (-(2 ^ 64) < j ∧ j < 2 ^ 64) ∨ (i.natAbs < 2 ^ 100000 ∧ j.natAbs < 2 ^ 100000)
noncomputable def mulOk (i j : Int) : Bool := cl (MulOk i j)
noncomputable def pyMul : PD → PD → Option PD
  | .int i, .int j => if mulOk i j = true then some (.int (i * j)) else none
  | .tuple xs, .int k => if xs ≠ [] ∧ 2 ≤ k ∧ k ≤ 1000 ∧ xs.length ≤ 1000 then some (.tuple (List.replicate k.toNat xs).flatten) else none
  | _, _ => none
noncomputable def pyFdiv : PD → PD → Option PD
  | .int i, .int j => if cl (0 < j ∧ j < 1073741824) = true then some (.int (i / j)) else if cl (j ≠ 0 ∧ j.natAbs < 1073741824) = true then some (.int (i.fdiv j)) else if cl (0 < j ∧ j < 2 ^ 9000 ∧ i.natAbs < 2 ^ 100000) = true then some (.int (i / j)) else none
  | _, _ => none
def pyMod : PD → PD → Option PD
  | .int i, .int j => if 0 < j then some (.int (i % j)) else if j ≠ 0 then some (.int (i.fmod j)) else none
  | _, _ => none
theorem lim_le {n : Nat} (h : n ≤ 1000000) : n ≤ sizeLine := by rw [sizeLine_eq]; omega
theorem lim_lt {n : Nat} (h : n ≤ 1000000) : n < sizeLine := by rw [sizeLine_eq]; omega
theorem Rps.nil_iff {K : PySem.W.Frag} {F : Hp} {ds : List PD} {vs : List V} (r : Rps K F ds vs) : vs = [] ↔ ds = [] := by
  cases r with
  | nil => exact ⟨fun _ => rfl, fun _ => rfl⟩
  | cons _ _ => exact ⟨fun z => by simp at z, fun z => by simp at z⟩

theorem rep_rps {K : PySem.W.Frag} {F : Hp} {ds : List PD} {vs : List V} (r : Rps K F ds vs) : ∀ n, Rps K F (List.replicate n ds).flatten (List.replicate n vs).flatten
  | 0 => .nil
  | n + 1 => by
    rw [List.replicate_succ, List.replicate_succ, List.flatten_cons, List.flatten_cons]
    exact r.append (rep_rps r n)
/-- list + list, whatever lists -/
def rCatL (K : PySem.W.Frag) : R2 := fun x y H Q => ∃ l b xs zs, x = .ref l ∧ y = .ref b ∧ Rd H l (.lst xs) ∧ Rd H b (.lst zs) ∧ xs.length + zs.length ≤ sizeLine ∧ ∀ p, H p = none → Q (.ref p) (upd H p (.lst (xs ++ zs)))
theorem rdL {pins : List (Addr × Obj)} {σ : L2.St} {H : Hp} {s : Shared} {a : Addr} {xs : List V} (I : Inv X pins σ H s) (h : Rd H a (.lst xs)) : xs.length ≤ sizeLine ∧ ∃ (its : List Value) (n : Nat), Vals xs its ∧ xs.length = its.length ∧ s.heap.get? a = some { cls := .type "list", data := .seq its.toArray n } := by
  obtain ⟨z, its, n, r, e⟩ := h.ok I.hok
  exact ⟨z, its, n, r, r.length, e⟩
theorem op_catL : OpR X (binaryOp .Add) (rCatL X.K) := by
  intro pins s σ H x y v u Q I rx ry h
  obtain ⟨l, b, xs, zs, rfl, rfl, hH, hB, hz, q⟩ := h
  cases rx
  cases ry
  obtain ⟨z, its, n, r, hl, e⟩ := rdL I hH
  obtain ⟨z2, its2, n2, r2, hl2, e2⟩ := rdL I hB
  refine PySem.P.add_list e e2 ?_ (by rw [List.size_toArray, List.size_toArray]; omega)
  have ea : its.toArray ++ its2.toArray = (its ++ its2).toArray := by simp
  rw [ea]
  exact ⟨.ref _, _, I.lnew (t' := s.toks) (r.append r2) (by rw [List.length_append]; omega), rfl, q _ I.fresh⟩
theorem op_addD : OpR X (binaryOp .Add) (rD X.K pyAdd) := by
  refine OpR.cases fun x y H Q hh => ?_
  obtain ⟨F, a, b, c, sub, ra, rb, e, q⟩ := hh
  cases ra <;> cases rb <;> simp only [pyAdd, reduceCtorEq] at e
  case int.int i j => cases e; exact ⟨_, op_add, i, j, rfl, rfl, q.imm (.int _)⟩
  case str.str i j =>
    split at e
    · rename_i hz
      cases e; exact ⟨_, op_add_str, i, j, rfl, rfl, lim_le hz, q.imm (.str _)⟩
    · cases e
  case lst.lst a xs ds h r b ys es h2 r2 =>
    split at e
    · rename_i hz
      cases e
      refine ⟨_, OpR.fz op_catL, a, b, xs, ys, rfl, rfl, h.rd sub, h2.rd sub, lim_le (by rw [r.length, r2.length]; exact hz), fun p n => q.lst sub (r.append r2) n⟩
    · cases e
  case tup.tup a xs ds h r b ys es h2 r2 =>
    split at e
    · rename_i hz
      cases e
      refine ⟨_, op_catA, a, b, xs, ys, rfl, rfl, sqT_mono h sub.f, sqT_mono h2 sub.f, lim_le (by rw [r.length, r2.length]; exact hz), fun z => ?_, fun z1 z2 => ?_, fun z1 z2 p n => q.tup sub (r.append r2) n⟩
      · have : ds = [] := r.nil_iff.mp z
        subst this
        exact q.imm (.tup h2 (by simpa using r2))
      · have : es = [] := r2.nil_iff.mp z2
        subst this
        exact q.imm (.tup h (by simpa using r))
    · cases e
theorem op_subD : OpR X (binaryOp .Sub) (rD X.K pySub) := by
  refine OpR.cases fun x y H Q hh => ?_
  obtain ⟨F, a, b, c, sub, ra, rb, e, q⟩ := hh
  cases ra <;> cases rb <;> simp only [pySub, reduceCtorEq] at e
  case int.int i j => cases e; exact ⟨_, op_sub, i, j, rfl, rfl, q.imm (.int _)⟩
theorem op_modD : OpR X (binaryOp .Mod) (rD X.K pyMod) := by
  refine OpR.cases fun x y H Q hh => ?_
  obtain ⟨F, a, b, c, sub, ra, rb, e, q⟩ := hh
  cases ra <;> cases rb <;> simp only [pyMod, reduceCtorEq] at e
  case int.int i j =>
    split at e
    · rename_i hj
      cases e; exact ⟨_, op_mod, i, j, rfl, rfl, hj, q.imm (.int _)⟩
    · split at e
      · rename_i hj
        cases e; exact ⟨_, op_modN, i, j, rfl, rfl, hj, q.imm (.int _)⟩
      · cases e
theorem natAbs_wide {i : Int} (h : i.natAbs < 2 ^ 100000) : i.natAbs.log2 < 500000 := by
  by_cases z : i.natAbs = 0
  · rw [z]; decide
  · exact Nat.lt_of_lt_of_le ((Nat.log2_lt z).mpr h) (by decide)
theorem op_mulD : OpR X (binaryOp .Mult) (rD X.K pyMul) := by
  refine OpR.cases fun x y H Q hh => ?_
  obtain ⟨F, a, b, c, sub, ra, rb, e, q⟩ := hh
  cases ra <;> cases rb <;> simp only [pyMul, reduceCtorEq] at e
  case int.int i j =>
    split at e
    · rename_i hz
      cases e
      rcases cl_of hz with hz | hz | hz
      · exact ⟨_, op_mul, i, j, rfl, rfl, .inl hz, q.imm (.int _)⟩
      · exact ⟨_, op_mul, i, j, rfl, rfl, .inr hz, q.imm (.int _)⟩
      · refine ⟨_, op_mulW, i, j, rfl, rfl, ?_, q.imm (.int _)⟩
        have h1 := natAbs_wide hz.1
        have h2 := natAbs_wide hz.2
        unfold CMulW
        omega
    · cases e
  case tup.int a xs ds h r k =>
    split at e
    · rename_i hz
      cases e
      obtain ⟨z1, z2, z3, z4⟩ := hz
      refine ⟨_, op_repT, a, k, xs, rfl, rfl, sqT_mono h sub.f, fun z => z1 (r.nil_iff.mp z), z2, z3, by rw [r.length]; exact z4, fun p n => q.tup sub (rep_rps r _) n⟩
    · cases e
theorem op_fdivD : OpR X (binaryOp .FloorDiv) (rD X.K pyFdiv) := by
  refine OpR.cases fun x y H Q hh => ?_
  obtain ⟨F, a, b, c, sub, ra, rb, e, q⟩ := hh
  cases ra <;> cases rb <;> simp only [pyFdiv, reduceCtorEq] at e
  case int.int i j =>
    split at e
    · rename_i hj
      have hj := cl_of hj
      cases e; exact ⟨_, op_fdiv, i, j, rfl, rfl, hj, q.imm (.int _)⟩
    · split at e
      · rename_i hj
        have hj := cl_of hj
        cases e; exact ⟨_, op_fdivN, i, j, rfl, rfl, hj, q.imm (.int _)⟩
      · split at e
        · rename_i hj
          have hj := cl_of hj
          cases e
          refine ⟨_, op_fdivW, i, j, rfl, rfl, ⟨hj.1, ?_⟩, q.imm (.int _)⟩
          have hn : j.natAbs ≠ 0 := by omega
          refine (Nat.log2_lt hn).mpr ?_
          have := hj.2.1
          omega
        · cases e
end
end TL

namespace TL
open PySem PySem.Spec L2
open PyProof.Rows hiding St

/-- what holds wherever a rule is used -/
structure Okx (X : Cx) : Prop where
  calm : X.calm = true
  hu : X.A.units + 150 < cLine
  hd : X.A.handled = none
/-! ### data that can be compared -/
mutual
def sh : Nat → PD → Bool
  | _, .none => true
  | _, .bool _ => true
  | _, .int _ => true
  | _, .str x => PyData.strOk x
  | 0, .list _ => false
  | n + 1, .list xs => shs n xs
  | 0, .tuple _ => false
  | n + 1, .tuple xs => shs n xs
  | _, .dict _ => false
def shs : Nat → List PD → Bool
  | _, [] => true
  | n, x :: xs => sh n x && shs n xs
end
mutual
theorem sh_can : ∀ (n : Nat) (d : PD), sh n d = true → d.canLay0 = true ∧ d.depth ≤ n
  | n, .none, _ => ⟨rfl, Nat.zero_le _⟩
  | n, .bool _, _ => ⟨rfl, Nat.zero_le _⟩
  | n, .int _, _ => ⟨rfl, Nat.zero_le _⟩
  | n, .str x, h => ⟨by cases n <;> simpa [sh, PyData.canLay0] using h, by simp [PyData.depth]⟩
  | 0, .list xs, h => by simp [sh] at h
  | n + 1, .list xs, h => by
    obtain ⟨h1, h2⟩ := shs_can n xs (by simpa [sh] using h)
    exact ⟨by simpa [PyData.canLay0] using h1, by simpa [PyData.depth] using h2⟩
  | 0, .tuple xs, h => by simp [sh] at h
  | n + 1, .tuple xs, h => by
    obtain ⟨h1, h2⟩ := shs_can n xs (by simpa [sh] using h)
    exact ⟨by simpa [PyData.canLay0] using h1, by simpa [PyData.depth] using h2⟩
  | n, .dict _, h => by cases n <;> simp [sh] at h
theorem shs_can : ∀ (n : Nat) (d : List PD), shs n d = true → PyData.canLayAll0 d = true ∧ PyData.depthAll d ≤ n
  | n, [], _ => ⟨rfl, Nat.zero_le _⟩
  | n, x :: xs, h => by
    simp only [shs, Bool.and_eq_true] at h
    obtain ⟨h1, h2⟩ := sh_can n x h.1
    obtain ⟨h3, h4⟩ := shs_can n xs h.2
    exact ⟨by simp [PyData.canLayAll0, h1, h3], by simp only [PyData.depthAll]; omega⟩
end
theorem sh_shaped {d : PD} (h : sh 60 d = true) : SeqAt.shaped d = true := by
  obtain ⟨h1, h2⟩ := sh_can 60 d h
  simp only [SeqAt.shaped, Bool.and_eq_true, decide_eq_true_eq]
  exact ⟨h1, by omega⟩
section
variable {X : Cx} {W : WX} {K : PySem.W.Frag} {F H : Hp}
theorem Rp.dps (l : Le F H) {d : PD} {v : V} (h : sh 60 d = true) (r : Rp K F d v) : Dp K H v d := Rp.dp l (noDict_of_can (sh_can 60 d h).1) r
def pyIsNone : PD → Bool
  | .none => true
  | _ => false
theorem ne_none {a : PD} (h : pyIsNone a = false) : a ≠ .none := fun z => by subst z; cases h
/-- a truth about two data -/
def rB (K : PySem.W.Frag) (g : PD → PD → Option Bool) : R2 := fun x y H Q => ∃ F a b c, Le F H ∧ Rp K F a x ∧ Rp K F b y ∧ g a b = some c ∧ Q (.bl c) H
def pyEq : PD → PD → Option Bool
  | .int i, .int j => some (decide (i = j))
  | .str x, .str y => some (decide (x = y))
  | a, b => if sh 60 a = true ∧ sh 60 b = true then some (PyData.eqv a b) else none
def pyNe (a b : PD) : Option Bool := (pyEq a b).map not
def pyLt : PD → PD → Option Bool
  | .int i, .int j => some (decide (i < j))
  | .str x, .str y => some (decide (x.cps.toList < y.cps.toList))
  | a, b => if PySem.W.alike a b = true ∧ pyIsNone a = false ∧ sh 60 a = true ∧ sh 60 b = true then some (PySem.W.dataLt a b) else none
def pyGt (a b : PD) : Option Bool := match a, b with
  | .int i, .int j => some (decide (j < i))
  | a, b => if PySem.W.alike a b = true ∧ pyIsNone a = false ∧ sh 60 a = true ∧ sh 60 b = true then some (PySem.W.dataLt b a) else none
def pyLe (a b : PD) : Option Bool := match a, b with
  | .int i, .int j => some (decide (i ≤ j))
  | a, b => if PySem.W.alike a b = true ∧ pyIsNone a = false ∧ sh 60 a = true ∧ sh 60 b = true then some (!PySem.W.dataLt b a) else none
def pyGe (a b : PD) : Option Bool := match a, b with
  | .int i, .int j => some (decide (j ≤ i))
  | a, b => if PySem.W.alike a b = true ∧ pyIsNone a = false ∧ sh 60 a = true ∧ sh 60 b = true then some (!PySem.W.dataLt a b) else none
theorem op_data {f : Value → Value → Sem Value} {g : PD → PD → Option Bool} {P : PD → PD → Prop} (o : Okx X)
    (hg : ∀ a b c, g a b = some c → (∃ r', OpR X f r' ∧ ∀ K F x y H Q, Rp K F a x → Rp K F b y → Q (.bl c) H → r' x y H Q) ∨ (sh 60 a = true ∧ sh 60 b = true ∧ P a b))
    (hf : ∀ {da db : PD} {a b : Value} {as bs : List Addr} {s : Shared} {E Q : Value → Shared → Prop} {c : Bool}, g da db = some c → Reads s.heap a da as → Reads s.heap b db bs → P da db → PyData.canLay0 da = true → PyData.canLay0 db = true → X.A.units + min da.depth db.depth < cLine → Q (.bool c) s → wpAny (model X.prog X.w) X.A (f a b) Q E s) :
    OpR X f (rB X.K g) := by
  intro pins s σ H x y v u Q I r1 r2 hh
  obtain ⟨F, a, b, c, sub, ra, rb, e, q⟩ := hh
  rcases hg a b c e with ⟨r', h1, h2⟩ | ⟨h1, h2, p⟩
  · exact h1 pins s σ H x y v u Q I r1 r2 (h2 X.K F x y H Q ra rb q)
  · obtain ⟨as, s1⟩ := Dp.reads I a x v (ra.dps sub h1) r1
    obtain ⟨bs, s2⟩ := Dp.reads I b y u (rb.dps sub h2) r2
    obtain ⟨c1, d1⟩ := sh_can 60 a h1
    obtain ⟨c2, d2⟩ := sh_can 60 b h2
    refine hf e s1 s2 p c1 c2 ?_ ⟨.bl c, H, I, rfl, q⟩
    have := o.hu
    omega
theorem op_eqT (o : Okx X) : OpR X (compareOp .Eq) (rB X.K pyEq) := by
  refine op_data (P := fun a b => pyEq a b = some (PyData.eqv a b)) o (fun a b c e => ?_) fun {da db a b as bs s E Q c} e s1 s2 p c1 c2 hu q => ?_
  · unfold pyEq at e
    split at e
    · cases e
      refine .inl ⟨_, op_eq, fun K F x y H Q r1 r2 q => ?_⟩
      cases r1; cases r2
      exact ⟨rfl, by rw [dec_int, Bool.beq_eq_decide_eq]; exact q⟩
    · cases e
      refine .inl ⟨_, op_eq, fun K F x y H Q r1 r2 q => ?_⟩
      cases r1; cases r2
      exact ⟨rfl, by rw [dec_str, Bool.beq_eq_decide_eq]; exact q⟩
    · rename_i n1 n2
      split at e
      · rename_i hs
        cases e
        refine .inr ⟨hs.1, hs.2, ?_⟩
        unfold pyEq
        split
        · exact absurd rfl (n1 _ _ rfl)
        · exact absurd rfl (n2 _ _ rfl)
        · rw [if_pos hs]
      · cases e
  · rw [p] at e; cases e
    exact SeqAt.compareEq_reads s1 s2 c1 c2 hu q
theorem op_neT (o : Okx X) : OpR X (compareOp .NotEq) (rB X.K pyNe) := by
  refine op_data (P := fun a b => pyEq a b = some (PyData.eqv a b)) o (fun a b c e => ?_) fun {da db a b as bs s E Q c} e s1 s2 p c1 c2 hu q => ?_
  · unfold pyNe at e
    obtain ⟨k, e1, e2⟩ := Option.map_eq_some_iff.mp e
    subst e2
    unfold pyEq at e1
    split at e1
    · cases e1
      refine .inl ⟨_, op_ne, fun K F x y H Q r1 r2 q => ?_⟩
      cases r1; cases r2
      exact ⟨rfl, by rw [dec_int, Bool.beq_eq_decide_eq]; exact q⟩
    · cases e1
      refine .inl ⟨_, op_ne, fun K F x y H Q r1 r2 q => ?_⟩
      cases r1; cases r2
      exact ⟨rfl, by rw [dec_str, Bool.beq_eq_decide_eq]; exact q⟩
    · rename_i n1 n2
      split at e1
      · rename_i hs
        cases e1
        refine .inr ⟨hs.1, hs.2, ?_⟩
        unfold pyEq
        split
        · exact absurd rfl (n1 _ _ rfl)
        · exact absurd rfl (n2 _ _ rfl)
        · rw [if_pos hs]
      · cases e1
  · unfold pyNe at e
    rw [p] at e; cases e
    exact SeqAt.compareNe_reads s1 s2 c1 c2 hu q
theorem op_ltT' (o : Okx X) : OpR X (compareOp .Lt) (rB X.K pyLt) := by
  refine op_data (P := fun a b => PySem.W.alike a b = true ∧ a ≠ .none ∧ pyLt a b = some (PySem.W.dataLt a b)) o (fun a b c e => ?_) fun {da db a b as bs s E Q c} e s1 s2 p c1 c2 hu q => ?_
  · unfold pyLt at e
    split at e
    · cases e
      refine .inl ⟨_, op_lt, fun K F x y H Q r1 r2 q => ?_⟩
      cases r1; cases r2
      exact ⟨_, _, rfl, rfl, q⟩
    · cases e
      refine .inl ⟨_, op_lt_str, fun K F x y H Q r1 r2 q => ?_⟩
      cases r1; cases r2
      exact ⟨_, _, rfl, rfl, q⟩
    · rename_i n1 n2
      split at e
      · rename_i hs
        cases e
        refine .inr ⟨hs.2.2.1, hs.2.2.2, hs.1, ne_none hs.2.1, ?_⟩
        unfold pyLt
        split
        · exact absurd rfl (n1 _ _ rfl)
        · exact absurd rfl (n2 _ _ rfl)
        · rw [if_pos hs]
      · cases e
  · rw [p.2.2] at e; cases e
    exact PySem.W.lt_data s1 s2 p.1 p.2.1 hu q
theorem op_gtT' (o : Okx X) : OpR X (compareOp .Gt) (rB X.K pyGt) := by
  refine op_data (P := fun a b => PySem.W.alike a b = true ∧ a ≠ .none ∧ pyGt a b = some (PySem.W.dataLt b a)) o (fun a b c e => ?_) fun {da db a b as bs s E Q c} e s1 s2 p c1 c2 hu q => ?_
  · unfold pyGt at e
    split at e
    · cases e
      refine .inl ⟨_, op_gt, fun K F x y H Q r1 r2 q => ?_⟩
      cases r1; cases r2
      exact ⟨_, _, rfl, rfl, q⟩
    · rename_i n1
      split at e
      · rename_i hs
        cases e
        refine .inr ⟨hs.2.2.1, hs.2.2.2, hs.1, ne_none hs.2.1, ?_⟩
        unfold pyGt
        split
        · exact absurd rfl (n1 _ _ rfl)
        · rw [if_pos hs]
      · cases e
  · rw [p.2.2] at e; cases e
    exact PySem.W.gt_data s1 s2 p.1 p.2.1 hu q
theorem op_leT' (o : Okx X) : OpR X (compareOp .LtE) (rB X.K pyLe) := by
  refine op_data (P := fun a b => PySem.W.alike a b = true ∧ a ≠ .none ∧ pyLe a b = some (!PySem.W.dataLt b a)) o (fun a b c e => ?_) fun {da db a b as bs s E Q c} e s1 s2 p c1 c2 hu q => ?_
  · unfold pyLe at e
    split at e
    · cases e
      refine .inl ⟨_, op_le, fun K F x y H Q r1 r2 q => ?_⟩
      cases r1; cases r2
      exact ⟨_, _, rfl, rfl, q⟩
    · rename_i n1
      split at e
      · rename_i hs
        cases e
        refine .inr ⟨hs.2.2.1, hs.2.2.2, hs.1, ne_none hs.2.1, ?_⟩
        unfold pyLe
        split
        · exact absurd rfl (n1 _ _ rfl)
        · rw [if_pos hs]
      · cases e
  · rw [p.2.2] at e; cases e
    exact PySem.W.le_data s1 s2 p.1 p.2.1 hu q
theorem op_geT' (o : Okx X) : OpR X (compareOp .GtE) (rB X.K pyGe) := by
  refine op_data (P := fun a b => PySem.W.alike a b = true ∧ a ≠ .none ∧ pyGe a b = some (!PySem.W.dataLt a b)) o (fun a b c e => ?_) fun {da db a b as bs s E Q c} e s1 s2 p c1 c2 hu q => ?_
  · unfold pyGe at e
    split at e
    · cases e
      refine .inl ⟨_, op_ge, fun K F x y H Q r1 r2 q => ?_⟩
      cases r1; cases r2
      exact ⟨_, _, rfl, rfl, q⟩
    · rename_i n1
      split at e
      · rename_i hs
        cases e
        refine .inr ⟨hs.2.2.1, hs.2.2.2, hs.1, ne_none hs.2.1, ?_⟩
        unfold pyGe
        split
        · exact absurd rfl (n1 _ _ rfl)
        · rw [if_pos hs]
      · cases e
  · rw [p.2.2] at e; cases e
    exact PySem.W.ge_data s1 s2 p.1 p.2.1 hu q
/-! in, not in: a list, a tuple, a sign of a text -/
def pyIn : PD → PD → Option Bool
  | a, .list xs => if sh 60 a = true ∧ shs 60 xs = true then some (xs.any fun y => PyData.eqv y a) else none
  | a, .tuple xs => if sh 60 a = true ∧ shs 60 xs = true then some (xs.any fun y => PyData.eqv y a) else none
  | .str x, .str y => some (!(Builtin.Str.occurrences y x 0 y.length 1).isEmpty)
  | _, _ => none
def pyNotIn (a b : PD) : Option Bool := (pyIn a b).map not
theorem op_inT (o : Okx X) : OpR X (compareOp .In) (rB X.K pyIn) := by
  intro pins s σ H x y v u Q I r1 r2 hh
  obtain ⟨F, a, b, c, sub, ra, rb, e, q⟩ := hh
  have hu := o.hu
  unfold pyIn at e
  split at e
  · split at e
    · rename_i xs hs
      cases e
      obtain ⟨c2, d2⟩ := shs_can 60 xs hs.2
      have hs2 : noDict (.list xs) = true := by rw [noDict]; exact noDicts_of_can c2
      obtain ⟨as, s1⟩ := Dp.reads I a x v (ra.dps sub hs.1) r1
      obtain ⟨bs, s2⟩ := Dp.reads I (.list xs) y u (Rp.dp sub hs2 rb) r2
      exact SeqAt.in_list_reads s2 s1 c2 (sh_can 60 a hs.1).1 (by omega) ⟨.bl _, H, I, rfl, q⟩
    · cases e
  · split at e
    · rename_i xs hs
      cases e
      obtain ⟨c2, d2⟩ := shs_can 60 xs hs.2
      have hs2 : noDict (.tuple xs) = true := by rw [noDict]; exact noDicts_of_can c2
      obtain ⟨as, s1⟩ := Dp.reads I a x v (ra.dps sub hs.1) r1
      obtain ⟨bs, s2⟩ := Dp.reads I (.tuple xs) y u (Rp.dp sub hs2 rb) r2
      exact SeqAt.in_tuple_reads s2 s1 c2 (sh_can 60 a hs.1).1 (by omega) ⟨.bl _, H, I, rfl, q⟩
    · cases e
  · cases e
    cases ra; cases rb
    exact op_in_str pins s σ H _ _ v u Q I r1 r2 ⟨_, _, rfl, rfl, q⟩
  · cases e
theorem op_notInT (o : Okx X) : OpR X (compareOp .NotIn) (rB X.K pyNotIn) := by
  intro pins s σ H x y v u Q I r1 r2 hh
  obtain ⟨F, a, b, c, sub, ra, rb, e, q⟩ := hh
  have hu := o.hu
  unfold pyNotIn at e
  obtain ⟨k, e0, e2⟩ := Option.map_eq_some_iff.mp e
  clear e
  have e := e0
  clear e0
  unfold pyIn at e
  split at e
  · split at e
    · rename_i xs hs
      have e := Option.some.inj e
      subst e
      subst e2
      obtain ⟨c2, d2⟩ := shs_can 60 xs hs.2
      have hs2 : noDict (.list xs) = true := by rw [noDict]; exact noDicts_of_can c2
      obtain ⟨as, s1⟩ := Dp.reads I a x v (ra.dps sub hs.1) r1
      obtain ⟨bs, s2⟩ := Dp.reads I (.list xs) y u (Rp.dp sub hs2 rb) r2
      exact SeqAt.notIn_list_reads s2 s1 c2 (sh_can 60 a hs.1).1 (by omega) ⟨.bl _, H, I, rfl, q⟩
    · cases e
  · split at e
    · rename_i xs hs
      have e := Option.some.inj e
      subst e
      subst e2
      obtain ⟨c2, d2⟩ := shs_can 60 xs hs.2
      have hs2 : noDict (.tuple xs) = true := by rw [noDict]; exact noDicts_of_can c2
      obtain ⟨as, s1⟩ := Dp.reads I a x v (ra.dps sub hs.1) r1
      obtain ⟨bs, s2⟩ := Dp.reads I (.tuple xs) y u (Rp.dp sub hs2 rb) r2
      exact SeqAt.notIn_tuple_reads s2 s1 c2 (sh_can 60 a hs.1).1 (by omega) ⟨.bl _, H, I, rfl, q⟩
    · cases e
  · have e := Option.some.inj e
    subst e
    subst e2
    cases ra; cases rb
    exact op_notin_str pins s σ H _ _ v u Q I r1 r2 ⟨_, _, rfl, rfl, q⟩
  · cases e
/-! is None, is True .. -/
/-- is: of the truth values and None alone -/
def pyIs : PD → PD → Option Bool
  | a, .none => some (pyIsNone a)
  | .bool a, .bool b => some (a == b)
  | .int _, .bool _ => some false
  | .none, .bool _ => some false
  | .str _, .bool _ => some false
  | .list _, .bool _ => some false
  | .tuple _, .bool _ => some false
  | _, _ => none
end
end TL

namespace TL
open PySem PySem.Spec L2
open PyProof.Rows hiding St

def mCmp (g : PD → PD → Option Bool) (ma mb : M PD) : M Bool := bnd ma fun a => bnd mb fun b => opt (g a b)
def mV (m : M Bool) : M PD := bnd m fun b => ret (.bool b)
def truth : PD → Option Bool
  | .none => some false
  | .bool b => some b
  | .int i => some (i != 0)
  | .str x => if x.length ≤ 1000000 then some ((x.length : Int) != 0) else none
  | .list xs => some (!xs.isEmpty)
  | .tuple xs => some (!xs.isEmpty)
  | .dict _ => none
/-- the truth of what is True or False -/
def asB : PD → Option Bool
  | .bool b => some b
  | _ => none
def mT (m : M PD) : M Bool := bnd m fun d => opt (truth d)
def mB (m : M PD) : M Bool := bnd m fun d => opt (asB d)
/-- a op b op' c -/
def mChain (g g' : PD → PD → Option Bool) (ma mb mc : M PD) : M Bool := bnd ma fun a => bnd mb fun b => bnd (opt (g a b)) fun k => if k = true then bnd mc fun c => opt (g' b c) else ret false
def mAnd (ma mb : M Bool) : M Bool := bnd ma fun k => if k = true then mb else ret false
def mOr (ma mb : M Bool) : M Bool := bnd ma fun k => if k = true then ret true else mb
def mNot (ma : M Bool) : M Bool := bnd ma fun k => ret (!k)
/-- and, or as values: all but the last True or False -/
def mAndV (ma mb : M PD) : M PD := bnd ma fun a => bnd (opt (asB a)) fun k => if k = true then mb else ret (.bool false)
def mOrV (ma mb : M PD) : M PD := bnd ma fun a => bnd (opt (asB a)) fun k => if k = true then ret (.bool true) else mb
def mIf {α : Type} (c : M Bool) (ma mb : M α) : M α := bnd c fun k => if k = true then ma else mb
section
variable {X : Cx} {W : WX} {a b c : Expr} {pos : Pos} {ma mb mc : M PD} {g g' : PD → PD → Option Bool} {op op' : CmpOp}
theorem ret_post {α : Type} {σ : L2.St} {φ : List Addr} {F : Hp} {a : α} {env : Env} {st : Sto} {H : Hp} {Q : α → List Addr → Hp → Env → Sto → Hp → Prop} (R : Rel X.K φ F env st σ H) (h : Post X W σ φ F (ret a env st) Q) : Q a φ F env st H := h φ F H (List.prefix_refl _) (Le.refl _) R
theorem jb_cmp (ho : OpR X (compareOp op) (rB X.K g)) (ha : JE X W a ma) (hb : JE X W b mb) (hm : behindInMarks op b = false) : JB X W (.Compare a [op] [b] pos) (mCmp g ma mb) := by
  refine PT.imp (pt_cmpR ho ha hb hm) fun σ H Q ⟨φ, F, env, st, R, h⟩ => post2 R h fun a b x y φ2 F2 env2 st2 H2 R2 rx ry h2 => ?_
  obtain ⟨c, e, q⟩ := opt_post h2
  exact ⟨F2, a, b, c, R2.sub, rx, ry, e, c, rfl, q φ2 F2 H2 (List.prefix_refl _) (Le.refl _) R2⟩
theorem je_cmp (ho : OpR X (compareOp op) (rB X.K g)) (ha : JE X W a ma) (hb : JE X W b mb) (hm : behindInMarks op b = false) : JE X W (.Compare a [op] [b] pos) (mV (mCmp g ma mb)) := by
  refine PE.imp (pe_cmpR ho ha hb hm) fun σ H Q hh => ?_
  obtain ⟨φ, F, env, st, R, h⟩ := hh
  have h1 := Post.bnd h
  refine post2 R h1 fun a b x y φ2 F2 env2 st2 H2 R2 rx ry h2 => ?_
  obtain ⟨c, e, q⟩ := opt_post h2
  refine ⟨F2, a, b, c, R2.sub, rx, ry, e, ?_⟩
  exact ret_post R2 (q φ2 F2 H2 (List.prefix_refl _) (Le.refl _) R2) (.bl c) (.bl c)
theorem jb_val {e : Expr} {m : M PD} (h : JE X W e m) (he : ∀ whole, isTrue e X.env whole = (do let v ← whole; standAt e.pos; holding [v] (truthy v)) := by intro _; rfl) : JB X W e (mB m) := by
  refine PT.imp (pt_val h he) fun σ H Q ⟨φ, F, env, st, R, h⟩ => ⟨φ, F, env, st, R, (Post.bnd h).mono fun d φ1 F1 env1 st1 H1 p l R1 h1 v r => ?_⟩
  obtain ⟨k, e, q⟩ := opt_post h1
  cases r with
  | bl b => cases e; exact ⟨_, rfl, q φ1 F1 H1 (List.prefix_refl _) (Le.refl _) R1⟩
  | _ => cases e
theorem jb_truth {e : Expr} {m : M PD} (h : JE X W e m) (he : ∀ whole, isTrue e X.env whole = (do let v ← whole; standAt e.pos; holding [v] (truthy v)) := by intro _; rfl) : JB X W e (mT m) := by
  refine PT.imp (pt_truth h he) fun σ H Q ⟨φ, F, env, st, R, h⟩ => ⟨φ, F, env, st, R, (Post.bnd h).mono fun d φ1 F1 env1 st1 H1 p l R1 h1 v r => ?_⟩
  obtain ⟨k, e, q⟩ := opt_post h1
  refine ⟨k, ?_, q φ1 F1 H1 (List.prefix_refl _) (Le.refl _) R1⟩
  cases r with
  | non => cases e; exact rfl
  | bl b => cases e; exact rfl
  | int i => cases e; exact rfl
  | str x =>
    simp only [truth] at e
    split at e
    · rename_i hz
      cases e
      exact ⟨lim_le hz, rfl⟩
    · cases e
  | lst hl rs =>
    cases e
    refine .inl ⟨_, sqL_mono hl.sq R1.sub, ?_⟩
    cases rs <;> rfl
  | tup hl rs =>
    cases e
    refine .inr (.inl ⟨_, sqT_mono hl R1.sub.f, ?_⟩)
    cases rs <;> rfl
  | dct => cases e
  | dctT => cases e
theorem post_chain {σ : L2.St} {H : Hp} {α : Type} {k : Bool → M α} {φ : List Addr} {F : Hp} {env : Env} {st : Sto} {Q : α → List Addr → Hp → Env → Sto → Hp → Prop} {R : V → Hp → Prop} (Rr : Rel X.K φ F env st σ H)
    (h : Post X W σ φ F (bnd (mChain g g' ma mb mc) k env st) Q)
    (fin : ∀ c φ2 F2 env2 st2 H2, Rel X.K φ2 F2 env2 st2 σ H2 → Post X W σ φ2 F2 (k c env2 st2) Q → R (.bl c) H2) :
    tChain (rB X.K g) (rB X.K g') (tE X W ma) (tE X W mb) (tE X W mc) σ H R := by
  have h0 := Post.bnd h
  refine ⟨φ, F, env, st, Rr, (Post.bnd h0).mono fun a φ1 F1 env1 st1 H1 p1 l1 R1 h1 x rx => ?_⟩
  refine ⟨φ1, F1, env1, st1, R1, (Post.bnd h1).mono fun b φ2 F2 env2 st2 H2 p2 l2 R2 h2 y ry => ?_⟩
  obtain ⟨c, e, q⟩ := opt_post (Post.bnd h2)
  have q' := q φ2 F2 H2 (List.prefix_refl _) (Le.refl _) R2
  refine ⟨F2, a, b, c, R2.sub, Rp.mono l2.f rx, ry, e, c, rfl, ?_⟩
  cases c with
  | false =>
    rw [if_neg Bool.false_ne_true]
    rw [if_neg Bool.false_ne_true] at q'
    exact fin false φ2 F2 env2 st2 H2 R2 (ret_post R2 q')
  | true =>
    rw [if_pos rfl]
    rw [if_pos rfl] at q'
    refine ⟨φ2, F2, env2, st2, R2, (Post.bnd q').mono fun c φ3 F3 env3 st3 H3 p3 l3 R3 h3 z rz => ?_⟩
    obtain ⟨c', e', q3⟩ := opt_post h3
    exact ⟨F3, b, c, c', R3.sub, Rp.mono l3.f ry, rz, e', fin c' φ3 F3 env3 st3 H3 R3 (q3 φ3 F3 H3 (List.prefix_refl _) (Le.refl _) R3)⟩
theorem je_chain (ho : OpR X (compareOp op) (rB X.K g)) (ho' : OpR X (compareOp op') (rB X.K g')) (ha : JE X W a ma) (hb : JE X W b mb) (hc : JE X W c mc) (hm : lastMarks [op, op'] [b, c] = false := by with_unfolding_all rfl) :
    JE X W (.Compare a [op, op'] [b, c] pos) (mV (mChain g g' ma mb mc)) :=
  PE.imp (pe_chain ho ho' ha hb hc hm) fun σ H Q ⟨φ, F, env, st, R, h⟩ => post_chain R h fun c φ2 F2 env2 st2 H2 R2 q => ret_post R2 q (.bl c) (.bl c)
theorem bnd_ret {α : Type} (m : M α) : bnd m (fun a => ret a) = m := by
  funext env st
  unfold bnd ret
  cases m env st <;> rfl
theorem jb_chain (ho : OpR X (compareOp op) (rB X.K g)) (ho' : OpR X (compareOp op') (rB X.K g')) (ha : JE X W a ma) (hb : JE X W b mb) (hc : JE X W c mc) (hm : lastMarks [op, op'] [b, c] = false := by with_unfolding_all rfl) :
    JB X W (.Compare a [op, op'] [b, c] pos) (mChain g g' ma mb mc) :=
  PT.imp (pt_chain ho ho' ha hb hc hm) fun σ H Q ⟨φ, F, env, st, R, h⟩ => by
    rw [← bnd_ret (mChain g g' ma mb mc)] at h
    exact post_chain R h fun c φ2 F2 env2 st2 H2 R2 q => ⟨c, rfl, ret_post R2 q⟩
/-! and, or, not -/
abbrev JW (X : Cx) (W : WX) (e : Expr) (m : M Bool) : Prop := PW X e (tBo X W m)
theorem PW.imp {e : Expr} {t t' : TT} (h : PW X e t) (i : ∀ σ H Q, t' σ H Q → t σ H Q) : PW X e t' := ⟨fun w pins s σ H Q I hq => h.run w pins s σ H Q I (i σ H Q hq)⟩
variable {na nb : M Bool} {rest : List Expr}
theorem jw_and1 (ha : JB X W a na) : JW X W (.BoolOp .And [a] pos) na := pw_and1 ha
theorem jw_or1 (ha : JB X W a na) : JW X W (.BoolOp .Or [a] pos) na := pw_or1 ha
theorem jw_and (ha : JB X W a na) (hb : JW X W (.BoolOp .And (b :: rest) pos) nb) : JW X W (.BoolOp .And (a :: b :: rest) pos) (mAnd na nb) := by
  refine TL.PW.imp (pw_and ha hb) fun σ H Q ⟨φ, F, env, st, R, h⟩ => ⟨φ, F, env, st, R, (Post.bnd h).mono fun k φ1 F1 env1 st1 H1 p1 l1 R1 h1 => ?_⟩
  cases k with
  | true => rw [if_pos rfl] at h1 ⊢; exact ⟨φ1, F1, env1, st1, R1, h1⟩
  | false => rw [if_neg Bool.false_ne_true] at h1 ⊢; exact ret_post R1 h1
theorem jw_or (ha : JB X W a na) (hb : JW X W (.BoolOp .Or (b :: rest) pos) nb) : JW X W (.BoolOp .Or (a :: b :: rest) pos) (mOr na nb) := by
  refine TL.PW.imp (pw_or ha hb) fun σ H Q ⟨φ, F, env, st, R, h⟩ => ⟨φ, F, env, st, R, (Post.bnd h).mono fun k φ1 F1 env1 st1 H1 p1 l1 R1 h1 => ?_⟩
  cases k with
  | true => rw [if_pos rfl] at h1 ⊢; exact ret_post R1 h1
  | false => rw [if_neg Bool.false_ne_true] at h1 ⊢; exact ⟨φ1, F1, env1, st1, R1, h1⟩
theorem jb_not (ha : JB X W a na) : JB X W (.UnaryOp .Not a pos) (mNot na) :=
  PT.imp (pt_not ha) fun σ H Q ⟨φ, F, env, st, R, h⟩ => ⟨φ, F, env, st, R, (Post.bnd h).mono fun k φ1 F1 env1 st1 H1 p1 l1 R1 h1 => ret_post R1 h1⟩
theorem je_not (ha : JE X W a ma) : JE X W (.UnaryOp .Not a pos) (mV (mNot (mB ma))) := by
  refine PE.imp (pe_not ha) fun σ H Q ⟨φ, F, env, st, R, h⟩ => ⟨φ, F, env, st, R, (Post.bnd (Post.bnd (Post.bnd h))).mono fun d φ1 F1 env1 st1 H1 p1 l1 R1 h1 v r => ?_⟩
  obtain ⟨k, e, q⟩ := opt_post h1
  cases r with
  | bl b =>
    cases e
    have := ret_post R1 (q φ1 F1 H1 (List.prefix_refl _) (Le.refl _) R1)
    exact ⟨_, rfl, ret_post R1 this _ (.bl _)⟩
  | _ => cases e
theorem je_one {op : BoolOp} (ha : JE X W a ma) : JE X W (.BoolOp op [a] pos) ma := pe_one ha
theorem je_and (ha : JE X W a ma) (hb : JE X W (.BoolOp .And (b :: rest) pos) mb) : JE X W (.BoolOp .And (a :: b :: rest) pos) (mAndV ma mb) := by
  refine PE.imp (pe_and ha hb) fun σ H Q ⟨φ, F, env, st, R, h⟩ => ⟨φ, F, env, st, R, (Post.bnd h).mono fun d φ1 F1 env1 st1 H1 p1 l1 R1 h1 v r => ?_⟩
  obtain ⟨k, e, q⟩ := opt_post (Post.bnd h1)
  cases r with
  | bl b =>
    cases e
    have q' := q φ1 F1 H1 (List.prefix_refl _) (Le.refl _) R1
    refine ⟨k, rfl, ?_⟩
    cases k with
    | true => rw [if_pos rfl] at q' ⊢; exact ⟨φ1, F1, env1, st1, R1, q'⟩
    | false => rw [if_neg Bool.false_ne_true] at q' ⊢; exact ret_post R1 q' _ (.bl _)
  | _ => cases e
theorem je_or (ha : JE X W a ma) (hb : JE X W (.BoolOp .Or (b :: rest) pos) mb) : JE X W (.BoolOp .Or (a :: b :: rest) pos) (mOrV ma mb) := by
  refine PE.imp (pe_or ha hb) fun σ H Q ⟨φ, F, env, st, R, h⟩ => ⟨φ, F, env, st, R, (Post.bnd h).mono fun d φ1 F1 env1 st1 H1 p1 l1 R1 h1 v r => ?_⟩
  obtain ⟨k, e, q⟩ := opt_post (Post.bnd h1)
  cases r with
  | bl b =>
    cases e
    have q' := q φ1 F1 H1 (List.prefix_refl _) (Le.refl _) R1
    refine ⟨k, rfl, ?_⟩
    cases k with
    | true => rw [if_pos rfl] at q' ⊢; exact ret_post R1 q' _ (.bl _)
    | false => rw [if_neg Bool.false_ne_true] at q' ⊢; exact ⟨φ1, F1, env1, st1, R1, q'⟩
  | _ => cases e
theorem je_if {c : Expr} {nc : M Bool} (hc : JB X W c nc) (ha : JE X W a ma) (hb : JE X W b mb) : JE X W (.IfExp c a b pos) (mIf nc ma mb) := by
  refine PE.imp (pe_ifExp hc ha hb) fun σ H Q ⟨φ, F, env, st, R, h⟩ => ⟨φ, F, env, st, R, (Post.bnd h).mono fun k φ1 F1 env1 st1 H1 p1 l1 R1 h1 => ?_⟩
  cases k with
  | true => rw [if_pos rfl] at h1 ⊢; exact ⟨φ1, F1, env1, st1, R1, h1⟩
  | false => rw [if_neg Bool.false_ne_true] at h1 ⊢; exact ⟨φ1, F1, env1, st1, R1, h1⟩
/-! ### is -/
def mIsNone (ma : M PD) : M Bool := bnd ma fun a => ret (pyIsNone a)
theorem rp_none {K : PySem.W.Frag} {F : Hp} {d : PD} {v : V} (r : Rp K F d v) : decide (v = .non) = pyIsNone d := by
  cases r <;> simp [pyIsNone]
theorem je_isN {j pos'} (ha : JE X W a ma) : JE X W (.Compare a [.Is] [.Constant .none j pos'] pos) (mV (mIsNone ma)) := by
  refine PE.imp (pe_cmp (pc_isN ha) rfl) fun σ H Q ⟨φ, F, env, st, R, h⟩ => ⟨φ, F, env, st, R, (Post.bnd (Post.bnd h)).mono fun d φ1 F1 env1 st1 H1 p1 l1 R1 h1 v r => ?_⟩
  show Q (.bl (decide (v = .non))) H1
  rw [rp_none r]
  exact ret_post R1 (ret_post R1 h1) _ (.bl _)
theorem je_notN {j pos'} (ha : JE X W a ma) : JE X W (.Compare a [.IsNot] [.Constant .none j pos'] pos) (mV (mNot (mIsNone ma))) := by
  refine PE.imp (pe_cmp (pc_notN ha) rfl) fun σ H Q ⟨φ, F, env, st, R, h⟩ => ⟨φ, F, env, st, R, (Post.bnd (Post.bnd (Post.bnd h))).mono fun d φ1 F1 env1 st1 H1 p1 l1 R1 h1 v r => ?_⟩
  show Q (.bl (!decide (v = .non))) H1
  rw [rp_none r]
  exact ret_post R1 (ret_post R1 (ret_post R1 h1)) _ (.bl _)
theorem jb_isN {j pos'} (ha : JE X W a ma) : JB X W (.Compare a [.Is] [.Constant .none j pos'] pos) (mIsNone ma) := by
  refine PT.imp (pt_cmp (pc_isN ha) rfl) fun σ H Q ⟨φ, F, env, st, R, h⟩ => ⟨φ, F, env, st, R, (Post.bnd h).mono fun d φ1 F1 env1 st1 H1 p1 l1 R1 h1 v r => ?_⟩
  refine ⟨_, rfl, ?_⟩
  rw [rp_none r]
  exact ret_post R1 h1
theorem jb_notN {j pos'} (ha : JE X W a ma) : JB X W (.Compare a [.IsNot] [.Constant .none j pos'] pos) (mNot (mIsNone ma)) := by
  refine PT.imp (pt_cmp (pc_notN ha) rfl) fun σ H Q ⟨φ, F, env, st, R, h⟩ => ⟨φ, F, env, st, R, (Post.bnd (Post.bnd h)).mono fun d φ1 F1 env1 st1 H1 p1 l1 R1 h1 v r => ?_⟩
  refine ⟨_, rfl, ?_⟩
  rw [rp_none r]
  exact ret_post R1 (ret_post R1 h1)
end
end TL

namespace TL
open PySem PySem.Spec L2
open PyProof.Rows hiding St

def mNil {α : Type} : M (List α) := ret []
def mCons {α : Type} (m : M α) (ms : M (List α)) : M (List α) := bnd m fun d => bnd ms fun ds => ret (d :: ds)
/-- data, or a list of the frame's own that is looked at -/
inductive Rv (K : PySem.W.Frag) (F H : Hp) : PD → V → Prop
  | st {d : PD} {v : V} : Rp K F d v → Rv K F H d v
  | ow {p : Addr} {xs : List V} {ds : List PD} : H p = some (.lst xs) → Rps K F ds xs → Rv K F H (.list ds) (.ref p)
inductive Rvs (K : PySem.W.Frag) (F H : Hp) : List PD → List V → Prop
  | nil : Rvs K F H [] []
  | cons {d : PD} {v : V} {ds : List PD} {vs : List V} : Rv K F H d v → Rvs K F H ds vs → Rvs K F H (d :: ds) (v :: vs)
def tVw (X : Cx) (W : WX) (m : M PD) : TE := fun σ H Q => ∃ φ F env st, Rel X.K φ F env st σ H ∧ Post X W σ φ F (m env st) fun d _ F' _ _ H' => ∀ v, Rv X.K F' H' d v → Q v H'
abbrev JV (X : Cx) (W : WX) (e : Expr) (m : M PD) : Prop := PE X e (tVw X W m)
def tVs (X : Cx) (W : WX) (m : M (List PD)) : TA := fun σ H Q => ∃ φ F env st, Rel X.K φ F env st σ H ∧ Post X W σ φ F (m env st) fun ds _ F' _ _ H' => ∀ vs, Rvs X.K F' H' ds vs → Q vs H'
abbrev JVs (X : Cx) (W : WX) (es : List Expr) (m : M (List PD)) : Prop := PA X es (tVs X W m)
def mView (i : Nat) : M PD := fun env st => match env[i]? with
  | some (.v d) => .ok d env st
  | some (.own ds) => .ok (.list ds) env st
  | some (.mt n) => match st[n]? with
    | some (.l ds) => .ok (.list ds) env st
    | _ => .bad
  | _ => .bad
theorem Rel.viewM {K : PySem.W.Frag} {φ : List Addr} {F H : Hp} {env : Env} {st : Sto} {σ : L2.St} {i n : Nat} {ds : List PD} (R : Rel K φ F env st σ H) (e : env[i]? = some (.mt n)) (e2 : st[n]? = some (.l ds)) :
    ∃ p xs, σ[i]? = some (some (.ref p)) ∧ φ[n]? = some p ∧ H p = some (.lst xs) ∧ Rps K F ds xs := by
  obtain ⟨p, h1, h2⟩ := R.mt i n e
  obtain ⟨_, xs, h3, h4⟩ := R.sto n p _ h1 e2
  exact ⟨p, xs, h2, h1, h3, h4⟩
section
variable {X : Cx} {W : WX} {e : Expr} {es : List Expr} {pos : Pos} {m : M PD} {ms : M (List PD)} {K : PySem.W.Frag} {F H : Hp}
theorem Rv.list {ds : List PD} {v : V} (l : Le F H) (h : Rv K F H (.list ds) v) : ∃ p xs, v = .ref p ∧ Rd H p (.lst xs) ∧ Rps K F ds xs := by
  cases h with
  | st h => cases h with
    | lst h r => exact ⟨_, _, rfl, h.rd l, r⟩
  | ow h r => exact ⟨_, _, rfl, .inl h, r⟩
theorem Rv.tuple {ds : List PD} {v : V} (l : Le F H) (h : Rv K F H (.tuple ds) v) : ∃ p xs, v = .ref p ∧ SqT K H p xs ∧ Rps K F ds xs ∧ SqT K F p xs := by
  cases h with
  | st h => cases h with
    | tup h r => exact ⟨_, _, rfl, sqT_mono h l.f, r, h⟩
theorem Rv.int {i : Int} {v : V} (h : Rv K F H (.int i) v) : v = .int i := by
  cases h with
  | st h => cases h; rfl
theorem Rv.bool {i : Bool} {v : V} (h : Rv K F H (.bool i) v) : v = .bl i := by
  cases h with
  | st h => cases h; rfl
theorem Rv.str {i : Str} {v : V} (h : Rv K F H (.str i) v) : v = .str i := by
  cases h with
  | st h => cases h; rfl
theorem sq_of_rd {p : Addr} {xs : List V} (h : Rd H p (.lst xs)) : SqL K H p xs := .inl h
theorem Rvs.of : ∀ {ds : List PD} {vs : List V}, Rps K F ds vs → Rvs K F H ds vs
  | _, _, .nil => .nil
  | _, _, .cons h r => .cons (.st h) (Rvs.of r)
theorem jv_of (h : JE X W e m) : JV X W e m := PE.imp h fun σ H Q ⟨φ, F, env, st, R, h⟩ => ⟨φ, F, env, st, R, h.mono fun d φ1 F1 env1 st1 H1 p l R1 h1 v r => h1 v (.st r)⟩
theorem jv_var {i : Nat} {x : Str} {pos : Pos} (h : PE X (.Name x pos) (tVar i)) : JV X W (.Name x pos) (mView i) := by
  refine PE.imp h fun σ H Q hq => ?_
  obtain ⟨φ, F, env, st, R, h⟩ := hq
  unfold mView at h
  cases e : env[i]? with
  | none => rw [e] at h; exact h.elim
  | some s =>
    rw [e] at h
    cases s with
    | v d =>
      obtain ⟨v, e1, r⟩ := R.val i d e
      exact ⟨v, e1, h φ F H (List.prefix_refl _) (Le.refl _) R _ (.st r)⟩
    | own ds =>
      obtain ⟨p, e1, n, np, xs, e2, r⟩ := R.own i _ e rfl
      exact ⟨_, e1, h φ F H (List.prefix_refl _) (Le.refl _) R _ (.ow e2 r)⟩
    | mt n =>
      dsimp only at h
      cases e2 : st[n]? with
      | none => rw [e2] at h; exact h.elim
      | some ds =>
        rw [e2] at h
        cases ds with
        | tab P q => exact h.elim
        | l ds =>
        obtain ⟨p, xs, h1, _, h3, h4⟩ := R.viewM e e2
        exact ⟨_, h1, h φ F H (List.prefix_refl _) (Le.refl _) R _ (.ow h3 h4)⟩
    | _ => exact h.elim
theorem jds_nil : JDs X W [] mNil := PA.imp pa_nil fun σ H Q ⟨φ, F, env, st, R, h⟩ => ret_post R h _ .nil
theorem jds_cons (ha : JE X W e m) (hr : JDs X W es ms) (hs : starEach (e :: es) X.env = (false, eval e X.env) :: starEach es X.env := by rfl) : JDs X W (e :: es) (mCons m ms) :=
  PA.imp (pa_cons ha hr hs) fun σ H Q ⟨φ, F, env, st, R, h⟩ => ⟨φ, F, env, st, R, (Post.bnd h).mono fun d φ1 F1 env1 st1 H1 p1 l1 R1 h1 v r =>
    ⟨φ1, F1, env1, st1, R1, (Post.bnd h1).mono fun ds φ2 F2 env2 st2 H2 p2 l2 R2 h2 vs rs => ret_post R2 h2 _ (.cons (Rp.mono l2.f r) rs)⟩⟩
theorem jvs_nil : JVs X W [] mNil := PA.imp pa_nil fun σ H Q ⟨φ, F, env, st, R, h⟩ => ret_post R h _ .nil
theorem jvs_one (ha : JV X W e m) (hs : starEach (e :: []) X.env = (false, eval e X.env) :: starEach [] X.env := by rfl) : JVs X W [e] (mCons m mNil) :=
  PA.imp (pa_cons ha pa_nil hs) fun σ H Q ⟨φ, F, env, st, R, h⟩ => ⟨φ, F, env, st, R, (Post.bnd h).mono fun d φ1 F1 env1 st1 H1 p1 l1 R1 h1 v r => ret_post R1 (ret_post R1 (Post.bnd h1)) _ (.cons r .nil)⟩
theorem jvs_cons (ha : JE X W e m) (hr : JVs X W es ms) (hs : starEach (e :: es) X.env = (false, eval e X.env) :: starEach es X.env := by rfl) : JVs X W (e :: es) (mCons m ms) :=
  PA.imp (pa_cons ha hr hs) fun σ H Q ⟨φ, F, env, st, R, h⟩ => ⟨φ, F, env, st, R, (Post.bnd h).mono fun d φ1 F1 env1 st1 H1 p1 l1 R1 h1 v r =>
    ⟨φ1, F1, env1, st1, R1, (Post.bnd h1).mono fun ds φ2 F2 env2 st2 H2 p2 l2 R2 h2 vs rs => ret_post R2 h2 _ (.cons (.st (Rp.mono l2.f r)) rs)⟩⟩
/-! displays -/
def mTup (ms : M (List PD)) : M PD := bnd ms fun ds => opt (if ds.length ≤ 1000000 then some (.tuple ds) else none)
def mLst (ms : M (List PD)) : M PD := bnd ms fun ds => opt (if ds.length ≤ 1000000 then some (.list ds) else none)
theorem if_some {α : Type} {c : Prop} [Decidable c] {a b : α} (h : (if c then some a else none) = some b) : c ∧ a = b := by
  by_cases hc : c
  · rw [if_pos hc] at h; exact ⟨hc, Option.some.inj h⟩
  · rw [if_neg hc] at h; cases h
theorem EndD.of {φ : List Addr} {F H : Hp} {env : Env} {st : Sto} {σ : L2.St} {c : PD} {Q : VK} (R : Rel X.K φ F env st σ H) (q : ∀ φ' F' H', φ <+: φ' → Le F F' → Rel X.K φ' F' env st σ H' → ∀ v, Rp X.K F' c v → Q v H') : EndD X.K F H c Q :=
  fun F' H' v g r => q φ F' H' (List.prefix_refl _) g.f (R.grow g) v r
theorem je_tup {k : Nat} (h : JDs X W es ms) : JE X W (.Tuple es k pos) (mTup ms) := by
  refine PE.imp (pe_tup h) fun σ H Q ⟨φ, F, env, st, R, h⟩ => ⟨φ, F, env, st, R, (Post.bnd h).mono fun ds φ1 F1 env1 st1 H1 p1 l1 R1 h1 vs r => ?_⟩
  obtain ⟨c, e, q⟩ := opt_post h1
  obtain ⟨hz, rfl⟩ := if_some e
  exact ⟨lim_le (by rw [r.length]; exact hz), fun p n => (EndD.of R1 q).tup R1.sub r n⟩
theorem je_lst (h : JDs X W es ms) : JE X W (.List es pos) (mLst ms) := by
  refine PE.imp (PE.fz (pe_lst h)) fun σ H Q ⟨φ, F, env, st, R, h⟩ => ⟨φ, F, env, st, R, (Post.bnd h).mono fun ds φ1 F1 env1 st1 H1 p1 l1 R1 h1 vs r => ?_⟩
  obtain ⟨c, e, q⟩ := opt_post h1
  obtain ⟨hz, rfl⟩ := if_some e
  exact ⟨lim_le (by rw [r.length]; exact hz), fun p n => (EndD.of R1 q).lst R1.sub r n⟩
/-! built-ins by data -/
def rC (K : PySem.W.Frag) (g : List PD → Option PD) : List V → Hp → VK → Prop := fun xs H Q => ∃ F ds c, Le F H ∧ Rvs K F H ds xs ∧ g ds = some c ∧ EndD K F H c Q
def mCallB (g : List PD → Option PD) (ms : M (List PD)) : M PD := bnd ms fun ds => opt (g ds)
theorem je_callB {x : Str} {id : String} {p : Pos} {g : List PD → Option PD} (hc : CallR X (.builtin id) (rC X.K g)) (hg : Gl X x) (hm : X.mg x = none) (hv : bootBuiltins x = some (.builtin id)) (ha : JVs X W (e :: es) ms) (hn : x ≠ "__name__" := by decide) (hdb : (x == ("__debug__" : Str)) = false := by decide)
    (he : starEach (e :: es) X.env = (false, eval e X.env) :: starEach es X.env := by rfl) (hpl : (backTo pos (starEach es X.env)).any (·.1) = false := by rfl) : JE X W (.Call (.Name x p) (e :: es) [] pos) (mCallB g ms) :=
  PE.imp (pe_callB hc hg hm hv ha hn hdb he hpl) fun σ H Q ⟨φ, F, env, st, R, h⟩ => ⟨φ, F, env, st, R, (Post.bnd h).mono fun ds φ1 F1 env1 st1 H1 p1 l1 R1 h1 vs r => by
    obtain ⟨c, e, q⟩ := opt_post h1
    exact ⟨F1, ds, c, R1.sub, r, e, EndD.of R1 q⟩⟩
theorem je_callTy {x : Str} {T : String} {p : Pos} {g : List PD → Option PD} (hc : CallR X (.type T) (rC X.K g)) (hg : Gl X x) (hm : X.mg x = none) (hv : bootBuiltins x = some (.type T)) (ha : JVs X W (e :: es) ms) (hn : x ≠ "__name__" := by decide) (hdb : (x == ("__debug__" : Str)) = false := by decide)
    (he : starEach (e :: es) X.env = (false, eval e X.env) :: starEach es X.env := by rfl) (hpl : (backTo pos (starEach es X.env)).any (·.1) = false := by rfl) : JE X W (.Call (.Name x p) (e :: es) [] pos) (mCallB g ms) :=
  PE.imp (pe_callTy hc hg hm hv ha hn hdb he hpl) fun σ H Q ⟨φ, F, env, st, R, h⟩ => ⟨φ, F, env, st, R, (Post.bnd h).mono fun ds φ1 F1 env1 st1 H1 p1 l1 R1 h1 vs r => by
    obtain ⟨c, e, q⟩ := opt_post h1
    exact ⟨F1, ds, c, R1.sub, r, e, EndD.of R1 q⟩⟩
theorem CallR.mk {f : Value} {r r' : List V → Hp → VK → Prop} (h : CallR X f r) (i : ∀ xs H Q, r' xs H Q → r xs H Q) : CallR X f r' := fun pins s σ H xs us Q I r1 hq => h pins s σ H xs us Q I r1 (i xs H Q hq)
theorem CallR.cases {f : Value} {r : List V → Hp → VK → Prop} (h : ∀ xs H Q, r xs H Q → ∃ r', CallR X f r' ∧ r' xs H Q) : CallR X f r := fun pins s σ H xs us Q I r1 hq => by
  obtain ⟨r', h1, h2⟩ := h xs H Q hq
  exact h1 pins s σ H xs us Q I r1 h2
theorem Rvs.one {d : PD} {xs : List V} (h : Rvs K F H [d] xs) : ∃ v, xs = [v] ∧ Rv K F H d v := by
  cases h with
  | cons h r => cases r; exact ⟨_, rfl, h⟩
theorem Rvs.two {d d' : PD} {xs : List V} (h : Rvs K F H [d, d'] xs) : ∃ v v', xs = [v, v'] ∧ Rv K F H d v ∧ Rv K F H d' v' := by
  cases h with
  | cons h r => cases r with
    | cons h2 r => cases r; exact ⟨_, _, rfl, h, h2⟩
def pyLen : List PD → Option PD
  | [.list ds] => some (.int ds.length)
  | [.tuple ds] => some (.int ds.length)
  | [.str x] => if x.length ≤ 1000000 then some (.int x.length) else none
  | _ => none
theorem c_len : CallR X (.builtin "len") (rC X.K pyLen) := by
  refine CallR.cases fun xs H Q hh => ?_
  obtain ⟨F, ds, c, l, r, e, q⟩ := hh
  unfold pyLen at e
  split at e
  · cases e
    obtain ⟨v, rfl, r1⟩ := r.one
    obtain ⟨p, xs, rfl, h, rs⟩ := r1.list l
    exact ⟨_, call_len_seq, p, xs, rfl, .inl (sq_of_rd h), by rw [rs.length]; exact q.imm (.int _)⟩
  · cases e
    obtain ⟨v, rfl, r1⟩ := r.one
    obtain ⟨p, xs, rfl, h, rs, _⟩ := r1.tuple l
    exact ⟨_, call_len_seq, p, xs, rfl, .inr h, by rw [rs.length]; exact q.imm (.int _)⟩
  · obtain ⟨hz, rfl⟩ := if_some e
    obtain ⟨v, rfl, r1⟩ := r.one
    cases r1.str
    exact ⟨_, call_len_str, _, rfl, lim_le hz, q.imm (.int _)⟩
  · cases e
def pyAbs : List PD → Option PD
  | [.int i] => some (.int (if i < 0 then -i else i))
  | _ => none
theorem c_abs : CallR X (.builtin "abs") (rC X.K pyAbs) := by
  refine CallR.cases fun xs H Q hh => ?_
  obtain ⟨F, ds, c, l, r, e, q⟩ := hh
  unfold pyAbs at e
  split at e
  · cases e
    obtain ⟨v, rfl, r1⟩ := r.one
    cases r1.int
    exact ⟨_, call_abs, _, rfl, q.imm (.int _)⟩
  · cases e
def pyInt : List PD → Option PD
  | [.int i] => some (.int i)
  | [.bool b] => some (.int (if b then 1 else 0))
  | _ => none
theorem c_int : CallR X (.type "int") (rC X.K pyInt) := by
  refine CallR.cases fun xs H Q hh => ?_
  obtain ⟨F, ds, c, l, r, e, q⟩ := hh
  unfold pyInt at e
  split at e
  · cases e
    obtain ⟨v, rfl, r1⟩ := r.one
    cases r1.int
    exact ⟨_, call_int1, .inl ⟨_, rfl, q.imm (.int _)⟩⟩
  · cases e
    obtain ⟨v, rfl, r1⟩ := r.one
    cases r1.bool
    exact ⟨_, call_int1, .inr ⟨_, rfl, q.imm (.int _)⟩⟩
  · cases e
def intsOf : List PD → Option (List Int)
  | [] => some []
  | .int i :: r => (intsOf r).map (i :: ·)
  | _ => none
def boolsOf : List PD → Option (List Bool)
  | [] => some []
  | .bool i :: r => (boolsOf r).map (i :: ·)
  | _ => none
theorem intsOf_eq : ∀ {ds : List PD} {ns : List Int}, intsOf ds = some ns → ds = ns.map PyData.int
  | [], _, h => by cases h; rfl
  | .int i :: r, ns, h => by
    simp only [intsOf] at h
    obtain ⟨z, e1, e2⟩ := Option.map_eq_some_iff.mp h
    subst e2
    rw [List.map_cons, ← intsOf_eq e1]
  | .none :: _, _, h => by simp [intsOf] at h
  | .bool _ :: _, _, h => by simp [intsOf] at h
  | .str _ :: _, _, h => by simp [intsOf] at h
  | .list _ :: _, _, h => by simp [intsOf] at h
  | .tuple _ :: _, _, h => by simp [intsOf] at h
  | .dict _ :: _, _, h => by simp [intsOf] at h
theorem boolsOf_eq : ∀ {ds : List PD} {ns : List Bool}, boolsOf ds = some ns → ds = ns.map PyData.bool
  | [], _, h => by cases h; rfl
  | .bool i :: r, ns, h => by
    simp only [boolsOf] at h
    obtain ⟨z, e1, e2⟩ := Option.map_eq_some_iff.mp h
    subst e2
    rw [List.map_cons, ← boolsOf_eq e1]
  | .none :: _, _, h => by simp [boolsOf] at h
  | .int _ :: _, _, h => by simp [boolsOf] at h
  | .str _ :: _, _, h => by simp [boolsOf] at h
  | .list _ :: _, _, h => by simp [boolsOf] at h
  | .tuple _ :: _, _, h => by simp [boolsOf] at h
  | .dict _ :: _, _, h => by simp [boolsOf] at h
@[simp] theorem intsOf_map : ∀ ns : List Int, intsOf (ns.map PyData.int) = some ns
  | [] => rfl
  | n :: ns => by simp [intsOf, intsOf_map ns]
@[simp] theorem boolsOf_map : ∀ ns : List Bool, boolsOf (ns.map PyData.bool) = some ns
  | [] => rfl
  | n :: ns => by simp [boolsOf, boolsOf_map ns]
def pySum : List PD → Option PD
  | [.list ds] => (intsOf ds).map fun ns => .int ns.sum
  | _ => none
def pyAny : List PD → Option PD
  | [.list ds] => (boolsOf ds).map fun ns => .bool (ns.any id)
  | _ => none
def pyAll : List PD → Option PD
  | [.list ds] => (boolsOf ds).map fun ns => .bool (ns.all id)
  | _ => none
theorem c_sum (o : X.calm = true) : CallR X (.builtin "sum") (rC X.K pySum) := by
  refine CallR.cases fun xs H Q hh => ?_
  obtain ⟨F, ds, c, l, r, e, q⟩ := hh
  unfold pySum at e
  split at e
  · obtain ⟨ns, e1, e2⟩ := Option.map_eq_some_iff.mp e
    subst e2
    obtain ⟨v, rfl, r1⟩ := r.one
    obtain ⟨p, xs, rfl, h, rs⟩ := r1.list l
    rw [intsOf_eq e1] at rs
    rw [rs.ints_inv] at h
    exact ⟨_, cr_sum o, p, ns, rfl, sq_of_rd h, q.imm (.int _)⟩
  · cases e
theorem c_any (o : X.calm = true) : CallR X (.builtin "any") (rC X.K pyAny) := by
  refine CallR.cases fun xs H Q hh => ?_
  obtain ⟨F, ds, c, l, r, e, q⟩ := hh
  unfold pyAny at e
  split at e
  · obtain ⟨ns, e1, e2⟩ := Option.map_eq_some_iff.mp e
    subst e2
    obtain ⟨v, rfl, r1⟩ := r.one
    obtain ⟨p, xs, rfl, h, rs⟩ := r1.list l
    rw [boolsOf_eq e1] at rs
    rw [rs.bools_inv] at h
    exact ⟨_, cr_any o, p, ns, rfl, sq_of_rd h, q.imm (.bl _)⟩
  · cases e
theorem c_all (o : X.calm = true) : CallR X (.builtin "all") (rC X.K pyAll) := by
  refine CallR.cases fun xs H Q hh => ?_
  obtain ⟨F, ds, c, l, r, e, q⟩ := hh
  unfold pyAll at e
  split at e
  · obtain ⟨ns, e1, e2⟩ := Option.map_eq_some_iff.mp e
    subst e2
    obtain ⟨v, rfl, r1⟩ := r.one
    obtain ⟨p, xs, rfl, h, rs⟩ := r1.list l
    rw [boolsOf_eq e1] at rs
    rw [rs.bools_inv] at h
    exact ⟨_, cr_all o, p, ns, rfl, sq_of_rd h, q.imm (.bl _)⟩
  · cases e
def pyList : List PD → Option PD
  | [.list ds] => some (.list ds)
  | [.tuple ds] => some (.list ds)
  | _ => none
def pyTuple : List PD → Option PD
  | [.list ds] => some (.tuple ds)
  | [.tuple ds] => some (.tuple ds)
  | _ => none
theorem c_list : CallR X (.type "list") (rC X.K pyList) := by
  refine CallR.cases fun xs H Q hh => ?_
  obtain ⟨F, ds, c, l, r, e, q⟩ := hh
  unfold pyList at e
  split at e
  · cases e
    obtain ⟨v, rfl, r1⟩ := r.one
    obtain ⟨p, xs, rfl, h, rs⟩ := r1.list l
    exact ⟨_, CallR.fz call_list_of, p, xs, rfl, .inl (sq_of_rd h), fun a n => q.lst l rs n⟩
  · cases e
    obtain ⟨v, rfl, r1⟩ := r.one
    obtain ⟨p, xs, rfl, h, rs, _⟩ := r1.tuple l
    exact ⟨_, CallR.fz call_list_of, p, xs, rfl, .inr h, fun a n => q.lst l rs n⟩
  · cases e
theorem c_tuple : CallR X (.type "tuple") (rC X.K pyTuple) := by
  refine CallR.cases fun xs H Q hh => ?_
  obtain ⟨F, ds, c, l, r, e, q⟩ := hh
  unfold pyTuple at e
  split at e
  · cases e
    obtain ⟨v, rfl, r1⟩ := r.one
    obtain ⟨p, xs, rfl, h, rs⟩ := r1.list l
    exact ⟨_, call_tuple_of, p, xs, rfl, .inl ⟨sq_of_rd h, fun a n => q.tup l rs n⟩⟩
  · cases e
    obtain ⟨v, rfl, r1⟩ := r.one
    obtain ⟨p, xs, rfl, h, rs, h2⟩ := r1.tuple l
    exact ⟨_, call_tuple_of, p, xs, rfl, .inr ⟨h, q.imm (.tup h2 rs)⟩⟩
  · cases e
end
end TL

namespace TL
open PySem PySem.Spec L2
open PyProof.Rows hiding St
open PySem.W
/-! ### sorted of a tuple -/
section
variable {prog : Program} {w : World} {A : Around} {E : Value → Shared → Prop} {s : Shared} {vs : List Value} {bs : List PyData} {R : Value → PyData → Prop}
/-- the copy that sorted makes of a tuple's items -/
theorem collect_tupE {t : Addr} {Q : List Value → Shared → Prop} (ht : IsTup s.heap t vs.toArray) (h : Q vs { s with heap := (s.heap.push (seqObj "list" #[] 0)).update s.heap.objs.size (Obj.mapSeq (· ++ vs.toArray)) }) (hsz : vs.length ≤ sizeLine) :
    wpAny (model prog w) A (collect (.ref t)) Q E s := by
  obtain ⟨o, ho, hc, n, hd⟩ := ht
  unfold collect
  refine wpAny_bind (wpAny_runValue (codeAny_builtin PySem.F.entry_proto_collect ?_))
  rw [Around.under_plainId PySem.F.plain_proto_collect _]
  refine wpAny_bind (wpAny_newObj_type ?_)
  refine wpAny_pure ⟨PySem.plainId_quiet PySem.F.plain_list_iadd _, codeAny_builtin PySem.F.entry_list_iadd ?_⟩
  rw [Around.under_plainId PySem.F.plain_list_iadd _]
  have h0 : (s.heap.push (seqObj "list" #[] 0)).get? s.heap.objs.size = some (seqObj "list" #[] 0) := Heap.get?_push_size _ rfl
  have h2 := Heap.get?_update_self (Obj.mapSeq (· ++ vs.toArray)) h0 rfl
  have fin : wpAny (model prog w) A (match Value.ref s.heap.objs.size with
      | Value.ref a => do
        match (← load a).data with
          | Data.seq xs _ => pure xs.toList
          | _ => unsupported "internal:collect"
      | _ => unsupported "internal:collect") Q E { s with heap := (s.heap.push (seqObj "list" #[] 0)).update s.heap.objs.size (Obj.mapSeq (· ++ vs.toArray)) } := by
    refine wpAny_bind (wpAny_load h2 (wpAny_pure ?_))
    have e : ((#[] : Array Value) ++ vs.toArray).toList = vs := by simp
    show Q ((#[] : Array Value) ++ vs.toArray).toList _
    rw [e]
    exact h
  refine wpAny_mono (wpAny_extend_seq (hsz := by simpa using hsz) (A := A) (R := fun r s' => r = .ok (.ret (.ref s.heap.objs.size)) ∧ s' = { s with heap := (s.heap.push (seqObj "list" #[] 0)).update s.heap.objs.size (Obj.mapSeq (· ++ vs.toArray)) })
    (s := { s with heap := s.heap.push (seqObj "list" #[] 0) }) _ t _ 0 (.inr rfl) h0 (Heap.get?_push_of_some _ ho) hc hd ⟨rfl, rfl⟩) (fun f s' q => ?_) (fun e s' q => absurd q.1 (by simp))
  cases f with
  | done f =>
    obtain ⟨e, rfl⟩ := q
    cases e
    exact fin
  | again c' => exact ⟨q.1, codeAny_mono q.2 fun r s'' hr => by obtain ⟨rfl, rfl⟩ := hr; exact fin⟩
theorem sorted_tupD {t : Addr} {Q : Value → Shared → Prop} (ht : IsTup s.heap t vs.toArray) (e : EachIs R vs bs) (er : EachIs (fun v b => ∃ as, Reads s.heap v b as) vs bs) (hal : AllAlike bs) (hk : Sortable bs) (hL : bs.length ≤ sizeLine)
    (hu : ∀ b, b ∈ bs → A.units + 2 + b.depth < cLine) (h : ∀ out, EachIs R out (bs.mergeSort (dataLe false fun d => d)) → Q (.ref (s.heap.objs.size + 1)) { s with heap := sortedAll s.heap vs (List.toArray out) }) :
    wpAny (model prog w) A (call (.builtin "sorted") [.ref t]) Q E s := by
  have hLv : vs.length ≤ sizeLine := by rw [e.length]; exact hL
  refine call_function_entry_kw kind_sorted plain_sorted entry_sorted (args_sorted1 _) ?_
  unfold Builtin.«sorted»
  refine wpAny_bind (m := checkCount "sorted" 1 1 _) (wpAny_pure ?_)
  refine wpAny_bind (collect_tupE ht ?_ hLv)
  refine wpAny_bind (wpAny_newList ?_ hLv)
  have hsz : ((s.heap.push (seqObj "list" #[] 0)).update s.heap.objs.size (Obj.mapSeq (· ++ vs.toArray))).objs.size = s.heap.objs.size + 1 := by
    rw [Heap.size_update, size_push']
  show wpAny _ _ _ _ _ { s with heap := copyHeap s.heap vs }
  rw [hsz]
  have er2 : EachIs (fun v b => ∃ as, Reads (sortingHeap (copyHeap s.heap vs) (s.heap.objs.size + 1) vs) v b as) vs bs := er.mono fun _ _ ⟨as, r⟩ => ⟨as, PyProof.Rows.Reads.keeps (fun _ _ => sorting_copy_old) r⟩
  have S := SortsAt.data (prog := prog) (w := w) (A := A.in1.in1) (s := { s with heap := sortingHeap (copyHeap s.heap vs) (s.heap.objs.size + 1) vs }) er2 hal hk (fun d hd => hu d hd)
  have eo := sortVals_data (enc := fun d => d) false e (by simpa using er2) (by simpa using hal)
  refine wpAny_bind (wpAny_holding (wpAny_call_entry_kw slot_list_sort ⟨_, copyHeap_at s.heap vs, rfl⟩ entry_list_sort ?_ (args_list_sort _)))
  exact list_sort_vals (s := { s with heap := copyHeap s.heap vs }) (copyHeap_at s.heap vs) S hLv ⟨_, rfl, wpAny_pure ⟨_, rfl, h _ (by simpa using eo)⟩⟩
end
end TL

namespace TL
open PySem PySem.Spec L2
open PyProof.Rows hiding St
open PySem.W (AlikeAll minD maxD min_list_data max_list_data max_tuple_data min_tuple_data)

def alikes (ds : List PD) : Bool := (ds.all fun a => ds.all fun b => PySem.W.alike a b) && ds.all fun a => !pyIsNone a
theorem alikes_all {ds : List PD} (h : alikes ds = true) : AlikeAll ds := by
  unfold alikes at h
  simp only [Bool.and_eq_true, List.all_eq_true] at h
  exact ⟨fun x hx y hy => h.1 x hx y hy, fun x hx => ne_none (by simpa using h.2 x hx)⟩
def pyMin : List PD → Option PD
  | [.int i, .int j] => some (.int (if j < i then j else i))
  | [.list (x :: xs)] => if alikes (x :: xs) = true ∧ shs 60 (x :: xs) = true then some (minD x xs) else none
  | _ => none
def pyMax : List PD → Option PD
  | [.int i, .int j] => some (.int (if j > i then j else i))
  | [.list (x :: xs)] => if alikes (x :: xs) = true ∧ shs 60 (x :: xs) = true then some (maxD x xs) else none
  | [.tuple (x :: xs)] => if alikes (x :: xs) = true ∧ shs 60 (x :: xs) = true then some (maxD x xs) else none
  | _ => none
theorem rdIs {X : Cx} {pins : List (Addr × Obj)} {σ : L2.St} {H : Hp} {s : Shared} {a : Addr} {xs : List V} (I : Inv X pins σ H s) (h : Rd H a (.lst xs)) : ∃ its : List Value, Vals xs its ∧ s.heap.IsList a its.toArray := by
  obtain ⟨z, its, n, r, _, e⟩ := rdL I h
  exact ⟨its, r, _, e, rfl, n, rfl⟩
theorem vals_at {xs : List V} {us : List Value} {i : Nat} {u : Value} (r : Vals xs us) (e : us[i]? = some u) : ∃ x, xs[i]? = some x ∧ RelV x u := by
  cases h : xs[i]? with
  | none => rw [Vals.none_of r h] at e; cases e
  | some x =>
    obtain ⟨u', e', r'⟩ := r.get h
    rw [e] at e'; cases e'
    exact ⟨x, rfl, r'⟩
theorem dep_all {n : Nat} {ds : List PD} (h : shs n ds = true) : PyData.depthAll ds ≤ n := (shs_can n ds h).2
theorem sh_mem {n : Nat} : ∀ {ds : List PD}, shs n ds = true → ∀ d ∈ ds, sh n d = true
  | [], _, d, hd => absurd hd (by simp)
  | x :: xs, h, d, hd => by
    simp only [shs, Bool.and_eq_true] at h
    rcases List.mem_cons.mp hd with e | hd
    · rw [e]; exact h.1
    · exact sh_mem h.2 d hd
section
variable {X : Cx} {W : WX}
theorem pick_data {K : PySem.W.Frag} {pins : List (Addr × Obj)} {σ : L2.St} {F H : Hp} {s : Shared} {a : Addr} {xs : List V} {x : PD} {ds : List PD} {its : List Value} {c : PD} (I : Inv X pins σ H s) (l : Le F H) (rs : Rps X.K F (x :: ds) xs) (rv : Vals xs its) (hal : alikes (x :: ds) = true) (hsh : shs 60 (x :: ds) = true)
    (hc : c ∈ x :: ds) {i : Nat} {v : Value} {h' : Heap} {tk : Nat} {bs : List Addr} (ei : its.toArray[i]? = some v) (rd : Reads h' v c bs) (kp : ∀ b o, s.heap.get? b = some o → h'.get? b = some o) : ∃ z, RelV z v ∧ Rp X.K F c z ∧ Inv X pins σ H { s with heap := h', toks := tk } := by
  obtain ⟨z, e1, r1⟩ := vals_at rv (by simpa using ei)
  obtain ⟨d, e2, r2⟩ := rs.get' e1
  have I' : Inv X pins σ H { s with heap := h', toks := tk } := I.kept kp
  have hd : d ∈ x :: ds := List.mem_of_getElem? e2
  obtain ⟨as, rd2⟩ := Dp.reads I' d z v (r2.dps l (sh_mem hsh d hd)) r1
  have : d = c := PySem.W.alike_unique d c v as bs ((alikes_all hal).1 d hd c hc) rd2 rd
  rw [← this]
  exact ⟨z, r1, r2, I'⟩
theorem minD_mem (x : PD) : ∀ xs : List PD, minD x xs ∈ x :: xs := by
  intro xs
  unfold minD
  induction xs generalizing x with
  | nil => simp
  | cons y ys ih =>
    rw [List.foldl_cons]
    by_cases h : PySem.W.dataLt y x = true
    · rw [if_pos h]; exact List.mem_cons_of_mem _ (ih y)
    · rw [if_neg h]
      rcases List.mem_cons.mp (ih x) with e | e
      · rw [e]; exact List.mem_cons_self
      · exact List.mem_cons_of_mem _ (List.mem_cons_of_mem _ e)
theorem maxD_mem (x : PD) : ∀ xs : List PD, maxD x xs ∈ x :: xs := by
  intro xs
  unfold maxD
  induction xs generalizing x with
  | nil => simp
  | cons y ys ih =>
    rw [List.foldl_cons]
    by_cases h : PySem.W.dataLt x y = true
    · rw [if_pos h]; exact List.mem_cons_of_mem _ (ih y)
    · rw [if_neg h]
      rcases List.mem_cons.mp (ih x) with e | e
      · rw [e]; exact List.mem_cons_self
      · exact List.mem_cons_of_mem _ (List.mem_cons_of_mem _ e)
theorem c_min (o : Okx X) : CallR X (.builtin "min") (rC X.K pyMin) := by
  intro pins s σ H xs us Q I r1 hh
  obtain ⟨F, ds, c, l, r, e, q⟩ := hh
  unfold pyMin at e
  split at e
  · cases e
    obtain ⟨v, v', rfl, ra, rb⟩ := r.two
    cases ra.int; cases rb.int
    exact call_min2 o.calm pins s σ H _ us Q I r1 ⟨_, _, rfl, q.imm (.int _)⟩
  · rename_i x ds
    obtain ⟨hz, rfl⟩ := if_some e
    obtain ⟨v, rfl, ra⟩ := r.one
    obtain ⟨p, xs, rfl, h, rs⟩ := ra.list l
    obtain ⟨its, rv, il⟩ := rdIs I h
    obtain ⟨as, rd⟩ := Dp.readsAll I (x :: ds) xs its (Rps.dp l (noDicts_of_can (shs_can 60 _ hz.2).1) rs) rv
    rw [Vals.ref1 r1]
    have hu := o.hu
    have hd := dep_all hz.2
    refine min_list_data o.hd il (by simpa using rd) (alikes_all hz.1) (by omega) fun i v h' tk bs e1 e2 kp => ?_
    obtain ⟨z, r1, r2, I'⟩ := pick_data (K := X.K) (a := p) (tk := tk) I l rs rv hz.1 hz.2 (minD_mem x ds) e1 e2 kp
    exact ⟨z, H, I', r1, q.imm r2⟩
  · cases e
theorem c_max (o : Okx X) : CallR X (.builtin "max") (rC X.K pyMax) := by
  intro pins s σ H xs us Q I r1 hh
  obtain ⟨F, ds, c, l, r, e, q⟩ := hh
  unfold pyMax at e
  split at e
  · cases e
    obtain ⟨v, v', rfl, ra, rb⟩ := r.two
    cases ra.int; cases rb.int
    exact call_max2 o.calm pins s σ H _ us Q I r1 ⟨_, _, rfl, q.imm (.int _)⟩
  · rename_i x ds
    obtain ⟨hz, rfl⟩ := if_some e
    obtain ⟨v, rfl, ra⟩ := r.one
    obtain ⟨p, xs, rfl, h, rs⟩ := ra.list l
    obtain ⟨its, rv, il⟩ := rdIs I h
    obtain ⟨as, rd⟩ := Dp.readsAll I (x :: ds) xs its (Rps.dp l (noDicts_of_can (shs_can 60 _ hz.2).1) rs) rv
    rw [Vals.ref1 r1]
    have hu := o.hu
    have hd := dep_all hz.2
    refine max_list_data o.hd il (by simpa using rd) (alikes_all hz.1) (by omega) fun i v h' tk bs e1 e2 kp => ?_
    obtain ⟨z, r1, r2, I'⟩ := pick_data (K := X.K) (a := p) (tk := tk) I l rs rv hz.1 hz.2 (maxD_mem x ds) e1 e2 kp
    exact ⟨z, H, I', r1, q.imm r2⟩
  · rename_i x ds
    obtain ⟨hz, rfl⟩ := if_some e
    obtain ⟨v, rfl, ra⟩ := r.one
    obtain ⟨p, xs, rfl, h, rs, _⟩ := ra.tuple l
    obtain ⟨its, rv, il, _⟩ := I.tuple h
    obtain ⟨as, rd⟩ := Dp.readsAll I (x :: ds) xs its (Rps.dp l (noDicts_of_can (shs_can 60 _ hz.2).1) rs) rv
    rw [Vals.ref1 r1]
    have hu := o.hu
    have hd := dep_all hz.2
    refine max_tuple_data o.hd il (by simpa using rd) (alikes_all hz.1) (by omega) fun i v h' tk bs e1 e2 kp => ?_
    obtain ⟨z, r1, r2, I'⟩ := pick_data (K := X.K) (a := p) (tk := tk) I l rs rv hz.1 hz.2 (maxD_mem x ds) e1 e2 kp
    exact ⟨z, H, I', r1, q.imm r2⟩
  · cases e
/-! sorted -/
def isTupC : PD → Bool
  | .tuple (_ :: _) => true
  | _ => false
def isTup : PD → Bool
  | .tuple _ => true
  | _ => false
def sortB (ds : List PD) : Bool := ds.all isTupC || ds.all fun d => !pyIsNone d && !isTup d
theorem sortB_ok {ds : List PD} (h : sortB ds = true) : PySem.W.Sortable ds := by
  unfold sortB at h
  simp only [Bool.or_eq_true, List.all_eq_true, Bool.and_eq_true, Bool.not_eq_true'] at h
  rcases h with h | h
  · refine .inl fun d hd => ?_
    have := h d hd
    cases d <;> simp [isTupC] at this
    rename_i xs
    cases xs <;> simp [isTupC] at this
    exact ⟨_, _, rfl⟩
  · refine .inr fun d hd => ⟨ne_none (h d hd).1, fun xs z => ?_⟩
    have := (h d hd).2
    rw [z] at this
    cases this
/-- Python's order of alike data, as mergeSort wants it -/
abbrev leD : PD → PD → Bool := PySem.W.dataLe false fun d => d
def sortD (ds : List PD) : List PD := ds.mergeSort leD
def sortable (ds : List PD) : Bool := alikes ds && shs 60 ds && sortB ds && decide (ds.length ≤ 1000000)
def pySorted : List PD → Option PD
  | [.list ds] => if sortable ds = true then some (.list (sortD ds)) else none
  | [.tuple ds] => if sortable ds = true then some (.list (sortD ds)) else none
  | _ => none
theorem each_of {K : PySem.W.Frag} {F : Hp} : ∀ {ds : List PD} {xs : List V} {us : List Value}, Rps K F ds xs → Vals xs us → PySem.W.EachIs (fun u d => ∃ x, RelV x u ∧ Rp K F d x) us ds
  | _, _, _, .nil, .nil => .nil
  | _, _, _, .cons h r, .cons h2 r2 => .cons ⟨_, h2, h⟩ (each_of r r2)
theorem of_each {K : PySem.W.Frag} {F : Hp} : ∀ {us : List Value} {ds : List PD}, PySem.W.EachIs (fun u d => ∃ x, RelV x u ∧ Rp K F d x) us ds → ∃ xs, Rps K F ds xs ∧ Vals xs us
  | _, _, .nil => ⟨[], .nil, .nil⟩
  | _, _, .cons ⟨x, h1, h2⟩ r => by
    obtain ⟨xs, r1, r2⟩ := of_each r
    exact ⟨x :: xs, .cons h2 r1, .cons h1 r2⟩
theorem each_reads {pins : List (Addr × Obj)} {σ : L2.St} {F H : Hp} {s : Shared} (I : Inv X pins σ H s) (l : Le F H) : ∀ {ds : List PD} {us : List Value}, shs 60 ds = true → PySem.W.EachIs (fun u d => ∃ x, RelV x u ∧ Rp X.K F d x) us ds → PySem.W.EachIs (fun u d => ∃ as, Reads s.heap u ((fun d => d) d) as) us ds
  | _, _, _, .nil => .nil
  | _, _, h, .cons ⟨x, h1, h2⟩ r => by
    simp only [shs, Bool.and_eq_true] at h
    exact .cons (Dp.reads I _ x _ (h2.dps l h.1) h1) (each_reads I l h.2 r)
theorem c_sorted (o : Okx X) : CallR X (.builtin "sorted") (rC X.K pySorted) := by
  intro pins s σ H xs us Q I r1 hh
  obtain ⟨F, ds, c, l, r, e, q⟩ := hh
  unfold pySorted at e
  split at e
  · rename_i ds
    obtain ⟨hz, rfl⟩ := if_some e
    unfold sortable at hz
    simp only [Bool.and_eq_true, decide_eq_true_eq] at hz
    obtain ⟨⟨⟨h1, h2⟩, h3⟩, h4⟩ := hz
    obtain ⟨v, rfl, ra⟩ := r.one
    obtain ⟨p, xs, rfl, h, rs⟩ := ra.list l
    obtain ⟨its, rv, il⟩ := rdIs I h
    rw [Vals.ref1 r1]
    have hu := o.hu
    have er := each_of rs rv
    refine PySem.W.sorted_data (enc := fun d => d) (bs := ds) il er (each_reads I l h2 er) (fun d hd d' hd' => ?_) ?_ (lim_le h4) (fun d hd => ?_) fun out hl eo => ?_
    · rw [List.map_id'] at hd hd'
      exact (alikes_all h1).1 d hd d' hd'
    · rw [List.map_id']; exact sortB_ok h3
    · have := (sh_can 60 d (sh_mem h2 d hd)).2
      omega
    · obtain ⟨ys, r1, r2⟩ := of_each eo
      obtain ⟨e0, he0⟩ := sortedAll_at s.heap its out.toArray
      have hn : H (s.heap.objs.size + 1) = none := I.hok.fresh (Nat.le_succ _)
      have hsz : ys.length ≤ sizeLine := by
        rw [r1.length, List.length_mergeSort]; exact lim_le h4
      refine EP.fz ⟨.ref _, _, I.laid (a := s.heap.objs.size + 1) (o := .lst ys) (t' := s.toks) (fun b ob => sortedAll_old) (Nat.le_succ _) ⟨hsz, out, e0, r2, he0⟩, rfl, q.lst l r1 hn⟩
  · rename_i ds
    obtain ⟨hz, rfl⟩ := if_some e
    unfold sortable at hz
    simp only [Bool.and_eq_true, decide_eq_true_eq] at hz
    obtain ⟨⟨⟨h1, h2⟩, h3⟩, h4⟩ := hz
    obtain ⟨v, rfl, ra⟩ := r.one
    obtain ⟨p, xs, rfl, h, rs, _⟩ := ra.tuple l
    obtain ⟨its, rv, il, _⟩ := I.tuple h
    rw [Vals.ref1 r1]
    have hu := o.hu
    have er := each_of rs rv
    refine sorted_tupD il er (each_reads I l h2 er) (fun d hd d' hd' => (alikes_all h1).1 d hd d' hd') (sortB_ok h3) (lim_le h4) (fun d hd => ?_) fun out eo => ?_
    · have := (sh_can 60 d (sh_mem h2 d hd)).2
      omega
    · obtain ⟨ys, r1, r2⟩ := of_each eo
      obtain ⟨e0, he0⟩ := sortedAll_at s.heap its out.toArray
      have hn : H (s.heap.objs.size + 1) = none := I.hok.fresh (Nat.le_succ _)
      have hsz : ys.length ≤ sizeLine := by
        rw [r1.length, List.length_mergeSort]; exact lim_le h4
      refine EP.fz ⟨.ref _, _, I.laid (a := s.heap.objs.size + 1) (o := .lst ys) (t' := s.toks) (fun b ob => sortedAll_old) (Nat.le_succ _) ⟨hsz, out, e0, r2, he0⟩, rfl, q.lst l r1 hn⟩
  · cases e
/-! isinstance -/
def tyName : PD → String
  | .none => "NoneType"
  | .bool _ => "bool"
  | .int _ => "int"
  | .str _ => "str"
  | .list _ => "list"
  | .tuple _ => "tuple"
  | .dict _ => "dict"
def isA (d : PD) (T : String) : Bool := decide (tyName d = T) || (decide (T = "int") && decide (tyName d = "bool"))
def isaT (T : String) : Prop := T = "int" ∨ T = "bool" ∨ T = "str" ∨ T = "list" ∨ T = "tuple" ∨ T = "dict"
theorem kit_isA {K : PySem.W.Frag} {d : PD} {T : String} (h : isaT T) : PySem.W.kitOne K (.type (tyName d)) (.type T) = some (isA d T) := by
  rcases h with rfl | rfl | rfl | rfl | rfl | rfl <;> cases d <;> rfl
theorem kit_T {pins : List (Addr × Obj)} {σ : L2.St} {F H : Hp} {s : Shared} {d : PD} {v : V} {u : Value} (I : Inv X pins σ H s) (l : Le F H) (r : Rp X.K F d v) (ru : RelV v u) :
    ∃ P : Heap → Prop, PySem.W.KitX X.K u (.type (tyName d)) P ∧ P s.heap ∧ u ≠ .builtin "__main__.__loader__#opaque" := by
  cases r with
  | non => exact kit_of I ru (.base .non)
  | bl b => exact kit_of I ru (.base (.bl b))
  | int i => exact kit_of I ru (.base (.int i))
  | str x => exact kit_of I ru (.base (.str x))
  | lst h _ => obtain ⟨o, h⟩ := h; exact kit_of I ru (.base (.frz (l _ _ h)))
  | tup h _ =>
    rcases sqT_mono h l.f with (h | ⟨o, h⟩) | ⟨o, its, n, h1, h2, _⟩
    · exact kit_of I ru (.base (.tup h))
    · exact kit_of I ru (.fTuple h)
    · exact kit_of I ru (.kTuple h1 h2)
  | dct h _ => exact kit_of I ru (.fDict (l _ _ h))
  | @dctT a o kvs ds h _ =>
    have e : u = .ref a := ru
    subst e
    obtain ⟨_, _, _, xs, _, o', es, ep, h1, h2, _⟩ := I.hok _ _ (l _ _ h)
    exact ⟨_, PySem.W.kitx_dict, ⟨o', h1, h2.1⟩, fun z => nomatch z⟩
/-- isinstance(x, T) -/
def mIsA (T : String) (m : M PD) : M PD := bnd m fun d => ret (.bool (isA d T))
theorem c_isa {T : String} (h : isaT T) : CallR X (.builtin "isinstance") (fun xs H Q => ∃ F d v, Le F H ∧ Rp X.K F d v ∧ xs = [v, .ty T] ∧ Q (.bl (isA d T)) H) := by
  intro pins s σ H xs us Q I r hh
  obtain ⟨F, d, v, l, rd, rfl, q⟩ := hh
  obtain ⟨u1, u2, rfl, r1, r2⟩ := vals2 r
  have e2 : u2 = .type T := r2
  subst e2
  obtain ⟨P, Z, p, hx⟩ := kit_T I l rd r1
  exact PySem.W.kia_one Z I.kIn p (kit_isA h) hx fun tk => ⟨.bl _, H, I.tok tk, rfl, q⟩
theorem je_isA {T : Str} {x : Str} {e : Expr} {pos p p2 : Pos} {m : M PD} {Ts : String} (hT : isaT Ts) (hg : Gl X x) (hm : X.mg x = none) (hv : bootBuiltins x = some (.builtin "isinstance")) (hgT : Gl X T) (hmT : X.mg T = none) (hvT : bootBuiltins T = some (.type Ts)) (he : JE X W e m)
    (hn : x ≠ "__name__" := by decide) (hdb : (x == ("__debug__" : Str)) = false := by decide) (hnT : T ≠ "__name__" := by decide) (hdT : (T == ("__debug__" : Str)) = false := by decide)
    (hs1 : starEach (e :: [.Name T p2]) X.env = (false, eval e X.env) :: starEach [.Name T p2] X.env := by rfl) (hs2 : starEach [.Name T p2] X.env = (false, eval (.Name T p2) X.env) :: starEach [] X.env := by rfl)
    (hpl : (backTo pos (starEach [.Name T p2] X.env)).any (·.1) = false := by rfl) : JE X W (.Call (.Name x p) [e, .Name T p2] [] pos) (mIsA Ts m) :=
  PE.imp (pe_callB (c_isa hT) hg hm hv (pa_cons he (pa_cons (pe_bltn (v := .ty Ts) hgT hmT hvT rfl hnT hdT) pa_nil hs2) hs1) hn hdb hs1 hpl) fun σ H Q ⟨φ, F, env, st, R, h⟩ => ⟨φ, F, env, st, R, (Post.bnd h).mono fun d φ1 F1 env1 st1 H1 p1 l1 R1 h1 v r =>
    ⟨F1, d, v, R1.sub, r, rfl, ret_post R1 h1 _ (.bl _)⟩⟩
end
end TL

namespace TL
open PySem PySem.Spec L2
open PyProof.Rows hiding St

inductive Rf where
  | ret (a : Ag) (st : Sto) | exc (c : String) (st : Sto) | bad
abbrev Sem1 := List Ag → Sto → Rf
structure StoOk (K : PySem.W.Frag) (φ : List Addr) (F : Hp) (st : Sto) (H : Hp) : Prop where
  slen : φ.length = st.length
  nd : φ.Nodup
  sto : ∀ (k : Nat) p e, φ[k]? = some p → st[k]? = some e → F p = none ∧ SOk K F H p e
theorem Rel.stoOk {K : PySem.W.Frag} {φ : List Addr} {F H : Hp} {env : Env} {st : Sto} {σ : L2.St} (R : Rel K φ F env st σ H) : StoOk K φ F st H := ⟨R.slen, R.nd, R.sto⟩
theorem StoOk.free {K : PySem.W.Frag} {φ : List Addr} {F H : Hp} {st : Sto} (S : StoOk K φ F st H) {p : Addr} (h : p ∈ φ) : F p = none := by
  obtain ⟨k, hk, e⟩ := List.getElem_of_mem h
  have hk2 : k < st.length := by rw [← S.slen]; exact hk
  exact (S.sto k p st[k] (by rw [List.getElem?_eq_getElem hk, e]) (List.getElem?_eq_getElem hk2)).1
/-- what a def with the pure side f promises -/
def spT (K : PySem.W.Frag) (mg : Str → Option Value) (f : Sem1) : Sp := fun vs H Q E => ∃ φ F as st, Le F H ∧ StoOk K φ F st H ∧ Ras K φ F as vs ∧
  match f as st with
  | .ret a st' => ∀ φ' F' H' v, φ <+: φ' → Le F F' → Le F' H' → StoOk K φ' F' st' H' → Ra K φ' F' a v → Q v H'
  | .exc c st' => ∀ φ' F' H' C od, φ <+: φ' → Le F F' → Le F' H' → StoOk K φ' F' st' H' → mg (PySem.Str.ofString c) = some (.ref C) → E (.ref C) od H'
  | .bad => False
def mCall (f : Sem1) (ms : M (List Ag)) : M Ag := bnd ms fun as env st => match f as st with
  | .ret a st' => .ok a env st'
  | .exc c st' => .exc c env st'
  | .bad => .bad
def agD : Ag → Option PD
  | .d x => some x
  | _ => none
def mD (m : M Ag) : M PD := bnd m fun a => opt (agD a)
section
variable {K : PySem.W.Frag} {φ φ' : List Addr} {F F' H H' : Hp} {env : Env} {st st' : Sto} {σ : L2.St}
/-- from a caller's side all but the store stands still -/
def calF (φ : List Addr) (H : Hp) : Hp := fun p => if p ∈ φ then none else H p
theorem Rel.calF (R : Rel K φ F env st σ H) : Le F (calF φ H) ∧ Le (TL.calF φ H) H ∧ StoOk K φ (TL.calF φ H) st H := by
  have l1 : Le F (TL.calF φ H) := fun p o e => by
    unfold TL.calF
    rw [if_neg fun hp => by rw [R.stoOk.free hp] at e; cases e]
    exact R.sub _ _ e
  refine ⟨l1, fun p o e => ?_, R.slen, R.nd, fun k p ds e1 e2 => ?_⟩
  · unfold TL.calF at e
    split at e
    · cases e
    · exact e
  · obtain ⟨n, r⟩ := R.sto k p ds e1 e2
    exact ⟨by unfold TL.calF; rw [if_pos (List.mem_of_getElem? e1)], r.mono l1.f fun _ h => h⟩
open Classical in
theorem Rel.back (R : Rel K φ F env st σ H) (p : φ <+: φ') (l : Le (TL.calF φ H) F') (l' : Le F' H') (S : StoOk K φ' F' st' H') : ∃ F'', Le F F'' ∧ LeF F' F'' ∧ Rel K φ' F'' env st' σ H' := by
  let own : Addr → Prop := fun q => ∃ (i : Nat) (sl : Sl), env[i]? = some sl ∧ sl.isOwn = true ∧ σ[i]? = some (some (.ref q))
  have hown : ∀ q, own q → F q = none ∧ q ∉ φ ∧ ∃ o, H q = some o ∧ Wr o ∧ F' q = some o := fun q ⟨i, sl, e1, e2, e3⟩ => by
    obtain ⟨q', f1, f2, f3, f4⟩ := R.own i sl e1 e2
    rw [e3] at f1; cases f1
    obtain ⟨o, eo, mu⟩ := f4.there
    exact ⟨f2, f3, o, eo, mu, l _ _ (by unfold TL.calF; rw [if_neg f3]; exact eo)⟩
  let F'' : Hp := fun q => if own q then none else F' q
  have c1 : Le F F'' := fun q o e => by
    show (if own q then none else F' q) = some o
    have no : ¬ own q := fun h => by rw [(hown q h).1] at e; cases e
    rw [if_neg no]
    exact l _ _ (R.calF.1 _ _ e)
  have mu_of : ∀ q o, F' q = some o → ¬ Wr o → F'' q = some o := fun q o e nm => by
    show (if own q then none else F' q) = some o
    have no : ¬ own q := fun h => by
      obtain ⟨_, _, o', _, mu, e'⟩ := hown q h
      rw [e] at e'; cases e'
      exact nm mu
    rw [if_neg no]
    exact e
  have c2 : LeF F' F'' := fun q o e n => mu_of q o e n
  have sub : ∀ q o, F'' q = some o → F' q = some o := fun q o e => by
    have e' : (if own q then none else F' q) = some o := e
    split at e'
    · cases e'
    · exact e'
  refine ⟨F'', c1, c2, fun q o e => l' _ _ (sub q o e), R.len, fun i d e => ?_, fun i d e => ?_, fun i n e => ?_, fun i sl e hs => ?_, R.inj, S.slen, S.nd, fun k q ds e1 e2 => ?_⟩
  · obtain ⟨v, a, b⟩ := R.val i d e
    exact ⟨v, a, Rp.mono c1.f b⟩
  · obtain ⟨v, a, b⟩ := R.raw i d e
    exact ⟨v, a, Rt.mono c1.f b⟩
  · obtain ⟨q, a, b⟩ := R.mt i n e
    exact ⟨q, pre_get p a, b⟩
  · obtain ⟨q, a, b, c, ok⟩ := R.own i sl e hs
    have ho : own q := ⟨i, sl, e, hs, a⟩
    obtain ⟨_, _, o, f1, f2, f3⟩ := hown q ho
    refine ⟨q, a, if_pos ho, fun z => ?_, ok.grow c1.f fun o' e' => ?_⟩
    · rw [S.free z] at f3; cases f3
    · rw [f1] at e'; cases e'
      exact l' _ _ f3
  · obtain ⟨n, b⟩ := S.sto k q ds e1 e2
    refine ⟨?_, b.mono c2 fun _ h => h⟩
    show (if own q then none else F' q) = none
    rw [n]; split <;> rfl
end
section
variable {X : Cx} {W : WX} {e : Expr} {es : List Expr} {pos : Pos} {m : M PD} {g : M Ag} {gs : M (List Ag)}
def mAg (m : M PD) : M Ag := bnd m fun d => ret (.d d)
/-- a name whose thing is handed on as it is -/
def mName (i : Nat) : M Ag := fun env st => match env[i]? with
  | some (.raw v) => .ok (.raw v) env st
  | some (.mt n) => .ok (.mt n) env st
  | _ => .bad
theorem jg_of (h : JE X W e m) : JG X W e (mAg m) := PE.imp h fun σ H Q ⟨φ, F, env, st, R, h⟩ => ⟨φ, F, env, st, R, (Post.bnd h).mono fun d φ1 F1 env1 st1 H1 p l R1 h1 v r => ret_post R1 h1 v r⟩
theorem jg_name {i : Nat} {x : Str} (h : PE X (.Name x pos) (tVar i)) : JG X W (.Name x pos) (mName i) := by
  refine PE.imp h fun σ H Q hq => ?_
  obtain ⟨φ, F, env, st, R, h⟩ := hq
  unfold mName at h
  cases e : env[i]? with
  | none => rw [e] at h; exact h.elim
  | some s =>
    rw [e] at h
    cases s with
    | raw t =>
      obtain ⟨v, a, b⟩ := R.raw i t e
      exact ⟨v, a, h φ F H (List.prefix_refl _) (Le.refl _) R _ b⟩
    | mt n =>
      obtain ⟨p, a, b⟩ := R.mt i n e
      exact ⟨_, b, h φ F H (List.prefix_refl _) (Le.refl _) R _ ⟨p, a, rfl⟩⟩
    | _ => exact h.elim
theorem jas_nil : JAs X W [] mNil := PA.imp pa_nil fun σ H Q ⟨φ, F, env, st, R, h⟩ => ret_post R h _ .nil
theorem jas_cons (ha : JG X W e g) (hr : JAs X W es gs) (hs : starEach (e :: es) X.env = (false, eval e X.env) :: starEach es X.env := by rfl) : JAs X W (e :: es) (mCons g gs) :=
  PA.imp (pa_cons ha hr hs) fun σ H Q ⟨φ, F, env, st, R, h⟩ => ⟨φ, F, env, st, R, (Post.bnd h).mono fun d φ1 F1 env1 st1 H1 p1 l1 R1 h1 v r =>
    ⟨φ1, F1, env1, st1, R1, (Post.bnd h1).mono fun ds φ2 F2 env2 st2 H2 p2 l2 R2 h2 vs rs => ret_post R2 h2 _ (.cons (r.mono p2 l2.f) rs)⟩⟩
/-- a call of a def of the text -/
theorem jg_call {x : Str} {p : Pos} {k : Nat} {f : Addr} {fd : FuncData} {ps : List Str} {sem : Sem1} (F : FnOk X.prog X.w X.K X.mg X.base (L2.CX X.prog X.w) k f fd ps (spT X.K X.mg sem)) (tk : Takes X W) (hr : Room k X.A) (hg : Gl X x) (hm : X.mg x = some (.ref f)) (hk : PySem.W.keepIn X.K (.ref f) = true) (hb : Binds X.K fd ps [])
    (ha : JAs X W (e :: es) gs) (hdb : (x == ("__debug__" : Str)) = false := by decide) (he : starEach (e :: es) X.env = (false, eval e X.env) :: starEach es X.env := by rfl) (hpl : (backTo pos (starEach es X.env)).any (·.1) = false := by rfl) : JG X W (.Call (.Name x p) (e :: es) [] pos) (mCall sem gs) := by
  refine PE.imp (pe_callS (E := WE W) F hr hg hm hk hb (fun σ => passAt tk σ) ha hdb he hpl) fun σ H Q ⟨φ, F0, env, st, R, h⟩ => ⟨φ, F0, env, st, R, (Post.bnd h).mono fun as φ1 F1 env1 st1 H1 p1 l1 R1 h1 vs rs => ?_⟩
  obtain ⟨b1, b2, b3⟩ := R1.calF
  refine ⟨φ1, calF φ1 H1, as, st1, b2, b3, rs.mono (List.prefix_refl _) b1.f, ?_⟩
  cases e : sem as st1 with
  | ret a st' =>
    rw [e] at h1
    intro φ2 F2 H2 v p2 l2 l2' S ra
    obtain ⟨F3, c1, c2, R3⟩ := R1.back p2 l2 l2' S
    exact h1 φ2 F3 H2 p2 c1 R3 v (ra.mono (List.prefix_refl _) c2)
  | exc c st' =>
    rw [e] at h1
    intro φ2 F2 H2 C od p2 l2 l2' S hc
    obtain ⟨F3, c1, c2, R3⟩ := R1.back p2 l2 l2' S
    exact h1 φ2 F3 H2 C od p2 c1 R3 hc
  | bad => rw [e] at h1; exact h1.elim
theorem je_of (h : JG X W e g) : JE X W e (mD g) := PE.imp h fun σ H Q ⟨φ, F, env, st, R, h⟩ => ⟨φ, F, env, st, R, (Post.bnd h).mono fun a φ1 F1 env1 st1 H1 p l R1 h1 v r => by
  obtain ⟨c, e, q⟩ := opt_post h1
  cases a with
  | d x => cases e; exact q φ1 F1 H1 (List.prefix_refl _) (Le.refl _) R1 v r
  | raw y => cases e
  | mt n => cases e⟩
end
/-! ### subscripts -/
section
variable {X : Cx} {W : WX} {a b : Expr} {pos : Pos} {ma mb : M PD}
def pyIx : PD → PD → Option PD
  | .list ds, .int i => atI ds i
  | .tuple ds, .int i => atI ds i
  | .str x, .int i => if x.length ≤ 1000000 then (atI x.cps.toList i).map fun c => .str ⟨#[c]⟩ else none
  | _, _ => none
theorem rps_atI {K : PySem.W.Frag} {F : Hp} {ds : List PD} {xs : List V} {i : Int} {d : PD} (r : Rps K F ds xs) (e : atI ds i = some d) : ∃ v, atI xs i = some v ∧ Rp K F d v := by
  unfold atI at e ⊢
  rw [r.length]
  cases h : ixN ds.length i with
  | none => rw [h] at e; cases e
  | some j =>
    rw [h] at e
    exact r.get e
theorem ix_of {K : PySem.W.Frag} {F H : Hp} {a b c : PD} {x y : V} {Q : VK} (l : Le F H) (rx : Rv K F H a x) (ry : Rp K F b y) (e : pyIx a b = some c) (q : ∀ v, Rp K F c v → Q v H) : rIx K x y H Q := by
  cases ry with
  | int i =>
    cases a with
    | list ds =>
      obtain ⟨p, xs, rfl, h, r⟩ := rx.list l
      obtain ⟨v, e1, rv⟩ := rps_atI r e
      exact .inl ⟨_, _, _, v, rfl, rfl, sq_of_rd h, e1, q v rv⟩
    | tuple ds =>
      obtain ⟨p, xs, rfl, h, r, _⟩ := rx.tuple l
      obtain ⟨v, e1, rv⟩ := rps_atI r e
      exact .inr (.inl ⟨_, _, _, v, rfl, rfl, h, e1, q v rv⟩)
    | str z =>
      cases rx.str
      simp only [pyIx] at e
      split at e
      · rename_i hz
        obtain ⟨k, e1, e2⟩ := Option.map_eq_some_iff.mp e
        subst e2
        exact .inr (.inr ⟨_, _, k, rfl, rfl, lim_le hz, e1, q _ (.str _)⟩)
      · cases e
    | _ => cases e
  | _ => cases a <;> cases e
def mIx (ma mb : M PD) : M PD := bnd ma fun a => bnd mb fun b => opt (pyIx a b)
theorem je_ix (ha : JE X W a ma) (hb : JE X W b mb) (hs : PlainIx b) : JE X W (.Subscript a b pos) (mIx ma mb) := by
  refine PE.imp (pe_ix ix_seq ha hb hs) fun σ H Q ⟨φ, F, env, st, R, h⟩ => post2 R h fun a b x y φ2 F2 env2 st2 H2 R2 rx ry h2 => ?_
  obtain ⟨c, e, q⟩ := opt_post h2
  exact ix_of R2.sub (.st rx) ry e (q φ2 F2 H2 (List.prefix_refl _) (Le.refl _) R2)
theorem view_post {α : Type} {σ : L2.St} {φ : List Addr} {F H : Hp} {env : Env} {st : Sto} {i : Nat} {k : PD → M α} {Q : α → List Addr → Hp → Env → Sto → Hp → Prop} (R : Rel X.K φ F env st σ H) (h : Post X W σ φ F (bnd (mView i) k env st) Q) :
    ∃ d v, σ[i]? = some (some v) ∧ Rv X.K F H d v ∧ Post X W σ φ F (k d env st) Q := by
  have h := Post.bnd h
  unfold mView at h
  cases e : env[i]? with
  | none => rw [e] at h; exact h.elim
  | some s =>
    rw [e] at h
    cases s with
    | v d =>
      obtain ⟨v, e1, r⟩ := R.val i d e
      exact ⟨d, v, e1, .st r, h φ F H (List.prefix_refl _) (Le.refl _) R⟩
    | own ds =>
      obtain ⟨p, e1, n, np, xs, e2, r⟩ := R.own i _ e rfl
      exact ⟨_, _, e1, .ow e2 r, h φ F H (List.prefix_refl _) (Le.refl _) R⟩
    | mt n =>
      dsimp only at h
      cases e2 : st[n]? with
      | none => rw [e2] at h; exact h.elim
      | some ds =>
        rw [e2] at h
        cases ds with
        | tab P q => exact h.elim
        | l ds =>
        obtain ⟨p, xs, h1, _, h3, h4⟩ := R.viewM e e2
        exact ⟨_, _, h1, .ow h3 h4, h φ F H (List.prefix_refl _) (Le.refl _) R⟩
    | _ => exact h.elim
/-- x[i] of a name: what is its own is only looked at -/
def mIxV (i : Nat) (mb : M PD) : M PD := bnd (mView i) fun _ => bnd mb fun b => bnd (mView i) fun a => opt (pyIx a b)
theorem je_ixV {i : Nat} {x : Str} {pv : Pos} (ha : PE X (.Name x pv) (tVar i)) (hb : JE X W b mb) (hs : PlainIx b) : JE X W (.Subscript (.Name x pv) b pos) (mIxV i mb) := by
  refine PE.imp (pe_ix ix_seq ha hb hs) fun σ H Q ⟨φ, F, env, st, R, h⟩ => ?_
  obtain ⟨d0, v, ev, _, h⟩ := view_post R h
  refine ⟨v, ev, φ, F, env, st, R, (Post.bnd h).mono fun b φ1 F1 env1 st1 H1 p1 l1 R1 h1 y ry => ?_⟩
  obtain ⟨d, v', e1, rv, h2⟩ := view_post R1 h1
  rw [ev] at e1; cases e1
  obtain ⟨c, e, q⟩ := opt_post h2
  exact ix_of R1.sub rv ry e (q φ1 F1 H1 (List.prefix_refl _) (Le.refl _) R1)
/-! slices -/
def cutD (xs : List PD) (lo hi : Option Int) : List PD := (xs.drop (HT.sIx xs.length 0 lo)).take (HT.sIx xs.length xs.length hi - HT.sIx xs.length 0 lo)
def pySl (a : PD) (lo hi : Option Int) : Option PD := match a with
  | .list ds => some (.list (cutD ds lo hi))
  | .tuple ds => some (.tuple (cutD ds lo hi))
  | _ => none
theorem rps_cut {K : PySem.W.Frag} {F : Hp} {ds : List PD} {xs : List V} (r : Rps K F ds xs) (lo hi : Option Int) : Rps K F (cutD ds lo hi) (cutV xs lo hi) := by
  unfold cutD cutV
  rw [r.length]
  exact (r.drop _).take _
def toI : PD → Option Int
  | .int i => some i
  | _ => none
/-- a slice's end, if it is written -/
def mPart (m : M PD) : M (Option Int) := bnd m fun d => opt ((toI d).map some)
def mNoPart : M (Option Int) := ret none
def tPt (X : Cx) (W : WX) (m : M (Option Int)) : TO := fun σ H Q => ∃ φ F env st, Rel X.K φ F env st σ H ∧ Post X W σ φ F (m env st) fun o _ _ _ _ H' => Q o H'
abbrev JP (X : Cx) (W : WX) (o : Option Expr) (m : M (Option Int)) : Prop := PO X o (tPt X W m)
theorem jp_none : JP X W none mNoPart := ⟨fun pins s σ H Q I ⟨φ, F, env, st, R, h⟩ => po_none.run pins s σ H Q I (ret_post R h)⟩
theorem jp_some {e : Expr} {m : M PD} (h : JE X W e m) : JP X W (some e) (mPart m) := ⟨fun pins s σ H Q I hq => (po_some h).run pins s σ H Q I (by
  obtain ⟨φ, F, env, st, R, h⟩ := hq
  refine ⟨φ, F, env, st, R, (Post.bnd h).mono fun d φ1 F1 env1 st1 H1 p l R1 h1 v r => ?_⟩
  obtain ⟨c, e, q⟩ := opt_post h1
  cases r with
  | int i => cases e; exact ⟨i, rfl, q φ1 F1 H1 (List.prefix_refl _) (Le.refl _) R1⟩
  | _ => cases e)⟩
theorem SlR.fz {r : V → Option Int → Option Int → Hp → VK → Prop} (h : SlR X r) : SlR X (fun x lo hi H Q => r x lo hi H (Fz Q)) := fun pins s σ H x v vl vu lo hi sl Q I rx hs pl pu q => by
  obtain ⟨T, id, a, b, c⟩ := h pins s σ H x v vl vu lo hi sl _ I rx hs pl pu q
  exact ⟨T, id, a, b, thn c fun _ _ q => EP.fz q⟩
def rSlD (K : PySem.W.Frag) : V → Option Int → Option Int → Hp → VK → Prop := fun x lo hi H Q => ∃ F a c, Le F H ∧ Rv K F H a x ∧ pySl a lo hi = some c ∧ EndD K F H c Q
theorem cut_whole {ds : List PD} {lo hi : Option Int} {n : Nat} (hn : n = ds.length) (h : HT.sIx n 0 lo = 0 ∧ HT.sIx n n hi = n) : cutD ds lo hi = ds := by
  subst hn
  unfold cutD
  rw [h.1, h.2]
  simp
theorem sl_D : SlR X (rSlD X.K) := by
  intro pins s σ H x v vl vu lo hi sl Q I rx hs pl pu hh
  obtain ⟨F, a, c, l, ra, e, q⟩ := hh
  cases a with
  | list ds =>
    cases e
    obtain ⟨p, xs, rfl, h, r⟩ := ra.list l
    exact SlR.fz sl_list pins s σ H _ v vl vu lo hi sl Q I rx hs pl pu ⟨p, xs, rfl, sq_of_rd h, fun p n => q.lst l (rps_cut r lo hi) n⟩
  | tuple ds =>
    cases e
    obtain ⟨p, xs, rfl, h, r, h2⟩ := ra.tuple l
    refine sl_tupA pins s σ H _ v vl vu lo hi sl Q I rx hs pl pu ⟨p, xs, rfl, h, fun hw => ?_, fun _ p n => q.tup l (rps_cut r lo hi) n⟩
    rw [cut_whole r.length hw] at q
    exact q.imm (.tup h2 r)
  | _ => cases e
def mSl (ma : M PD) (ml mh : M (Option Int)) : M PD := bnd ma fun a => bnd ml fun l => bnd mh fun h => opt (pySl a l h)
def mSlV (i : Nat) (ml mh : M (Option Int)) : M PD := bnd (mView i) fun _ => bnd ml fun l => bnd mh fun h => bnd (mView i) fun a => opt (pySl a l h)
variable {lo hi : Option Expr} {ml mh : M (Option Int)} {p2 : Pos}
theorem je_sl (ha : JE X W a ma) (hl : JP X W lo ml) (hh : JP X W hi mh) : JE X W (.Subscript a (.Slice lo hi none p2) pos) (mSl ma ml mh) :=
  PE.imp (pe_slice sl_D ha hl hh) fun σ H Q ⟨φ, F, env, st, R, h⟩ => ⟨φ, F, env, st, R, (Post.bnd h).mono fun d φ1 F1 env1 st1 H1 p1 l1 R1 h1 v r =>
    ⟨φ1, F1, env1, st1, R1, (Post.bnd h1).mono fun o φ2 F2 env2 st2 H2 p2 l2 R2 h2 => ⟨φ2, F2, env2, st2, R2, (Post.bnd h2).mono fun o' φ3 F3 env3 st3 H3 p3 l3 R3 h3 => by
      obtain ⟨c, e, q⟩ := opt_post h3
      exact ⟨F3, d, c, R3.sub, .st (Rp.mono (l2.trans l3).f r), e, EndD.of R3 q⟩⟩⟩⟩
theorem je_slV {i : Nat} {x : Str} {pv : Pos} (ha : PE X (.Name x pv) (tVar i)) (hl : JP X W lo ml) (hh : JP X W hi mh) : JE X W (.Subscript (.Name x pv) (.Slice lo hi none p2) pos) (mSlV i ml mh) :=
  PE.imp (pe_slice sl_D ha hl hh) fun σ H Q ⟨φ, F, env, st, R, h⟩ => by
    obtain ⟨d0, v, ev, _, h⟩ := view_post R h
    exact ⟨v, ev, φ, F, env, st, R, (Post.bnd h).mono fun o φ2 F2 env2 st2 H2 p2 l2 R2 h2 => ⟨φ2, F2, env2, st2, R2, (Post.bnd h2).mono fun o' φ3 F3 env3 st3 H3 p3 l3 R3 h3 => by
      obtain ⟨d, v', e1, rv, h4⟩ := view_post R3 h3
      rw [ev] at e1; cases e1
      obtain ⟨c, e, q⟩ := opt_post h4
      exact ⟨F3, d, c, R3.sub, rv, e, EndD.of R3 q⟩⟩⟩
end
end TL

namespace TL
open PySem PySem.Spec L2
open PyProof.Rows hiding St

def EndF (K : PySem.W.Frag) (D : Ends) (fl : Flow) (φ : List Addr) (F : Hp) (σ : L2.St) (H : Hp) : Prop := match fl with
  | .nx => D.nx σ H
  | .rt d => ∀ v, Rp K F d v → D.rt v H
  | .rtm n => ∀ p, φ[n]? = some p → D.rt (.ref p) H
  | .bk => D.bk σ H
  | .ct => D.ct σ H
def PostS (X : Cx) (W : WX) (φ : List Addr) (F : Hp) (r : Res Flow) (D : Ends) : Prop :=
  match r with
  | .ok fl env st => ∀ φ' F' σ' H', φ <+: φ' → Le F F' → Rel X.K φ' F' env st σ' H' → EndF X.K D fl φ' F' σ' H'
  | .exc c env st => ∀ φ' F' σ' H' C od, φ <+: φ' → Le F F' → Rel X.K φ' F' env st σ' H' → X.mg (PySem.Str.ofString c) = some (.ref C) → W (.ref C) od σ' H'
  | .bad => False
def tS (X : Cx) (W : WX) (m : M Flow) : TS := fun D σ H => ∃ φ F env st, Rel X.K φ F env st σ H ∧ PostS X W φ F (m env st) D
abbrev JS (X : Cx) (W : WX) (s : Stmt) (m : M Flow) : Prop := PS X s (tS X W m)
abbrev JSs (X : Cx) (W : WX) (s : List Stmt) (m : M Flow) : Prop := PSs X s (tS X W m)
def mSeq (a b : M Flow) : M Flow := bnd a fun fl => match fl with
  | .nx => b
  | fl => ret fl
def mPass : M Flow := ret .nx
section
variable {X : Cx} {W : WX} {φ φ' : List Addr} {F F' : Hp} {D : Ends}
theorem PostS.grow {r : Res Flow} (h : PostS X W φ F r D) (p : φ <+: φ') (l : Le F F') : PostS X W φ' F' r D := by
  cases r with
  | ok fl env st => exact fun φ2 F2 σ2 H2 p2 l2 R => h φ2 F2 σ2 H2 (p.trans p2) (l.trans l2) R
  | exc c env st => exact fun φ2 F2 σ2 H2 C od p2 l2 R => h φ2 F2 σ2 H2 C od (p.trans p2) (l.trans l2) R
  | bad => exact h
/-- an expression first -/
theorem PostS.bnd {α : Type} {σ : L2.St} {m : M α} {f : α → M Flow} {env : Env} {st : Sto} (h : PostS X W φ F (bnd m f env st) D) : Post X W σ φ F (m env st) fun a φ1 F1 env1 st1 H1 => PostS X W φ1 F1 (f a env1 st1) D := by
  unfold TL.bnd at h
  cases e : m env st with
  | ok a env1 st1 =>
    rw [e] at h
    exact fun φ1 F1 H1 p1 l1 R1 => PostS.grow h p1 l1
  | exc c env1 st1 =>
    rw [e] at h
    exact fun φ1 F1 H1 C od p1 l1 R1 hc => h φ1 F1 σ H1 C od p1 l1 R1 hc
  | bad => rw [e] at h; exact h
theorem PostS.seq {a b : M Flow} {env : Env} {st : Sto} (h : PostS X W φ F (mSeq a b env st) D) : PostS X W φ F (a env st) { D with nx := tS X W b D } := by
  unfold mSeq TL.bnd at h
  cases e : a env st with
  | ok fl env1 st1 =>
    rw [e] at h
    cases fl with
    | nx => exact fun φ1 F1 σ1 H1 p1 l1 R1 => ⟨φ1, F1, env1, st1, R1, PostS.grow h p1 l1⟩
    | rt d => exact h
    | rtm d => exact h
    | bk => exact h
    | ct => exact h
  | exc c env1 st1 => rw [e] at h; exact h
  | bad => rw [e] at h; exact h
theorem nx_post {σ : L2.St} {H : Hp} {env : Env} {st : Sto} (R : Rel X.K φ F env st σ H) (h : PostS X W φ F (.ok .nx env st) D) : D.nx σ H := h φ F σ H (List.prefix_refl _) (Le.refl _) R
theorem jss_nil : JSs X W [] mPass := PSs.imp pss_nil fun D σ H ⟨φ, F, env, st, R, h⟩ => nx_post R h
theorem jss_cons {s : Stmt} {r : List Stmt} {a b : M Flow} (ha : JS X W s a) (hb : JSs X W r b) : JSs X W (s :: r) (mSeq a b) :=
  PSs.imp (pss_cons ha hb) fun D σ H ⟨φ, F, env, st, R, h⟩ => ⟨φ, F, env, st, R, PostS.seq h⟩
theorem jss_one {s : Stmt} {a : M Flow} (ha : JS X W s a) : JSs X W [s] a := pss_one ha
variable {e : Expr} {pos : Pos} {m : M PD} {g : M Ag}
theorem js_pass : JS X W (.Pass pos) mPass := PS.imp ps_pass fun D σ H ⟨φ, F, env, st, R, h⟩ => nx_post R h
def mBrk : M Flow := ret .bk
def mCnt : M Flow := ret .ct
theorem js_brk : JS X W (.Break pos) mBrk := PS.imp ps_break fun D σ H ⟨φ, F, env, st, R, h⟩ => h φ F σ H (List.prefix_refl _) (Le.refl _) R
theorem js_cnt : JS X W (.Continue pos) mCnt := PS.imp ps_continue fun D σ H ⟨φ, F, env, st, R, h⟩ => h φ F σ H (List.prefix_refl _) (Le.refl _) R
def mNever : M Flow := bad
theorem js_never {s : Stmt} : JS X W s mNever := PS.imp ps_never fun D σ H ⟨φ, F, env, st, R, h⟩ => h
def mSet (i : Nat) (m : M PD) : M Flow := bnd m fun d env st => .ok .nx (env.set i (.v d)) st
theorem js_set {i : Nat} {x : Str} {p : Pos} (he : JE X W e m) (hN : X.N.Nodup) (hi : X.N[i]? = some x) (hx : Loc X.env.scope x) (hs : swapsWith e (some (.Name x p)) pos.line X.env = pure false := by rfl) (hf : X.fn x = true ∨ X.env.scope.names.lookup x = some .local := by first | exact .inl rfl | exact .inr rfl | assumption) : JS X W (.Assign [.Name x p] e pos) (mSet i m) := by
  refine PS.imp (ps_set hN hi hx he (hf := hf) (hs := hs)) fun D σ H ⟨φ, F, env, st, R, h⟩ => ?_
  exact ⟨φ, F, env, st, R, (PostS.bnd h).mono fun d φ1 F1 env1 st1 H1 p1 l1 R1 h1 v r => nx_post (R1.set_v r) h1⟩
def mRet (m : M PD) : M Flow := bnd m fun d => ret (.rt d)
theorem js_ret (he : JE X W e m) : JS X W (.Return (some e) pos) (mRet m) := PS.imp (ps_ret he) fun D σ H ⟨φ, F, env, st, R, h⟩ => ⟨φ, F, env, st, R, (PostS.bnd h).mono fun d φ1 F1 env1 st1 H1 p1 l1 R1 h1 v r => h1 φ1 F1 σ H1 (List.prefix_refl _) (Le.refl _) R1 v r⟩
def mRetN : M Flow := ret (.rt .none)
theorem js_retN : JS X W (.Return none pos) mRetN := PS.imp ps_retN fun D σ H ⟨φ, F, env, st, R, h⟩ => h φ F σ H (List.prefix_refl _) (Le.refl _) R _ .non
def mDrop (g : M Ag) : M Flow := bnd g fun _ => ret .nx
theorem js_drop (he : JG X W e g) (hs : swapsWith e none pos.line X.env = pure false := by rfl) : JS X W (.Expr e pos) (mDrop g) := PS.imp (ps_expr he hs) fun D σ H ⟨φ, F, env, st, R, h⟩ => ⟨φ, F, env, st, R, (PostS.bnd h).mono fun d φ1 F1 env1 st1 H1 p1 l1 R1 h1 v r => nx_post R1 h1⟩
theorem js_if {c : Expr} {a b : List Stmt} {nc : M Bool} {ma mb : M Flow} (hc : JB X W c nc) (ha : JSs X W a ma) (hb : JSs X W b mb) : JS X W (.If c a b pos) (mIf nc ma mb) := by
  refine PS.imp (ps_if hc ha hb) fun D σ H ⟨φ, F, env, st, R, h⟩ => ⟨φ, F, env, st, R, (PostS.bnd h).mono fun k φ1 F1 env1 st1 H1 p1 l1 R1 h1 => ?_⟩
  cases k with
  | true => rw [if_pos rfl] at h1 ⊢; exact ⟨φ1, F1, env1, st1, R1, h1⟩
  | false => rw [if_neg Bool.false_ne_true] at h1 ⊢; exact ⟨φ1, F1, env1, st1, R1, h1⟩
/-! what is made and is the frame's own -/
def tO (X : Cx) (W : WX) (m : M Sl) : TE := fun σ H Q => ∃ φ F env st, Rel X.K φ F env st σ H ∧ Post X W σ φ F (m env st) fun sl φ' F' env' st' _ =>
  ∀ p Hn, Rel X.K φ' F' env' st' σ Hn → F' p = none → p ∉ φ' → (∀ (j : Nat) t, env'[j]? = some t → t.isOwn = true → σ[j]? ≠ some (some (.ref p))) → OwnOk X.K F' Hn p sl → Q (.ref p) Hn
abbrev JO (X : Cx) (W : WX) (e : Expr) (m : M Sl) : Prop := PE X e (tO X W m)
/-- it is new at p -/
theorem own_new {K : PySem.W.Frag} {σ : L2.St} {H : Hp} {env : Env} {st : Sto} {p : Addr} {o : HO} (R : Rel K φ F env st σ H) (n : H p = none) :
    Rel K φ F env st σ (upd H p o) ∧ F p = none ∧ p ∉ φ ∧ ∀ (j : Nat) t, env[j]? = some t → t.isOwn = true → σ[j]? ≠ some (some (.ref p)) :=
  ⟨R.grow (Grow.loose n), R.none_f n, R.none_phi n, R.none_own n⟩
def slD : Sl → Option PD
  | .own ds => some (.list ds)
  | .ownD kvs => some (.dict kvs)
  | .ownT kvs => some (.dict kvs)
  | _ => none
theorem OwnOk.rp {K : PySem.W.Frag} {H : Hp} {p : Addr} {sl : Sl} (ok : OwnOk K F H p sl) : ∃ u d, H p = some u ∧ Wr u ∧ slD sl = some d ∧ (F p = none → ∀ ob, Rp K (upd F p (.frz ob u)) d (.ref p)) := by
  cases sl with
  | own ds => obtain ⟨xs, e, r⟩ := ok; exact ⟨_, _, e, True.intro, rfl, fun n ob => .lst ⟨ob, upd_same⟩ (Rps.mono (le_upd n).f r)⟩
  | ownD ds => obtain ⟨xs, e, r⟩ := ok; exact ⟨_, _, e, True.intro, rfl, fun n ob => .dct upd_same (Rkv.mono (le_upd n).f r)⟩
  | ownT ds => obtain ⟨xs, e, r⟩ := ok; exact ⟨_, _, e, True.intro, rfl, fun n ob => .dctT upd_same (Rtv.mono (le_upd n).f r)⟩
  | _ => exact ok.elim
/-- .. frozen at once -/
def mFz (m : M Sl) : M PD := bnd m fun sl => opt (slD sl)
theorem je_fz {m : M Sl} (h : JO X W e m) : JE X W e (mFz m) := by
  refine PE.imp (PE.fz h) fun σ H Q ⟨φ, F, env, st, R, h⟩ => ⟨φ, F, env, st, R, (Post.bnd h).mono fun sl φ1 F1 env1 st1 H1 p1 l1 R1 h1 => ?_⟩
  obtain ⟨c, e, q⟩ := opt_post h1
  intro p Hn R2 n np no ok
  obtain ⟨u, d, eu, mu, e2, rp⟩ := ok.rp
  rw [e] at e2; cases e2
  exact .inr ⟨p, u, rfl, eu, mu.mut, fun ob => q φ1 _ _ (List.prefix_refl _) (le_upd n) (R2.still n np no) _ (rp n ob)⟩
def mSetO (i : Nat) (m : M Sl) : M Flow := bnd m fun sl env st => .ok .nx (env.set i sl) st
theorem js_setO {i : Nat} {x : Str} {p : Pos} {m : M Sl} (he : JO X W e m) (hN : X.N.Nodup) (hi : X.N[i]? = some x) (hx : Loc X.env.scope x) (hs : swapsWith e (some (.Name x p)) pos.line X.env = pure false := by rfl) (hf : X.fn x = true ∨ X.env.scope.names.lookup x = some .local := by first | exact .inl rfl | exact .inr rfl | assumption) : JS X W (.Assign [.Name x p] e pos) (mSetO i m) := by
  refine PS.imp (ps_set hN hi hx he (hf := hf) (hs := hs)) fun D σ H ⟨φ, F, env, st, R, h⟩ => ⟨φ, F, env, st, R, (PostS.bnd h).mono fun sl φ1 F1 env1 st1 H1 p1 l1 R1 h1 p Hn R2 n np no ok => ?_⟩
  have hs : sl.isOwn = true := by cases sl <;> first | rfl | exact ok.elim
  exact nx_post (R2.setSlot (fun d e => by subst e; cases hs) (fun d e => by subst e; cases hs) (fun d e => by subst e; cases hs) fun _ => ⟨p, rfl, n, np, ok, fun j t _ e1 e2 => no j t e1 e2⟩) h1
def mOLst (ms : M (List PD)) : M Sl := bnd ms fun ds => opt (if ds.length ≤ 1000000 then some (.own ds) else none)
theorem jo_lst {es : List Expr} {ms : M (List PD)} (h : JDs X W es ms) : JO X W (.List es pos) (mOLst ms) := by
  refine PE.imp (pe_lst h) fun σ H Q ⟨φ, F, env, st, R, h⟩ => ⟨φ, F, env, st, R, (Post.bnd h).mono fun ds φ1 F1 env1 st1 H1 p1 l1 R1 h1 vs r => ?_⟩
  obtain ⟨c, e, q⟩ := opt_post h1
  obtain ⟨hz, rfl⟩ := if_some e
  refine ⟨lim_le (by rw [r.length]; exact hz), fun p n => ?_⟩
  obtain ⟨a, b, c, d⟩ := own_new (o := .lst vs) R1 n
  exact (q φ1 F1 H1 (List.prefix_refl _) (Le.refl _) R1) p _ a b c d ⟨vs, upd_same, r⟩
end
end TL

namespace TL
open PySem PySem.Spec L2
open PyProof.Rows hiding St

/-! ### targets -/
/-- all but the slots ks is as it was -/
def Out (ks : List Nat) (σ σ' : L2.St) : Prop := σ'.length = σ.length ∧ ∀ j, j ∉ ks → σ'[j]? = σ[j]?
theorem Out.refl (ks : List Nat) (σ : L2.St) : Out ks σ σ := ⟨rfl, fun _ _ => rfl⟩
theorem Out.trans {a b : List Nat} {σ σ1 σ2 : L2.St} (h : Out a σ σ1) (h' : Out b σ1 σ2) : Out (a ++ b) σ σ2 := ⟨h'.1.trans h.1, fun j hj => by
  rw [List.mem_append, not_or] at hj
  rw [h'.2 j hj.2, h.2 j hj.1]⟩
def tTg (X : Cx) (ks : List Nat) (mt : PD → M Unit) : TG := fun v σ H Q => ∃ φ F env st d, Rel X.K φ F env st σ H ∧ Rp X.K F d v ∧
  match mt d env st with
  | .ok _ env' st' => ∀ σ', Rel X.K φ F env' st' σ' H → Out ks σ σ' → Q σ' H
  | _ => False
def tTgs (X : Cx) (ks : List Nat) (mt : List PD → M Unit) : TGs := fun vs σ H Q => ∃ φ F env st ds, Rel X.K φ F env st σ H ∧ Rps X.K F ds vs ∧
  match mt ds env st with
  | .ok _ env' st' => ∀ σ', Rel X.K φ F env' st' σ' H → Out ks σ σ' → Q σ' H
  | _ => False
abbrev JT (X : Cx) (ks : List Nat) (e : Expr) (mt : PD → M Unit) : Prop := PG X e (tTg X ks mt)
abbrev JTs (X : Cx) (ks : List Nat) (es : List Expr) (mt : List PD → M Unit) : Prop := PGs X es (tTgs X ks mt)
theorem PG.imp {X : Cx} {e : Expr} {t t' : TG} (h : PG X e t) (i : ∀ v σ H Q, t' v σ H Q → t v σ H Q) : PG X e t' := ⟨fun pins s σ H v u Q I r hq => h.run pins s σ H v u Q I r (i v σ H Q hq)⟩
theorem PGs.imp {X : Cx} {e : List Expr} {t t' : TGs} (h : PGs X e t) (i : ∀ v σ H Q, t' v σ H Q → t v σ H Q) : PGs X e t' := ⟨fun pins s σ H v u Q I r hq => h.run pins s σ H v u Q I r (i v σ H Q hq)⟩
def tgN (i : Nat) : PD → M Unit := fun d env st => .ok () (env.set i (.v d)) st
def tgNil : List PD → M Unit
  | [] => ret ()
  | _ => bad
def tgCons (t : PD → M Unit) (ts : List PD → M Unit) : List PD → M Unit
  | d :: ds => bnd (t d) fun _ => ts ds
  | _ => bad
def tgTup (n : Nat) (ts : List PD → M Unit) : PD → M Unit
  | .tuple ds => if ds.length = n then ts ds else bad
  | _ => bad
section
variable {X : Cx} {pos : Pos}
theorem jt_name {i : Nat} {x : Str} (hN : X.N.Nodup) (hi : X.N[i]? = some x) (hx : Loc X.env.scope x) (hf : X.fn x = true ∨ X.env.scope.names.lookup x = some .local := by first | exact .inl rfl | exact .inr rfl | assumption) : JT X [i] (.Name x pos) (tgN i) :=
  TL.PG.imp (pg_name hN hi hx hf) fun v σ H Q ⟨φ, F, env, st, d, R, r, h⟩ => h _ (R.set_v r) ⟨by simp, fun j hj => List.getElem?_set_ne (by simpa [eq_comm] using hj)⟩
theorem jts_nil : JTs X [] [] tgNil := TL.PGs.imp pgs_nil fun v σ H Q ⟨φ, F, env, st, ds, R, r, h⟩ => by
  cases r with
  | nil => exact ⟨rfl, h _ R (Out.refl _ _)⟩
  | cons _ _ => exact h.elim
theorem jts_cons {a b : List Nat} {e : Expr} {es : List Expr} {t : PD → M Unit} {ts : List PD → M Unit} (h1 : JT X a e t) (h2 : JTs X b es ts) (hs : List.map (fun x => x.snd) (assignEach (e :: es) X.env) = assign e X.env :: List.map (fun x => x.snd) (assignEach es X.env) := by rfl) : JTs X (a ++ b) (e :: es) (tgCons t ts) :=
  TL.PGs.imp (pgs_cons h1 h2 hs) fun v σ H Q ⟨φ, F, env, st, ds, R, r, h⟩ => by
    cases r with
    | nil => exact h.elim
    | @cons d v ds vs r rs =>
      refine ⟨v, vs, rfl, φ, F, env, st, d, R, r, ?_⟩
      unfold tgCons bnd at h
      dsimp only at h
      cases e : t d env st with
      | ok u env1 st1 =>
        rw [e] at h
        intro σ' R' o1
        refine ⟨φ, F, env1, st1, ds, R', rs, ?_⟩
        dsimp only at h
        cases e2 : ts ds env1 st1 with
        | ok u env2 st2 => rw [e2] at h; exact fun σ2 R2 o2 => h σ2 R2 (o1.trans o2)
        | exc c env2 st2 => rw [e2] at h; exact h
        | bad => rw [e2] at h; exact h
      | exc c env1 st1 => rw [e] at h; exact h.elim
      | bad => rw [e] at h; exact h.elim
theorem jt_tup {ks : List Nat} {es : List Expr} {k n : Nat} {ts : List PD → M Unit} (hc : X.calm = true) (h : JTs X ks es ts) (hn : (assignEach es X.env).length = n := by rfl) (hst : (assignEach es X.env).findIdx? (·.1) = none := by rfl) : JT X ks (.Tuple es k pos) (tgTup n ts) :=
  TL.PG.imp (pg_tup hc h hn hst) fun v σ H Q ⟨φ, F, env, st, d, R, r, h⟩ => by
    unfold tgTup at h
    cases r with
    | tup hq rs =>
      dsimp only at h
      split at h
      · rename_i _ _ _ _ _ e
        split at e
        · rename_i hl
          exact ⟨_, _, rfl, sqT_mono hq R.sub.f, by rw [rs.length]; exact hl, φ, F, env, st, _, R, rs, by rw [e]; exact h⟩
        · cases e
      · exact h.elim
    | _ => exact h.elim
end
/-! ### what is walked -/
def Yld (K : PySem.W.Frag) (J : It) (ds : List PD) (F : Hp) : Prop := ∀ (i : Nat) F' H', Le F F' → Le F' H' →
  (∀ d, ds[i]? = some d → J.go i H' ∧ ∀ x H'', J.yld i H' x H'' → ∃ F'', Grow F' H' F'' H'' ∧ Rp K F'' d x) ∧ (i = ds.length → J.stop i H')
def tI (X : Cx) (W : WX) (m : M (List PD)) : TI := fun σ H R => ∃ φ F env st, Rel X.K φ F env st σ H ∧ Post X W σ φ F (m env st) fun ds _ F' _ _ H' => ∀ J, Yld X.K J ds F' → R J H'
abbrev JI (X : Cx) (W : WX) (tg e : Expr) (m : M (List PD)) : Prop := PI X tg e (tI X W m)
theorem PI.imp {X : Cx} {tg e : Expr} {t t' : TI} (h : PI X tg e t) (i : ∀ σ H Q, t' σ H Q → t σ H Q) : PI X tg e t' := ⟨fun pins s σ H R I hq => h.run pins s σ H R I (i σ H R hq)⟩
def dItems : PD → Option (List PD)
  | .list ds => some ds
  | .tuple ds => some ds
  | .str x => some (x.cps.toList.map fun c => .str ⟨#[c]⟩)
  | _ => none
def mItems (m : M PD) : M (List PD) := bnd m fun d => opt (dItems d)
section
variable {X : Cx} {W : WX} {tg e : Expr} {pos p : Pos} {m : M PD}
theorem yld_list {K : PySem.W.Frag} {F : Hp} {a : Addr} {xs : List V} {ds : List PD} (h : FzL K F a xs) (r : Rps K F ds xs) : Yld K (Itl K a) ds F := fun i F' H' l l' => by
  have hs : SqL K H' a xs := sqL_mono h.sq (l.trans l')
  refine ⟨fun d e => ?_, fun e => ⟨xs, hs, by rw [r.length]; omega⟩⟩
  obtain ⟨v, e1, rv⟩ := r.get e
  refine ⟨⟨xs, v, hs, e1⟩, fun x H'' hy => ?_⟩
  obtain ⟨rfl, f⟩ := hy
  have ex : v = x := Option.some.inj (e1.symm.trans (f xs hs))
  subst ex
  exact ⟨F', Grow.refl, Rp.mono l.f rv⟩
theorem yld_tup {K : PySem.W.Frag} {F : Hp} {a : Addr} {xs : List V} {ds : List PD} (h : SqT K F a xs) (r : Rps K F ds xs) : Yld K (Itt K a) ds F := fun i F' H' l l' => by
  have hs : SqT K H' a xs := sqT_mono h (l.trans l').f
  refine ⟨fun d e => ?_, fun e => ⟨xs, hs, by rw [r.length]; omega⟩⟩
  obtain ⟨v, e1, rv⟩ := r.get e
  refine ⟨⟨xs, v, hs, e1⟩, fun x H'' hy => ?_⟩
  obtain ⟨rfl, f⟩ := hy
  have ex : v = x := Option.some.inj (e1.symm.trans (f xs hs))
  subst ex
  exact ⟨F', Grow.refl, Rp.mono l.f rv⟩
theorem yld_str {K : PySem.W.Frag} {F : Hp} {x : Str} : Yld K (Its x) (x.cps.toList.map fun c => PyData.str ⟨#[c]⟩) F := fun i F' H' l l' => by
  refine ⟨fun d e => ?_, fun e => by show x.cps.size ≤ i; rw [e]; simp⟩
  rw [List.getElem?_map] at e
  obtain ⟨c, e1, e2⟩ := Option.map_eq_some_iff.mp e
  have hi : i < x.cps.size := by simpa using (List.getElem?_eq_some_iff.mp e1).1
  refine ⟨hi, fun v H'' hy => ?_⟩
  obtain ⟨rfl, c', e3, rfl⟩ := hy
  have e4 : x.cps[i]? = some c := by simpa using e1
  rw [e3] at e4; cases e4
  subst e2
  exact ⟨F', Grow.refl, .str _⟩
theorem ji_of (he : JE X W e m) : JI X W tg e (mItems m) := ⟨fun pins s σ H R I hq => by
  obtain ⟨φ, F, env, st, Rr, h⟩ := hq
  have h := Post.bnd h
  cases em : m env st with
  | ok d env1 st1 =>
    rw [em] at h
    cases d with
    | list ds =>
      refine (pi_list he).run pins s σ H R I ⟨φ, F, env, st, Rr, ?_⟩
      rw [em]
      intro φ1 F1 H1 p1 l1 R1 v r
      have h1 := h φ1 F1 H1 p1 l1 R1
      cases r with
      | lst hf rs => exact ⟨_, rfl, ⟨_, sqL_mono hf.sq R1.sub⟩, ret_post R1 h1 _ (yld_list hf rs)⟩
    | tuple ds =>
      refine (pi_tup he).run pins s σ H R I ⟨φ, F, env, st, Rr, ?_⟩
      rw [em]
      intro φ1 F1 H1 p1 l1 R1 v r
      have h1 := h φ1 F1 H1 p1 l1 R1
      cases r with
      | tup hf rs => exact ⟨_, rfl, ⟨_, sqT_mono hf R1.sub.f⟩, ret_post R1 h1 _ (yld_tup hf rs)⟩
    | str x =>
      refine (pi_str he).run pins s σ H R I ⟨φ, F, env, st, Rr, ?_⟩
      rw [em]
      intro φ1 F1 H1 p1 l1 R1 v r
      have h1 := h φ1 F1 H1 p1 l1 R1
      cases r with
      | str _ => exact ⟨x, rfl, ret_post R1 h1 _ yld_str⟩
    | _ =>
      refine (pi_list he).run pins s σ H R I ⟨φ, F, env, st, Rr, ?_⟩
      rw [em]
      intro φ1 F1 H1 p1 l1 R1 v r
      exact (h φ1 F1 H1 p1 l1 R1).elim
  | exc c env1 st1 =>
    refine (pi_list he).run pins s σ H R I ⟨φ, F, env, st, Rr, ?_⟩
    rw [em] at h ⊢
    exact h
  | bad => rw [em] at h; exact h.elim⟩
/-- lo, lo + 1, .. -/
def rgD (lo : Int) (n : Nat) : List PD := (List.range n).map fun (k : Nat) => .int (lo + (k : Int))
noncomputable def small62 (i : Int) : Bool := cl (-(2 ^ 62) ≤ i ∧ i < 2 ^ 62)
noncomputable def rg1 : List PD → Option (List PD)
  | [.int j] => if small62 j = true then some (rgD 0 j.toNat) else none
  | _ => none
noncomputable def rg2 : List PD → Option (List PD)
  | [.int i, .int j] => if small62 i = true ∧ small62 j = true then some (rgD i (j - i).toNat) else none
  | _ => none
noncomputable def mRg1 (ms : M (List PD)) : M (List PD) := bnd ms fun ds => opt (rg1 ds)
noncomputable def mRg2 (ms : M (List PD)) : M (List PD) := bnd ms fun ds => opt (rg2 ds)
theorem yld_rg {K : PySem.W.Frag} {F : Hp} {lo : Int} {n : Nat} : Yld K (Itr lo n) (rgD lo n) F := fun i F' H' l l' => by
  unfold rgD
  refine ⟨fun d e => ?_, fun e => by show n ≤ i; rw [e]; simp⟩
  rw [List.getElem?_map] at e
  obtain ⟨c, e1, e2⟩ := Option.map_eq_some_iff.mp e
  obtain ⟨hi, e3⟩ := List.getElem?_eq_some_iff.mp e1
  rw [List.getElem_range] at e3
  rw [List.length_range] at hi
  subst e3 e2
  refine ⟨hi, fun v H'' hy => ?_⟩
  obtain ⟨rfl, rfl⟩ := hy
  exact ⟨F', Grow.refl, .int _⟩
theorem small62_ok {i : Int} (h : small62 i = true) : -(2 ^ 62) ≤ i ∧ i < 2 ^ 62 := by
  exact cl_of h
theorem ji_rg1 {a : Expr} {ms : M (List PD)} (hg : Gl X "range") (hm : X.mg "range" = none) (ha : JDs X W [a] ms) (hs : starEach [a] X.env = [(false, eval a X.env)] := by rfl) : JI X W tg (.Call (.Name "range" p) [a] [] pos) (mRg1 ms) :=
  TL.PI.imp (pi_range1 hg hm ha hs) fun σ H R ⟨φ, F, env, st, Rr, h⟩ => ⟨φ, F, env, st, Rr, (Post.bnd h).mono fun ds φ1 F1 env1 st1 H1 p1 l1 R1 h1 vs r => by
    obtain ⟨c, e, q⟩ := opt_post h1
    unfold rg1 at e
    split at e
    · obtain ⟨hz, rfl⟩ := if_some e
      obtain ⟨z1, z2⟩ := small62_ok hz
      cases r with
      | cons r rr =>
        cases rr
        cases r
        exact ⟨_, rfl, z1, z2, q φ1 F1 H1 (List.prefix_refl _) (Le.refl _) R1 _ yld_rg⟩
    · cases e⟩
theorem ji_rg2 {a b : Expr} {ms : M (List PD)} (hg : Gl X "range") (hm : X.mg "range" = none) (ha : JDs X W [a, b] ms) (hs : starEach [a, b] X.env = [(false, eval a X.env), (false, eval b X.env)] := by rfl) (hs2 : starEach [b] X.env = [(false, eval b X.env)] := by rfl) : JI X W tg (.Call (.Name "range" p) [a, b] [] pos) (mRg2 ms) :=
  TL.PI.imp (pi_range2 hg hm ha hs hs2) fun σ H R ⟨φ, F, env, st, Rr, h⟩ => ⟨φ, F, env, st, Rr, (Post.bnd h).mono fun ds φ1 F1 env1 st1 H1 p1 l1 R1 h1 vs r => by
    obtain ⟨c, e, q⟩ := opt_post h1
    unfold rg2 at e
    split at e
    · obtain ⟨hz, rfl⟩ := if_some e
      obtain ⟨z1, z2⟩ := small62_ok hz.1
      obtain ⟨z3, z4⟩ := small62_ok hz.2
      cases r with
      | cons r rr =>
        cases rr with
        | cons r2 rr =>
          cases rr
          cases r; cases r2
          exact ⟨_, _, rfl, ⟨z1, z2, z3, z4⟩, q φ1 F1 H1 (List.prefix_refl _) (Le.refl _) R1 _ yld_rg⟩
    · cases e⟩
end
/-! ### for -/
def killS (ks : List Nat) (env : Env) : Env := ks.foldl (fun e i => e.set i .un) env
/-- behind a target -/
def aft {α : Type} (t : M Unit) (m : M α) : M α := fun env st => match t env st with
  | .ok _ env1 st1 => m env1 st1
  | _ => .bad
def mForL (tg : PD → M Unit) (body : M Flow) (ks : List Nat) : List PD → M Flow
  | [] => ret .nx
  | x :: xs => aft (tg x) (bnd body fun fl => match fl with
    | .nx => fun env st => mForL tg body ks xs (killS ks env) st
    | .ct => fun env st => mForL tg body ks xs (killS ks env) st
    | .bk => fun env st => .ok .nx (killS ks env) st
    | fl => ret fl)
def mFor (it : M (List PD)) (tg : PD → M Unit) (body : M Flow) (ks : List Nat) : M Flow := bnd it fun xs => mForL tg body ks xs
section
variable {X : Cx} {W : WX} {tg iter : Expr} {body : List Stmt} {pos : Pos} {mi : M (List PD)} {mt : PD → M Unit} {mb : M Flow}
theorem Rel.kills {K : PySem.W.Frag} {φ : List Addr} {F H : Hp} {st : Sto} {σ : L2.St} : ∀ (ks : List Nat) {env : Env}, Rel K φ F env st σ H → Rel K φ F (killS ks env) st σ H
  | [], _, R => R
  | k :: ks, _, R => Rel.kills ks (R.kill k)
theorem js_for {tk : List Nat} (ks : List Nat) (hp : PassesOwn (model X.prog X.w) X.A X.env X.xe) (hc : X.calm = true) (hi : JI X W tg iter mi) (hg : JT X tk tg mt) (hb : JSs X W body mb) (hs : ∀ x, foldedSetIterable iter X.env x = pure x := by intro _; rfl) :
    JS X W (.For tg iter body [] pos) (mFor mi mt mb ks) := by
  refine PS.imp (ps_for hp hc hi hg hb hs) fun D σ H ⟨φ0, F0, env0, st0, R0, h⟩ => ?_
  refine ⟨φ0, F0, env0, st0, R0, (PostS.bnd h).mono fun ds φ1 F1 env1 st1 H1 p1 l1 R1 h1 J y => ?_⟩
  refine ⟨fun i n σ H => n = ds.length - i ∧ i ≤ ds.length ∧ ∃ φ F env st, Le F1 F ∧ Rel X.K φ F env st σ H ∧ PostS X W φ F (mForL mt mb ks (ds.drop i) env st) D, ⟨ds.length, by omega, Nat.zero_le _, φ1, F1, env1, st1, Le.refl _, R1, h1⟩, ?_⟩
  rintro i n σ2 H2 ⟨rfl, hi, φ, F, env, st, l, R, hq⟩
  obtain ⟨y1, y2⟩ := y i F H2 l R.sub
  by_cases hl : i < ds.length
  · obtain ⟨go, yl⟩ := y1 ds[i] (List.getElem?_eq_getElem hl)
    refine .inr ⟨go, fun σ H => ∃ φ F env st, Le F1 F ∧ Rel X.K φ F env st σ H ∧ PostS X W φ F (mForL mt mb ks (ds.drop (i + 1)) env st) D, fun σ' H' h' => ⟨ds.length - (i + 1), by omega, rfl, by omega, h'⟩, fun x H3 hy => ?_⟩
    obtain ⟨F3, g, rx⟩ := yl x H3 hy
    have R3 := R.grow g
    rw [List.drop_eq_getElem_cons hl] at hq
    unfold mForL aft bnd at hq
    refine ⟨φ, F3, env, st, _, R3, rx, ?_⟩
    cases et : mt ds[i] env st with
    | ok u env2 st2 =>
      rw [et] at hq
      dsimp only at hq ⊢
      intro σ4 R4 _
      refine ⟨φ, F3, env2, st2, R4, ?_⟩
      cases eb : mb env2 st2 with
      | ok fl env5 st5 =>
        rw [eb] at hq
        intro φ5 F5 σ5 H5 p5 l5 R5
        cases fl with
        | nx => exact ⟨φ5, F5, _, _, (l.trans g.f).trans l5, R5.kills ks, PostS.grow hq p5 (g.f.trans l5)⟩
        | ct => exact ⟨φ5, F5, _, _, (l.trans g.f).trans l5, R5.kills ks, PostS.grow hq p5 (g.f.trans l5)⟩
        | bk => exact hq φ5 F5 σ5 H5 p5 (g.f.trans l5) (R5.kills ks)
        | rt d => exact hq φ5 F5 σ5 H5 p5 (g.f.trans l5) R5
        | rtm d => exact hq φ5 F5 σ5 H5 p5 (g.f.trans l5) R5
      | exc c env5 st5 =>
        rw [eb] at hq
        exact fun φ5 F5 σ5 H5 C od p5 l5 R5 => hq φ5 F5 σ5 H5 C od p5 (g.f.trans l5) R5
      | bad => rw [eb] at hq; exact hq
    | exc c env2 st2 => rw [et] at hq; exact hq
    | bad => rw [et] at hq; exact hq
  · have e : i = ds.length := by omega
    subst e
    rw [List.drop_length] at hq
    exact .inl ⟨y2 rfl, hq φ F σ2 H2 (List.prefix_refl _) (Le.refl _) R⟩
end
end TL

namespace TL
open PySem PySem.Spec L2
open PyProof.Rows hiding St

/-! ### comprehensions -/
def wipeE (env : Env) : List Nat → Env
  | [] => env
  | v :: vs => (wipeE env vs).set v .un
def mergeE (ks : List Nat) : Nat → Env → Env → Env
  | i, o :: os, e :: es => (if ks.contains i = true then (if o.isOwn = true then .un else o) else e) :: mergeE ks (i + 1) os es
  | _, _, _ => []
theorem mergeE_length (ks : List Nat) : ∀ (i : Nat) (o e : Env), o.length = e.length → (mergeE ks i o e).length = o.length
  | _, [], [], _ => rfl
  | i, _ :: os, _ :: es, h => by simp [mergeE, mergeE_length ks (i + 1) os es (by simpa using h)]
theorem mergeE_get (ks : List Nat) : ∀ (i : Nat) (o e : Env), o.length = e.length → ∀ (j : Nat) s, (mergeE ks i o e)[j]? = some s → (i + j ∈ ks ∧ s.isOwn = false ∧ (s = .un ∨ o[j]? = some s)) ∨ (i + j ∉ ks ∧ e[j]? = some s)
  | _, [], [], _, j, s, h => by simp [mergeE] at h
  | i, a :: os, b :: es, hl, 0, s, h => by
    simp only [mergeE, List.getElem?_cons_zero, Option.some.injEq] at h
    by_cases hk : ks.contains i = true
    · rw [if_pos hk] at h
      refine .inl ⟨by simpa using hk, ?_⟩
      by_cases ho : a.isOwn = true
      · rw [if_pos ho] at h; subst h; exact ⟨rfl, .inl rfl⟩
      · rw [if_neg ho] at h; subst h; exact ⟨by simpa using ho, .inr rfl⟩
    · rw [if_neg hk] at h
      subst h
      exact .inr ⟨by simpa using hk, rfl⟩
  | i, a :: os, b :: es, hl, j + 1, s, h => by
    have h' : (mergeE ks (i + 1) os es)[j]? = some s := by simpa [mergeE] using h
    have := mergeE_get ks (i + 1) os es (by simpa using hl) j s h'
    have e : i + 1 + j = i + (j + 1) := by omega
    rw [e] at this
    simpa using this
section
variable {K : PySem.W.Frag} {φ φ' : List Addr} {F F' H H' : Hp} {env envB : Env} {st st' : Sto} {σ σ' : L2.St}
theorem Rel.wipe (R : Rel K φ F env st σ H) : ∀ vs : List Nat, Rel K φ F (wipeE env vs) st (wipe σ vs) H
  | [] => R
  | v :: vs => (Rel.wipe R vs).forget v
theorem wipe_get (σ : L2.St) : ∀ (vs : List Nat) (j : Nat), (L2.wipe σ vs)[j]? = if j ∈ vs ∧ j < σ.length then some none else σ[j]?
  | [], j => by simp [L2.wipe]
  | v :: vs, j => by
    unfold L2.wipe
    rw [List.getElem?_set, wipe_get σ vs j, wipe_length]
    by_cases h1 : v = j
    · subst h1
      by_cases h2 : v < σ.length
      · simp [h2]
      · simp [h2]
    · rw [if_neg h1]
      have : (j ∈ v :: vs) ↔ j ∈ vs := by simp [Ne.symm h1]
      simp only [this]
theorem Out.wipe {ks vs : List Nat} (o : Out ks σ σ') (h : ∀ k ∈ ks, k ∈ vs) : L2.wipe σ' vs = L2.wipe σ vs := by
  apply List.ext_getElem?
  intro j
  rw [wipe_get, wipe_get, o.1]
  by_cases hj : j ∈ vs
  · by_cases hl : j < σ.length
    · simp [hj, hl]
    · have h1 : σ[j]? = none := List.getElem?_eq_none (by omega)
      have h2 : σ'[j]? = none := List.getElem?_eq_none (by rw [o.1]; omega)
      simp [hj, hl, h1, h2]
  · simp only [hj, false_and, if_false]
    exact o.2 j fun z => hj (h j z)
theorem Rel.merge {vs : List Nat} (R0 : Rel K φ F env st σ H) (R : Rel K φ' F' envB st' (L2.wipe σ vs) H') (p : φ <+: φ') (l : Le F F') : Rel K φ' F' (mergeE vs 0 env envB) st' σ H' := by
  have hl : env.length = envB.length := by rw [R0.len, R.len, wipe_length]
  have old : ∀ (j : Nat), j ∉ vs → (L2.wipe σ vs)[j]? = σ[j]? := fun j hj => by rw [wipe_get]; simp [hj]
  have g : ∀ (j : Nat) s, (mergeE vs 0 env envB)[j]? = some s → (j ∈ vs ∧ s.isOwn = false ∧ (s = .un ∨ env[j]? = some s)) ∨ (j ∉ vs ∧ envB[j]? = some s) := fun j s h => by
    have := mergeE_get vs 0 env envB hl j s h
    simpa using this
  refine ⟨R.sub, by rw [mergeE_length vs 0 env envB hl, R0.len], fun i d e => ?_, fun i d e => ?_, fun i d e => ?_, fun i sl e hs => ?_, fun i j sl sl' x e1 s1 e2 s2 f1 f2 => ?_, R.slen, R.nd, R.sto⟩
  · rcases g i _ e with ⟨_, _, h | h⟩ | ⟨h1, h⟩
    · cases h
    · obtain ⟨v, a, b⟩ := R0.val i d h
      exact ⟨v, a, Rp.mono l.f b⟩
    · obtain ⟨v, a, b⟩ := R.val i d h
      exact ⟨v, by rw [← old i h1]; exact a, b⟩
  · rcases g i _ e with ⟨_, _, h | h⟩ | ⟨h1, h⟩
    · cases h
    · obtain ⟨v, a, b⟩ := R0.raw i d h
      exact ⟨v, a, Rt.mono l.f b⟩
    · rw [← old i h1]; exact R.raw i d h
  · rcases g i _ e with ⟨_, _, h | h⟩ | ⟨h1, h⟩
    · cases h
    · obtain ⟨q, a, b⟩ := R0.mt i d h
      exact ⟨q, pre_get p a, b⟩
    · rw [← old i h1]; exact R.mt i d h
  · rcases g i _ e with ⟨_, z, _⟩ | ⟨h1, h⟩
    · rw [hs] at z; cases z
    · rw [← old i h1]; exact R.own i sl h hs
  · rcases g i _ e1 with ⟨_, z, _⟩ | ⟨h1, g1⟩
    · rw [s1] at z; cases z
    · rcases g j _ e2 with ⟨_, z, _⟩ | ⟨h2, g2⟩
      · rw [s2] at z; cases z
      · rw [← old i h1] at f1
        rw [← old j h2] at f2
        exact R.inj i j sl sl' x g1 s1 g2 s2 f1 f2
end
def delF (F : Hp) (D : Addr) : Hp := fun q => if q = D then none else F q
theorem Rel.unstill {K : PySem.W.Frag} {φ : List Addr} {F H : Hp} {env : Env} {st : Sto} {σ : L2.St} {D : Addr} {u : HO} (R : Rel K φ F env st σ H) (e : F D = some u) (mu : Wr u) :
    Rel K φ (delF F D) env st σ H ∧ LeF F (delF F D) ∧ delF F D D = none ∧ D ∉ φ ∧ ∀ (j : Nat) t, env[j]? = some t → t.isOwn = true → σ[j]? ≠ some (some (.ref D)) := by
  have ne : ∀ q o, F q = some o → ¬ Wr o → delF F D q = some o := fun q o z nm => by
    unfold delF
    rw [if_neg fun h => by subst h; rw [e] at z; cases z; exact nm mu]
    exact z
  have lf : LeF F (delF F D) := fun q o z n => ne q o z n
  have nn : ∀ q, F q = none → delF F D q = none := fun q z => by unfold delF; rw [z]; split <;> rfl
  refine ⟨⟨fun q o z => ?_, R.len, fun i d z => ?_, fun i d z => ?_, R.mt, fun i sl z hs => ?_, R.inj, R.slen, R.nd, fun k q ds z1 z2 => ?_⟩, lf, if_pos rfl, fun hp => ?_, fun j t z1 z2 z3 => ?_⟩
  · unfold delF at z
    split at z
    · cases z
    · exact R.sub _ _ z
  · obtain ⟨v, a, b⟩ := R.val i d z; exact ⟨v, a, Rp.mono lf b⟩
  · obtain ⟨v, a, b⟩ := R.raw i d z; exact ⟨v, a, Rt.mono lf b⟩
  · obtain ⟨q, a, b, c, ok⟩ := R.own i sl z hs; exact ⟨q, a, nn q b, c, ok.grow lf fun _ h => h⟩
  · obtain ⟨a, b⟩ := R.sto k q ds z1 z2; exact ⟨nn q a, b.mono lf fun _ h => h⟩
  · rw [R.stoOk.free hp] at e; cases e
  · obtain ⟨q, a, b, _⟩ := R.own j t z1 z2
    rw [z3] at a; cases a
    rw [b] at e; cases e
theorem wipe_wipe (σ : L2.St) (vs : List Nat) : L2.wipe (L2.wipe σ vs) vs = L2.wipe σ vs := by
  apply List.ext_getElem?
  intro j
  rw [wipe_get, wipe_get, wipe_length]
  by_cases hj : j ∈ vs ∧ j < σ.length
  · rw [if_pos hj, if_pos hj]
  · rw [if_neg hj, if_neg hj]
/-- no error leaves -/
def noexc {α : Type} (m : M α) : M α := fun env st => match m env st with
  | .ok a env1 st1 => .ok a env1 st1
  | _ => .bad
/-- one item: its target, its test, its element if it is taken -/
def mTurn (tg : PD → M Unit) (mt : M Bool) (me : M PD) (x : PD) : M (Option PD) := aft (tg x) (noexc (bnd mt fun k => if k = true then bnd me fun d => ret (some d) else ret none))
def mCompL (vs : List Nat) (tg : PD → M Unit) (mt : M Bool) (me : M PD) : List PD → M (List PD)
  | [] => ret []
  | x :: xs => bnd (mTurn tg mt me x) fun o => bnd (fun env st => mCompL vs tg mt me xs (wipeE env vs) st) fun ds => ret (match o with
    | some d => d :: ds
    | none => ds)
def mYes : M Bool := ret true
/-- [me for tg in mi if mt], vs the block's own slots -/
def mComp (vs : List Nat) (mi : M (List PD)) (tg : PD → M Unit) (mt : M Bool) (me : M PD) : M Sl := bnd mi fun xs env st =>
  if xs.length ≤ 1000000 then match mCompL vs tg mt me xs (wipeE env vs) st with
  | .ok ds env1 st1 => .ok (.own ds) (mergeE vs 0 env env1) st1
  | _ => .bad else .bad
def tTs (X : Cx) (m : M Bool) : TT := tBo X (fun _ _ _ _ => False) m
abbrev JTt (X : Cx) (ifs : List Expr) (m : M Bool) : Prop := PTs X ifs (tTs X m)
abbrev W0 : WX := fun _ _ _ _ => False
section
variable {X : Cx} {W : WX}
theorem jtt_nil : JTt X [] mYes := ⟨fun pins s σ H Q I ⟨φ, F, env, st, R, h⟩ => pts_nil.run pins s σ H Q I (ret_post R h)⟩
theorem jtt_one {c : Expr} {m : M Bool} (h : JB X W0 c m) : JTt X [c] m := pts_one h
theorem lc_imp {mi : M (List PD)} {tk : List Nat} {mg : PD → M Unit} {mt : M Bool} {me : M PD} {vs : List Nat} (hk : ∀ k ∈ tk, k ∈ vs) {σ : L2.St} {H : Hp} {Q : VK} (h : tO X W (mComp vs mi mg mt me) σ H Q) : tLc (tI X W mi) (tTg X tk mg) (tTs X mt) (tE X W0 me) vs σ H Q := by
  obtain ⟨φ0, F0, env0, st0, R0, h⟩ := h
  refine ⟨φ0, F0, env0, st0, R0, (Post.bnd h).mono fun ds φ1 F1 env1 st1 H1 p1 l1 R1 h1 J y D nD => ?_⟩
  have sz : ds.length ≤ 1000000 := by
    by_cases hz : ds.length ≤ 1000000
    · exact hz
    · rw [if_neg hz] at h1; exact h1.elim
  rw [if_pos sz] at h1
  obtain ⟨r0, envE, stE, e0⟩ : ∃ r0 envE stE, mCompL vs mg mt me ds (wipeE env1 vs) st1 = .ok r0 envE stE := by
    cases e : mCompL vs mg mt me ds (wipeE env1 vs) st1 with
    | ok a b c => exact ⟨a, b, c, rfl⟩
    | _ => rw [e] at h1; exact h1.elim
  rw [e0] at h1
  let Iv : Nat → Hp → Prop := fun i H2 => ∃ φ F env st acc vacc r, φ1 <+: φ ∧ Le F1 F ∧ F D = some (.lst vacc) ∧ Rel X.K φ F env st (L2.wipe σ vs) H2 ∧ Rps X.K F acc vacc ∧ acc.length ≤ i ∧
    mCompL vs mg mt me (ds.drop i) env st = .ok r envE stE ∧ acc ++ r = r0
  refine ⟨fun i m H2 => m = ds.length - i ∧ i ≤ ds.length ∧ Iv i H2, ⟨ds.length, by omega, Nat.zero_le _, ?_⟩, ?_⟩
  · have g : Grow F1 H1 (upd F1 D (.lst [])) (upd H1 D (.lst [])) := Grow.still R1.sub nD
    exact ⟨φ1, _, _, _, [], [], r0, List.prefix_refl _, g.f, upd_same, Rel.wipe (R1.grow g) vs, .nil, Nat.zero_le _, e0, rfl⟩
  · rintro i n H2 ⟨rfl, hi, φ, F, env, st, acc, vacc, r, p, l, eD, R, ra, hl, em, er⟩
    have nF1 : F1 D = none := R1.none_f nD
    obtain ⟨y1, y2⟩ := y i F H2 l R.sub
    by_cases hlt : i < ds.length
    · obtain ⟨go, yl⟩ := y1 ds[i] (List.getElem?_eq_getElem hlt)
      refine .inr ⟨go, Iv (i + 1), fun H' h' => ⟨ds.length - (i + 1), by omega, rfl, by omega, h'⟩, fun x H3 hy => ?_⟩
      obtain ⟨F3, g, rx⟩ := yl x H3 hy
      have R3 := R.grow g
      rw [List.drop_eq_getElem_cons hlt] at em
      unfold mCompL bnd mTurn aft noexc bnd at em
      refine ⟨φ, F3, env, st, _, R3, rx, ?_⟩
      cases et : mg ds[i] env st with
      | ok u env4 st4 =>
        rw [et] at em
        dsimp only at em ⊢
        intro σ4 R4 o4
        refine ⟨by rw [o4.wipe hk, wipe_wipe], φ, F3, env4, st4, R4, ?_⟩
        cases eb : mt env4 st4 with
        | ok k env5 st5 =>
          rw [eb] at em
          dsimp only at em
          intro φ5 F5 H5 p5 l5 R5
          cases k with
          | false =>
            rw [if_neg Bool.false_ne_true]
            simp only [Bool.false_eq_true, ↓reduceIte, ret] at em
            cases ec : mCompL vs mg mt me (ds.drop (i + 1)) (wipeE env5 vs) st5 with
            | ok r' env6 st6 =>
              rw [ec] at em
              dsimp only [ret] at em
              cases em
              refine ⟨φ5, F5, _, _, acc, vacc, r, p.trans p5, (l.trans g.f).trans l5, l5 _ _ (g.f _ _ eD), ?_, Rps.mono (g.f.trans l5).f ra, by omega, ec, er⟩
              have := Rel.wipe R5 vs
              rw [o4.wipe hk, wipe_wipe] at this
              exact this
            | _ => rw [ec] at em; cases em
          | true =>
            rw [if_pos rfl]
            simp only [↓reduceIte] at em
            refine ⟨φ5, F5, env5, st5, R5, ?_⟩
            cases ee : me env5 st5 with
            | ok d env6 st6 =>
              rw [ee] at em
              dsimp only [ret] at em
              intro φ6 F6 H6 p6 l6 R6 v rv
              have eD6 : F6 D = some (.lst vacc) := l6 _ _ (l5 _ _ (g.f _ _ eD))
              obtain ⟨R7, lf7, nD7, nP7, nO7⟩ := R6.unstill eD6 True.intro
              have hz : vacc.length < sizeLine := by
                rw [ra.length]; exact lim_lt (by omega)
              refine ⟨vacc, R6.sub _ _ eD6, hz, ?_⟩
              have R8 : Rel X.K φ6 (upd (delF F6 D) D (.lst (vacc ++ [v]))) env6 st6 σ4 (upd H6 D (.lst (vacc ++ [v]))) := R7.still nD7 nP7 nO7
              have lF : LeF F6 (upd (delF F6 D) D (.lst (vacc ++ [v]))) := lf7.trans (le_upd nD7).f
              cases ec : mCompL vs mg mt me (ds.drop (i + 1)) (wipeE env6 vs) st6 with
              | ok r' env7 st7 =>
                rw [ec] at em
                dsimp only [ret] at em
                cases em
                refine ⟨φ6, upd (delF F6 D) D (.lst (vacc ++ [v])), wipeE env6 vs, st6, acc ++ [d], vacc ++ [v], r', (p.trans p5).trans p6, fun q o e => ?_, upd_same, ?_, ?_, by simp; omega, ec, by rw [← er]; simp⟩
                · have nq : q ≠ D := fun z => by rw [z, nF1] at e; cases e
                  rw [upd_ne nq]
                  show (if q = D then none else F6 q) = some o
                  rw [if_neg nq]
                  exact l6 _ _ (l5 _ _ (g.f _ _ (l _ _ e)))
                · have := Rel.wipe R8 vs
                  rw [o4.wipe hk, wipe_wipe] at this
                  exact this
                · exact (Rps.mono ((((g.f.trans l5).trans l6).f).trans lF) ra).append (.cons (Rp.mono lF rv) .nil)
              | _ => rw [ec] at em; cases em
            | _ => rw [ee] at em; cases em
        | _ => rw [eb] at em; cases em
      | _ => rw [et] at em; cases em
    · have e : i = ds.length := by omega
      subst e
      refine .inl ⟨y2 rfl, ?_⟩
      rw [List.drop_length] at em
      unfold mCompL ret at em
      cases em
      rw [List.append_nil] at er
      subst er
      obtain ⟨R7, lf7, nD7, nP7, nO7⟩ := R.unstill eD True.intro
      have lF : Le F1 (delF F D) := fun q o e => by
        have nq : q ≠ D := fun z => by rw [z, nF1] at e; cases e
        show (if q = D then none else F q) = some o
        rw [if_neg nq]
        exact l _ _ e
      have R9 := R1.merge (vs := vs) R7 p lF
      refine h1 φ (delF F D) H2 p lF R9 D H2 R9 nD7 nP7 (fun j t e1 e2 z => ?_) ⟨vacc, R.sub _ _ eD, Rps.mono lf7 ra⟩
      obtain ⟨q, a, b, _, ok⟩ := R9.own j t e1 e2
      rw [z] at a; cases a
      rcases mergeE_get vs 0 env1 _ (by rw [R1.len, R7.len, wipe_length]) j t e1 with ⟨_, zz, _⟩ | ⟨hj, g1⟩
      · rw [e2] at zz; cases zz
      · refine nO7 j t g1 e2 ?_
        rw [wipe_get]
        simp only [Nat.zero_add] at hj
        simp [hj, z]
theorem jo_comp {elt tg iter : Expr} {ifs : List Expr} {scope : Scope} {own : List (Str × Nat)} {pos : Pos} {mi : M (List PD)} {tk : List Nat} {mg : PD → M Unit} {mt : M Bool} {me : M PD} (hc : X.calm = true) (hN : X.N.Nodup) (hi : JI X W tg iter mi) (ok : BlkOk X.N X.env.scope scope own)
    (hk : ∀ k ∈ tk, k ∈ own.map (·.2))
    (hg : ∀ (s : Shared) (H : Hp) (C : Addr) (cl : List (Str × Addr)) (fp : List Addr), JT (X.blk s H scope (compEnvC scope cl C X.env) fp) tk tg mg) (ht : ∀ (s : Shared) (H : Hp) (C : Addr) (cl : List (Str × Addr)) (fp : List Addr), JTt (X.blk s H scope (compEnvC scope cl C X.env) fp) ifs mt)
    (he : ∀ (s : Shared) (H : Hp) (C : Addr) (cl : List (Str × Addr)) (fp : List Addr), JE (X.blk s H scope (compEnvC scope cl C X.env) fp) W0 elt me) (hs : ∀ x, foldedSetIterable iter X.env x = pure x := by intro _; rfl) :
    JO X W (.ListComp elt [⟨tg, iter, ifs, 0⟩] scope pos) (mComp (own.map (·.2)) mi mg mt me) :=
  PE.imp (pe_lc (te := tE X W0 me) (g := tTg X tk mg) (tt := tTs X mt) hc hN hi ok hg ht he hs) fun σ H Q h => lc_imp hk h
theorem js_setLc {i : Nat} {y : Str} {py spos : Pos} {elt tg iter : Expr} {ifs : List Expr} {scope : Scope} {own : List (Str × Nat)} {pos : Pos} {mi : M (List PD)} {tk : List Nat} {mg : PD → M Unit} {mt : M Bool} {me : M PD} (hc : X.calm = true) (hN : X.N.Nodup) (hy : X.N[i]? = some y) (hyl : X.env.scope.names.lookup y = some .local) (hsw : swapsWith (.ListComp elt [⟨tg, iter, ifs, 0⟩] scope pos) (some (.Name y py)) spos.line X.env = pure true) (hi : JI X W tg iter mi) (ok : BlkOk X.N X.env.scope scope own)
    (hk : ∀ k ∈ tk, k ∈ own.map (·.2))
    (hg : ∀ (s : Shared) (H : Hp) (C : Addr) (cl : List (Str × Addr)) (fp : List Addr), JT (X.blk s H scope (compEnvC scope cl C X.env) fp) tk tg mg) (ht : ∀ (s : Shared) (H : Hp) (C : Addr) (cl : List (Str × Addr)) (fp : List Addr), JTt (X.blk s H scope (compEnvC scope cl C X.env) fp) ifs mt)
    (he : ∀ (s : Shared) (H : Hp) (C : Addr) (cl : List (Str × Addr)) (fp : List Addr), JE (X.blk s H scope (compEnvC scope cl C X.env) fp) W0 elt me) (hs : ∀ x, foldedSetIterable iter X.env x = pure x := by intro _; rfl) :
    JS X W (.Assign [.Name y py] (.ListComp elt [⟨tg, iter, ifs, 0⟩] scope pos) spos) (mSetO i (mComp (own.map (·.2)) mi mg mt me)) :=
  PS.imp (ps_setLc (te := tE X W0 me) (g := tTg X tk mg) (tt := tTs X mt) hc hN hy hyl hsw hi ok hg ht he hs) fun D σ H ⟨φ, F, env, st, R, h⟩ => lc_imp hk (Q := fun x H1 => gName i x σ H1 D.nx) ⟨φ, F, env, st, R, (PostS.bnd h).mono fun sl φ1 F1 env1 st1 H1 p1 l1 R1 h1 p Hn R2 n np no ok => by
    have hs : sl.isOwn = true := by cases sl <;> first | rfl | exact ok.elim
    exact nx_post (R2.setSlot (fun d e => by subst e; cases hs) (fun d e => by subst e; cases hs) (fun d e => by subst e; cases hs) fun _ => ⟨p, rfl, n, np, ok, fun j t _ e1 e2 => no j t e1 e2⟩) h1⟩
/-! frozen behind the statement -/
def fzD (D : Ends) : Ends := { D with nx := fun σ H => D.nx σ H ∨ ∃ p u, H p = some u ∧ Mut (some u) ∧ ∀ o, D.nx σ (upd H p (.frz o u)) }
theorem PS.fz {s : Stmt} {t : TS} (h : PS X s t) : PS X s (fun D σ H => t (fzD D) σ H) := ⟨fun pins s σ H D I hq => thn (h.run pins s σ H _ I hq) fun f s' q => by
  cases f with
  | next =>
    obtain ⟨σ', H', I', q'⟩ := q
    rcases q' with q' | ⟨p, u, e, mu, q'⟩
    · exact ⟨σ', H', I', q'⟩
    · obtain ⟨od, I1⟩ := I'.lock e mu
      exact ⟨σ', _, I1, q' od⟩
  | ret v => exact q
  | brk => exact q
  | cont => exact q⟩
theorem js_setLcF {i : Nat} {y : Str} {py spos : Pos} {elt tg iter : Expr} {ifs : List Expr} {scope : Scope} {own : List (Str × Nat)} {pos : Pos} {mi : M (List PD)} {tk : List Nat} {mg : PD → M Unit} {mt : M Bool} {me : M PD} (hc : X.calm = true) (hN : X.N.Nodup) (hy : X.N[i]? = some y) (hyl : X.env.scope.names.lookup y = some .local) (hsw : swapsWith (.ListComp elt [⟨tg, iter, ifs, 0⟩] scope pos) (some (.Name y py)) spos.line X.env = pure true) (hi : JI X W tg iter mi) (ok : BlkOk X.N X.env.scope scope own)
    (hk : ∀ k ∈ tk, k ∈ own.map (·.2))
    (hg : ∀ (s : Shared) (H : Hp) (C : Addr) (cl : List (Str × Addr)) (fp : List Addr), JT (X.blk s H scope (compEnvC scope cl C X.env) fp) tk tg mg) (ht : ∀ (s : Shared) (H : Hp) (C : Addr) (cl : List (Str × Addr)) (fp : List Addr), JTt (X.blk s H scope (compEnvC scope cl C X.env) fp) ifs mt)
    (he : ∀ (s : Shared) (H : Hp) (C : Addr) (cl : List (Str × Addr)) (fp : List Addr), JE (X.blk s H scope (compEnvC scope cl C X.env) fp) W0 elt me) (hs : ∀ x, foldedSetIterable iter X.env x = pure x := by intro _; rfl) :
    JS X W (.Assign [.Name y py] (.ListComp elt [⟨tg, iter, ifs, 0⟩] scope pos) spos) (mSet i (mFz (mComp (own.map (·.2)) mi mg mt me))) :=
  PS.imp (PS.fz (ps_setLc (te := tE X W0 me) (g := tTg X tk mg) (tt := tTs X mt) hc hN hy hyl hsw hi ok hg ht he hs)) fun D σ H ⟨φ, F, env, st, R, h⟩ => lc_imp hk (Q := fun x H1 => gName i x σ H1 (fzD D).nx) ⟨φ, F, env, st, R, (Post.bnd (PostS.bnd h)).mono fun sl φ1 F1 env1 st1 H1 p1 l1 R1 h1 p Hn R2 n np no ok => by
    obtain ⟨c, e, q⟩ := opt_post h1
    obtain ⟨u, d, eu, mu, e2, rp⟩ := ok.rp
    rw [e] at e2; cases e2
    refine .inr ⟨p, u, eu, mu.mut, fun ob => ?_⟩
    have q' := q φ1 _ _ (List.prefix_refl _) (le_upd n) (R2.still (o := .frz ob u) n np no)
    exact nx_post ((R2.still n np no).set_v (rp n ob)) q'⟩
end
end TL

namespace TL
open PySem PySem.Spec L2
open PyProof.Rows hiding St

/-! ### a def's body -/
def slot0 : Ag → Sl
  | .d x => .v x
  | .raw v => .raw v
  | .mt n => .mt n
def endR : Res Flow → Rf
  | .ok (.rt d) _ st => .ret (.d d) st
  | .ok (.rtm k) _ st => .ret (.mt k) st
  | .ok .nx _ st => .ret (.d .none) st
  | .ok _ _ _ => .bad
  | .exc c _ st => .exc c st
  | .bad => .bad
def runFn (nN n : Nat) (m : M Flow) : Sem1 := fun as st => if as.length = n then endR (m (as.map slot0 ++ List.replicate (nN - n) .un) st) else .bad
/-- what a body may use -/
structure Fx (X : Cx) (W : WX) (k : Nat) : Prop where
  o : Okx X
  tk : Takes X W
  hr : Room k X.A
  hp : PassesOwn (model X.prog X.w) X.A X.env X.xe
section
variable {P : Program} {w : World} {K : PySem.W.Frag} {mg : Str → Option Value} {base : Heap}
theorem rel_start {φ : List Addr} {F H : Hp} {st : Sto} {as : List Ag} {vs : List V} {N : List Str} {n : Nat} (sub : Le F H) (S : StoOk K φ F st H) (r : Ras K φ F as vs) (hl : as.length = n) (hn : n ≤ N.length) :
    Rel K φ F (as.map slot0 ++ List.replicate (N.length - n) .un) st (start N vs) H := by
  have hv := r.length
  have env_at : ∀ (i : Nat) s, (as.map slot0 ++ List.replicate (N.length - n) Sl.un)[i]? = some s → s = .un ∨ ∃ a v, as[i]? = some a ∧ s = slot0 a ∧ vs[i]? = some v ∧ Ra K φ F a v := fun i s e => by
    by_cases hi : i < as.length
    · rw [List.getElem?_append_left (by simpa using hi), List.getElem?_map] at e
      obtain ⟨a, e1, e2⟩ := Option.map_eq_some_iff.mp e
      have : ∀ {as : List Ag} {vs : List V}, Ras K φ F as vs → ∀ (i : Nat) a, as[i]? = some a → ∃ v, vs[i]? = some v ∧ Ra K φ F a v := by
        intro as vs r
        induction r with
        | nil => intro i a e; simp at e
        | cons h _ ih =>
          intro i a e
          cases i with
          | zero => simp at e; subst e; exact ⟨_, rfl, h⟩
          | succ i => simpa using ih i a (by simpa using e)
      obtain ⟨v, e3, e4⟩ := this r i a e1
      exact .inr ⟨a, v, e1, e2.symm, e3, e4⟩
    · rw [List.getElem?_append_right (by simpa using hi)] at e
      exact .inl (List.eq_of_mem_replicate (List.mem_of_getElem? e))
  have at_ : ∀ (i : Nat) v, vs[i]? = some v → (start N vs)[i]? = some (some v) := fun i v e => by
    unfold L2.start
    have hi : i < vs.length := (List.getElem?_eq_some_iff.mp e).1
    rw [List.getElem?_append_left (by simpa using hi), List.getElem?_map, e]; rfl
  have own0 : ∀ (i : Nat) s, (as.map slot0 ++ List.replicate (N.length - n) Sl.un)[i]? = some s → s.isOwn = false := fun i s e => by
    rcases env_at i s e with h | ⟨a, v, _, h, _⟩
    · subst h; rfl
    · subst h; cases a <;> rfl
  refine ⟨sub, ?_, fun i d e => ?_, fun i d e => ?_, fun i d e => ?_, fun i sl e hs => ?_, fun i j sl sl' x e1 s1 e2 s2 f1 f2 => ?_, S.slen, S.nd, S.sto⟩
  · unfold L2.start; simp [hv, hl]
  · rcases env_at i _ e with h | ⟨a, v, _, h, h1, h2⟩
    · cases h
    · cases a <;> cases h
      exact ⟨v, at_ i v h1, h2⟩
  · rcases env_at i _ e with h | ⟨a, v, _, h, h1, h2⟩
    · cases h
    · cases a <;> cases h
      exact ⟨v, at_ i v h1, h2⟩
  · rcases env_at i _ e with h | ⟨a, v, _, h, h1, h2⟩
    · cases h
    · cases a <;> cases h
      obtain ⟨q, e1, e2⟩ := h2
      subst e2
      exact ⟨q, e1, at_ i _ h1⟩
  · rw [own0 i sl e] at hs; cases hs
  · rw [own0 i sl e1] at s1; cases s1
theorem fn_T {x qual : Str} {s : Stmt} {f : Addr} {fd : FuncData} {N ps : List Str} {k : Nat} {m : M Flow} (F : Fun K x qual s f fd) (S : FnScope N ps (defScope s)) (hN : ps.length ≤ N.length)
    (hb : ∀ (cdv : Value) (A : Around) (outer : List PySem.Env) (s0 : Shared) (H : Hp) (E : XK), Fx (cxOf (L2.CX P w) P w K mg base N qual (defScope s) f cdv A outer s0 H E) (fun cls d _ H => E cls d H) k →
      JSs (cxOf (L2.CX P w) P w K mg base N qual (defScope s) f cdv A outer s0 H E) (fun cls d _ H => E cls d H) (defBody s) m) :
    FnOk P w K mg base (L2.CX P w) (k + 1) f fd ps (spT K mg (runFn N.length ps.length m)) := by
  refine F.okX S (fun vs H Q E h => ?_) fun cdv A outer s0 H vs Q E hr h => ?_
  · obtain ⟨φ, F, as, st, l, S, r, h⟩ := h
    rw [r.length]
    unfold runFn at h
    by_cases hl : as.length = ps.length
    · exact hl
    · rw [if_neg hl] at h; exact h.elim
  · obtain ⟨φ, F, as, st, l, S, r, h⟩ := h
    refine ⟨_, hb cdv A outer s0 H E ⟨⟨rfl, by have := hr.un; show (A.deeper _).units + 150 < cLine; omega, hr.hd⟩, takes_of rfl rfl rfl rfl, hr, passes_of rfl⟩, ?_⟩
    unfold runFn at h
    by_cases hl : as.length = ps.length
    · rw [if_pos hl] at h
      refine ⟨φ, F, _, st, rel_start l S r hl hN, ?_⟩
      cases e : m (as.map slot0 ++ List.replicate (N.length - ps.length) .un) st with
      | ok fl env' st' =>
        rw [e] at h
        intro φ' F' σ' H' p l' R
        cases fl with
        | nx => exact h φ' F' H' _ p l' R.sub R.stoOk .non
        | rt d => exact fun v r => h φ' F' H' v p l' R.sub R.stoOk r
        | rtm n => exact fun q e => h φ' F' H' _ p l' R.sub R.stoOk ⟨q, e, rfl⟩
        | bk => exact h.elim
        | ct => exact h.elim
      | exc c env' st' =>
        rw [e] at h
        exact fun φ' F' σ' H' C od p l' R hc => h φ' F' H' C od p l' R.sub R.stoOk hc
      | bad => rw [e] at h; exact h.elim
    · rw [if_neg hl] at h; exact h.elim
end
/-! ### the frame's own lists -/
def hasL (i : Nat) : M Unit := fun env st => match env[i]? with
  | some (.own _) => .ok () env st
  | some (.mt n) => match st[n]? with
    | some (.l _) => .ok () env st
    | _ => .bad
  | _ => .bad
/-- the list in the slot i turns -/
def putL {β : Type} (i : Nat) (f : List PD → Option (β × List PD)) : M β := fun env st => match env[i]? with
  | some (.own ds) => match f ds with
    | some (b, es) => .ok b (env.set i (.own es)) st
    | none => .bad
  | some (.mt n) => match st[n]? with
    | some (.l ds) => match f ds with
      | some (b, es) => .ok b env (st.set n (.l es))
      | none => .bad
    | _ => .bad
  | _ => .bad
section
variable {X : Cx} {W : WX} {σ : L2.St} {φ : List Addr} {F H : Hp} {env : Env} {st : Sto} {i : Nat}
theorem hasL_post {Q : Unit → List Addr → Hp → Env → Sto → Hp → Prop} (R : Rel X.K φ F env st σ H) (h : Post X W σ φ F (hasL i env st) Q) :
    ∃ p xs, σ[i]? = some (some (.ref p)) ∧ H p = some (.lst xs) ∧ Q () φ F env st H := by
  unfold hasL at h
  cases e : env[i]? with
  | none => rw [e] at h; exact h.elim
  | some s =>
    rw [e] at h
    cases s with
    | own ds =>
      obtain ⟨p, e1, n, np, xs, e2, r⟩ := R.own i _ e rfl
      exact ⟨p, xs, e1, e2, h φ F H (List.prefix_refl _) (Le.refl _) R⟩
    | mt n =>
      dsimp only at h
      split at h
      · rename_i ds hn
        obtain ⟨p, xs, h1, _, h3, h4⟩ := R.viewM e hn
        exact ⟨p, xs, h1, h3, h φ F H (List.prefix_refl _) (Le.refl _) R⟩
      · exact h.elim
    | _ => exact h.elim
/-- .. and what it then is; g the heap's side of the turn -/
theorem putL_post {β : Type} {f : List PD → Option (β × List PD)} {Q : β → List Addr → Hp → Env → Sto → Hp → Prop} {p : Addr} (R : Rel X.K φ F env st σ H) (hp : σ[i]? = some (some (.ref p))) (h : Post X W σ φ F (putL i f env st) Q) :
    ∃ ds es xs b, f ds = some (b, es) ∧ H p = some (.lst xs) ∧ Rps X.K F ds xs ∧ ∀ ys, Rps X.K F es ys → ∃ env' st', Rel X.K φ F env' st' σ (upd H p (.lst ys)) ∧ Q b φ F env' st' (upd H p (.lst ys)) := by
  unfold putL at h
  cases e : env[i]? with
  | none => rw [e] at h; exact h.elim
  | some s =>
    rw [e] at h
    cases s with
    | own ds =>
      obtain ⟨p', e1, n, np, xs, e2, r⟩ := R.own i _ e rfl
      rw [hp] at e1; cases e1
      dsimp only at h
      cases ef : f ds with
      | none => rw [ef] at h; exact h.elim
      | some es =>
        obtain ⟨b, es⟩ := es
        rw [ef] at h
        refine ⟨ds, es, xs, b, ef, e2, r, fun ys ry => ?_⟩
        have R' := R.write e rfl hp (o := .lst ys) (s' := .own es) ⟨ys, upd_same, ry⟩ rfl
        exact ⟨_, _, R', h φ F _ (List.prefix_refl _) (Le.refl _) R'⟩
    | mt n =>
      dsimp only at h
      cases en : st[n]? with
      | none => rw [en] at h; exact h.elim
      | some ds =>
        rw [en] at h
        cases ds with
        | tab P q => exact h.elim
        | l ds =>
        dsimp only at h
        obtain ⟨p', xs, h1, h2, h3, h4⟩ := R.viewM e en
        rw [hp] at h1; cases h1
        cases ef : f ds with
        | none => rw [ef] at h; exact h.elim
        | some es =>
          obtain ⟨b, es⟩ := es
          rw [ef] at h
          refine ⟨ds, es, xs, b, ef, h3, h4, fun ys ry => ?_⟩
          have R' := R.writeSto (ds := es) h2 ry
          exact ⟨_, _, R', h φ F _ (List.prefix_refl _) (Le.refl _) R'⟩
    | _ => exact h.elim
variable {x : Str} {pv apos cpos pos : Pos} {e : Expr} {m : M PD}
def fApp (d : PD) (ds : List PD) : Option (Unit × List PD) := if ds.length < 1000000 then some ((), ds ++ [d]) else none
def mApp (i : Nat) (m : M PD) : M PD := bnd (hasL i) fun _ => bnd m fun d => bnd (putL i (fApp d)) fun _ => ret .none
theorem je_app (hx : PE X (.Name x pv) (tVar i)) (he : JE X W e m) (hbase : attributeBase (.Name x pv) "append" X.env (eval (.Name x pv) X.env) = eval (.Name x pv) X.env := by rfl)
    (hfew : ((backTo cpos (starEach [e] X.env)).all (fun x => !x.1) && (backToKw cpos (keywordEach [] X.env)).all (fun x => x.1.isSome) && decide (([e] : List Expr).length + ([] : List Keyword).length + (if ([] : List Keyword).isEmpty then 0 else 1) < 30)) = true := by rfl)
    (hline : (apos.endLine == cpos.line) = true := by rfl) (hs : starEach [e] X.env = (false, eval e X.env) :: starEach [] X.env := by rfl) (hpl : (backTo cpos (starEach [] X.env)).any (·.1) = false := by rfl) :
    JE X W (.Call (.Attribute (.Name x pv) "append" apos) [e] [] cpos) (mApp i m) := by
  refine PE.imp (pe_bm PySem.F.plainAttrs_list PySem.F.slot_list_append PySem.F.type_list_append mt_append hx (pa_cons he pa_nil hs) hbase hfew hline hs hpl) fun σ H Q ⟨φ, F, env, st, R, h⟩ => ?_
  obtain ⟨p, xs, e1, e2, h⟩ := hasL_post R (Post.bnd h)
  refine ⟨_, e1, .inl ⟨rfl, xs, SqL.of e2⟩, φ, F, env, st, R, (Post.bnd h).mono fun d φ1 F1 env1 st1 H1 p1 l1 R1 h1 v r => ?_⟩
  obtain ⟨ds, es, ys, b, ef, eh, ry, k⟩ := putL_post R1 e1 (Post.bnd h1)
  obtain ⟨hz, ef⟩ := if_some ef
  cases ef
  obtain ⟨env', st', R2, q⟩ := k (ys ++ [v]) (ry.append (.cons r .nil))
  exact ⟨p, ys, v, rfl, rfl, eh, by rw [ry.length]; exact lim_lt (Nat.le_of_lt hz), ret_post R2 q _ .non⟩
/-- x.extend(list, whatever list) -/
def rExtR : V → List V → Hp → VK → Prop := fun x vs H Q => ∃ l b xs zs, x = .ref l ∧ vs = [.ref b] ∧ H l = some (.lst xs) ∧ Rd H b (.lst zs) ∧ xs.length + zs.length ≤ sizeLine ∧ Q .non (upd H l (.lst (xs ++ zs)))
theorem mt_extR : MtM X "list.extend" rExtR := by
  intro pins s σ H x vs v us Q I rx rv hh
  obtain ⟨l, b, xs, zs, rfl, rfl, hH, hB, hz, q⟩ := hh
  cases rx
  obtain ⟨u, rfl, ru⟩ := rv.one
  cases ru
  obtain ⟨z, its, n, r, hl, e⟩ := rdL I (.inl hH)
  obtain ⟨z2, jts, n2, r2, hl2, e2⟩ := rdL I hB
  have hsz : its.toArray.size + jts.toArray.size ≤ sizeLine := by simp only [List.size_toArray]; omega
  have hnot : ¬ (!its.toArray.isEmpty && Builtin.List.listTooLong (its.toArray.size + jts.toArray.size)) = true := by
    rw [notLongL hsz]; simp
  refine call_meets PySem.F.slot_list_extend ⟨_, e, rfl⟩ PySem.F.entry_list_extend (PySem.F.args_list_extend_2 _ _) (AutoSeq1.list_extend_list_list_0 l its.toArray n b jts.toArray n2 hnot (by simp only [List.size_toArray]; omega) (by omega)) ⟨e, e2, .non, _, I.lset (its' := its ++ jts) hH e (by simp) (r.append r2) ?_, rfl, q⟩
  simp only [List.length_append]; omega
def fExt : PD → List PD → Option (Unit × List PD)
  | .list es, ds => if ds.length + es.length ≤ 1000000 then some ((), ds ++ es) else none
  | _, _ => none
def mExt (i : Nat) (m : M PD) : M PD := bnd (hasL i) fun _ => bnd m fun d => bnd (putL i (fExt d)) fun _ => ret .none
theorem je_ext (hx : PE X (.Name x pv) (tVar i)) (he : JE X W e m) (hbase : attributeBase (.Name x pv) "extend" X.env (eval (.Name x pv) X.env) = eval (.Name x pv) X.env := by rfl)
    (hfew : ((backTo cpos (starEach [e] X.env)).all (fun x => !x.1) && (backToKw cpos (keywordEach [] X.env)).all (fun x => x.1.isSome) && decide (([e] : List Expr).length + ([] : List Keyword).length + (if ([] : List Keyword).isEmpty then 0 else 1) < 30)) = true := by rfl)
    (hline : (apos.endLine == cpos.line) = true := by rfl) (hs : starEach [e] X.env = (false, eval e X.env) :: starEach [] X.env := by rfl) (hpl : (backTo cpos (starEach [] X.env)).any (·.1) = false := by rfl) :
    JE X W (.Call (.Attribute (.Name x pv) "extend" apos) [e] [] cpos) (mExt i m) := by
  refine PE.imp (pe_bm PySem.F.plainAttrs_list PySem.F.slot_list_extend PySem.F.type_list_extend mt_extR hx (pa_cons he pa_nil hs) hbase hfew hline hs hpl) fun σ H Q ⟨φ, F, env, st, R, h⟩ => ?_
  obtain ⟨p, xs, e1, e2, h⟩ := hasL_post R (Post.bnd h)
  refine ⟨_, e1, .inl ⟨rfl, xs, SqL.of e2⟩, φ, F, env, st, R, (Post.bnd h).mono fun d φ1 F1 env1 st1 H1 p1 l1 R1 h1 v r => ?_⟩
  obtain ⟨ds, es, ys, b, ef, eh, ry, k⟩ := putL_post R1 e1 (Post.bnd h1)
  cases r with
  | lst hf rs =>
    unfold fExt at ef
    obtain ⟨hz, ef⟩ := if_some ef
    cases ef
    obtain ⟨env', st', R2, q⟩ := k _ (ry.append rs)
    exact ⟨p, _, ys, _, rfl, rfl, eh, hf.rd R1.sub, by rw [ry.length, rs.length]; exact lim_le hz, ret_post R2 q _ .non⟩
  | _ => cases ef
noncomputable def fPop : PD → List PD → Option (PD × List PD)
  | .int k, ds => if small62 k = true then (seqIndex? k ds.length).bind fun j => (ds[j]?).map fun d => (d, ds.eraseIdx j) else none
  | _, _ => none
noncomputable def mPop (i : Nat) (m : M PD) : M PD := bnd (hasL i) fun _ => bnd m fun d => putL i (fPop d)
theorem je_pop (hx : PE X (.Name x pv) (tVar i)) (he : JE X W e m) (hbase : attributeBase (.Name x pv) "pop" X.env (eval (.Name x pv) X.env) = eval (.Name x pv) X.env := by rfl)
    (hfew : ((backTo cpos (starEach [e] X.env)).all (fun x => !x.1) && (backToKw cpos (keywordEach [] X.env)).all (fun x => x.1.isSome) && decide (([e] : List Expr).length + ([] : List Keyword).length + (if ([] : List Keyword).isEmpty then 0 else 1) < 30)) = true := by rfl)
    (hline : (apos.endLine == cpos.line) = true := by rfl) (hs : starEach [e] X.env = (false, eval e X.env) :: starEach [] X.env := by rfl) (hpl : (backTo cpos (starEach [] X.env)).any (·.1) = false := by rfl) :
    JE X W (.Call (.Attribute (.Name x pv) "pop" apos) [e] [] cpos) (mPop i m) := by
  refine PE.imp (pe_bm PySem.F.plainAttrs_list PySem.F.slot_list_pop PySem.F.type_list_pop mt_popAt hx (pa_cons he pa_nil hs) hbase hfew hline hs hpl) fun σ H Q ⟨φ, F, env, st, R, h⟩ => ?_
  obtain ⟨p, xs, e1, e2, h⟩ := hasL_post R (Post.bnd h)
  refine ⟨_, e1, .inl ⟨rfl, xs, SqL.of e2⟩, φ, F, env, st, R, (Post.bnd h).mono fun d φ1 F1 env1 st1 H1 p1 l1 R1 h1 v r => ?_⟩
  obtain ⟨ds, es, ys, b, ef, eh, ry, k⟩ := putL_post R1 e1 h1
  cases r with
  | int j =>
    simp only [fPop] at ef
    split at ef
    · rename_i hz
      obtain ⟨z1, z2⟩ := small62_ok hz
      obtain ⟨q, f1, f2⟩ := Option.bind_eq_some_iff.mp ef
      obtain ⟨d, f3, f4⟩ := Option.map_eq_some_iff.mp f2
      cases f4
      obtain ⟨v, g1, g2⟩ := ry.get f3
      obtain ⟨env', st', R2, hq⟩ := k _ (ry.eraseIdx q)
      refine ⟨p, ys, _, q, v, rfl, rfl, eh, by omega, by omega, by rw [ry.length]; exact f1, g1, hq _ g2⟩
    · cases ef
  | _ => cases ef
/-- x.pop() -/
def fPopE : List PD → Option (PD × List PD) := fun ds => (ds[ds.length - 1]?).map fun d => (d, ds.dropLast)
def mPopE (i : Nat) : M PD := bnd (hasL i) fun _ => putL i fPopE
theorem je_popE (hx : PE X (.Name x pv) (tVar i)) (hbase : attributeBase (.Name x pv) "pop" X.env (eval (.Name x pv) X.env) = eval (.Name x pv) X.env := by rfl) (hline : (apos.endLine == cpos.line) = true := by rfl) :
    JE X W (.Call (.Attribute (.Name x pv) "pop" apos) [] [] cpos) (mPopE i) := by
  refine PE.imp (pe_bm0 PySem.F.plainAttrs_list PySem.F.slot_list_pop PySem.F.type_list_pop mt_pop hx hbase hline) fun σ H Q ⟨φ, F, env, st, R, h⟩ => ?_
  obtain ⟨p, xs, e1, e2, h⟩ := hasL_post R (Post.bnd h)
  refine ⟨_, e1, .inl ⟨rfl, xs, SqL.of e2⟩, ?_⟩
  obtain ⟨ds, es, ys, b, ef, eh, ry, k⟩ := putL_post R e1 h
  obtain ⟨d, f3, f4⟩ := Option.map_eq_some_iff.mp ef
  cases f4
  obtain ⟨v, g1, g2⟩ := ry.get f3
  have rd : Rps X.K F ds.dropLast ys.dropLast := by
    rw [List.dropLast_eq_take, List.dropLast_eq_take, ry.length]
    exact ry.take _
  obtain ⟨env', st', R2, hq⟩ := k _ rd
  exact ⟨p, ys, v, rfl, rfl, eh, by rw [ry.length]; exact g1, hq _ g2⟩
/-! x[k] = v -/
def fStore (k d : PD) (ds : List PD) : Option (Unit × List PD) := match k with
  | .int i => (ixN ds.length i).map fun j => ((), ds.set j d)
  | _ => none
def mStore (i : Nat) (mk mv : M PD) : M Flow := bnd mv fun d => bnd (hasL i) fun _ => bnd mk fun k => bnd (putL i (fStore k d)) fun _ => ret .nx
theorem js_store {k : Expr} {mk : M PD} {ps : Pos} (hx : PE X (.Name x pv) (tVar i)) (hk : JE X W k mk) (he : JE X W e m)
    (hs : swapsWithSole [.Subscript (.Name x pv) k ps] e pos.line X.env = pure false := by rfl) (hw : swappedStores [.Subscript (.Name x pv) k ps] e X.env = pure none := by rfl)
    (h1 : (assignEach [.Subscript (.Name x pv) k ps] X.env).map (·.2) = [assign (.Subscript (.Name x pv) k ps) X.env] := by rfl) (h2 : ∀ v, assign (.Subscript (.Name x pv) k ps) X.env v = (do
      let ov ← holding [v] (eval (.Name x pv) X.env)
      let iv ← holding [v, ov] (eval k X.env)
      standAt ps
      holding [v, ov, iv] (setItem ov iv v)
      release [v, ov, iv] []) := by intro _; rfl) : JS X W (.Assign [.Subscript (.Name x pv) k ps] e pos) (mStore i mk m) := by
  refine PS.imp (ps_asg he (pg_sub hx hk set_list h2) hs hw h1) fun D σ H ⟨φ, F, env, st, R, h⟩ => ⟨φ, F, env, st, R, (PostS.bnd h).mono fun d φ1 F1 env1 st1 H1 p1 l1 R1 h1 v r => ?_⟩
  obtain ⟨p, xs, e1, e2, h2⟩ := hasL_post R1 (PostS.bnd h1)
  refine ⟨_, e1, φ1, F1, env1, st1, R1, (PostS.bnd h2).mono fun kd φ2 F2 env2 st2 H2 p2 l2 R2 h3 y ry => ?_⟩
  obtain ⟨ds, es, ys, b, ef, eh, rys, q⟩ := putL_post R2 e1 (PostS.bnd h3)
  cases ry with
  | int j =>
    simp only [fStore] at ef
    obtain ⟨t, g1, g2⟩ := Option.map_eq_some_iff.mp ef
    cases g2
    obtain ⟨env', st', R3, hq⟩ := q _ (rys.set (Rp.mono l2.f r) t)
    exact ⟨p, ys, j, t, rfl, rfl, eh, by rw [rys.length]; exact g1, nx_post R3 hq⟩
  | _ => cases ef
end
end TL

namespace TL
open PySem PySem.Spec L2
open PyProof.Rows hiding St

section
variable {X : Cx} {W : WX} {e : Expr} {pos : Pos} {m : M PD}
/-! ### a, b = e1, e2 -/
/-- what goes into a slot: data, or what is made and is the frame's own -/
def tX (X : Cx) (W : WX) (m : M Sl) : TE := fun σ H Q => ∃ φ F env st, Rel X.K φ F env st σ H ∧ Post X W σ φ F (m env st) fun sl φ' F' env' st' H' =>
  (∀ d v, sl = .v d → Rp X.K F' d v → Q v H') ∧
  ∀ p Hn, Rel X.K φ' F' env' st' σ Hn → F' p = none → p ∉ φ' → (∀ (j : Nat) t, env'[j]? = some t → t.isOwn = true → σ[j]? ≠ some (some (.ref p))) → OwnOk X.K F' Hn p sl → Q (.ref p) Hn
abbrev JX (X : Cx) (W : WX) (e : Expr) (m : M Sl) : Prop := PE X e (tX X W m)
def mXv (m : M PD) : M Sl := bnd m fun d => ret (.v d)
theorem jx_e (h : JE X W e m) : JX X W e (mXv m) := PE.imp h fun σ H Q ⟨φ, F, env, st, R, h⟩ => ⟨φ, F, env, st, R, (Post.bnd h).mono fun d φ1 F1 env1 st1 H1 p1 l1 R1 h1 v r => (ret_post R1 h1).1 d v rfl r⟩
theorem jx_o {m : M Sl} (h : JO X W e m) : JX X W e m := PE.imp h fun σ H Q ⟨φ, F, env, st, R, h⟩ => ⟨φ, F, env, st, R, h.mono fun d φ1 F1 env1 st1 H1 p1 l1 R1 h1 => h1.2⟩
def mPar (i j : Nat) (ma mb : M Sl) : M Flow := bnd ma fun a => bnd mb fun b env st => .ok .nx ((env.set i a).set j b) st
def SlIn (K : PySem.W.Frag) (φ : List Addr) (F H : Hp) (env : Env) (σ : L2.St) (sl : Sl) (x : V) : Prop :=
  (∃ d, sl = .v d ∧ Rp K F d x) ∨ ∃ p, x = .ref p ∧ F p = none ∧ p ∉ φ ∧ (∀ (j : Nat) t, env[j]? = some t → t.isOwn = true → σ[j]? ≠ some (some (.ref p))) ∧ OwnOk K F H p sl
theorem OwnOk.own {K : PySem.W.Frag} {F H : Hp} {p : Addr} {sl : Sl} (ok : OwnOk K F H p sl) : sl.isOwn = true := by cases sl <;> first | rfl | exact ok.elim
theorem Rel.setIn {K : PySem.W.Frag} {φ : List Addr} {F H : Hp} {env : Env} {st : Sto} {σ : L2.St} {sl : Sl} {x : V} (R : Rel K φ F env st σ H) (i : Nat) (h : SlIn K φ F H env σ sl x) : Rel K φ F (env.set i sl) st (σ.set i (some x)) H := by
  rcases h with ⟨d, rfl, r⟩ | ⟨p, rfl, n, np, no, ok⟩
  · exact R.set_v r
  · have hs := ok.own
    exact R.setSlot (fun d e => by subst e; cases hs) (fun d e => by subst e; cases hs) (fun d e => by subst e; cases hs) fun _ => ⟨p, rfl, n, np, ok, fun j t _ e1 e2 => no j t e1 e2⟩
theorem js_par {i j : Nat} {x y : Str} {a b : Expr} {ma mb : M Sl} {px py pt : Pos} {kt k2 : Nat} {pt2 : Pos} (hc : X.calm = true) (hN : X.N.Nodup) (hi : X.N[i]? = some x) (hj : X.N[j]? = some y) (hij : i ≠ j)
    (hx : X.env.scope.names.lookup x = some .local) (hy : X.env.scope.names.lookup y = some .local) (ha : JX X W a ma) (hb : JX X W b mb)
    (hw : swappedStores [.Tuple [.Name x px, .Name y py] kt pt] (.Tuple [a, b] k2 pt2) X.env = pure (some [x, y]))
    (hs : swapsWithSole [.Tuple [.Name x px, .Name y py] kt pt] (.Tuple [a, b] k2 pt2) pos.line X.env = pure false := by rfl)
    (s1 : starEach (a :: [b]) X.env = (false, eval a X.env) :: starEach [b] X.env := by rfl) (s2 : starEach (b :: []) X.env = (false, eval b X.env) :: starEach [] X.env := by rfl) :
    JS X W (.Assign [.Tuple [.Name x px, .Name y py] kt pt] (.Tuple [a, b] k2 pt2) pos) (mPar i j ma mb) := by
  refine PS.imp (ps_par hc hN hi hj hij hx hy (pa_cons ha (pa_cons hb pa_nil s2) s1) hw hs) fun D σ H ⟨φ, F, env, st, R, h⟩ => ⟨φ, F, env, st, R, (PostS.bnd h).mono fun sa φ1 F1 env1 st1 H1 p1 l1 R1 h1 => ⟨fun d v es rv => ?_, fun p Hn R2 n np no ok => ?_⟩⟩
  · refine ⟨φ1, F1, env1, st1, R1, (PostS.bnd h1).mono fun sb φ2 F2 env2 st2 H2 p2 l2 R2 h2 => ⟨fun d2 v2 es2 rv2 => ?_, fun p Hn R3 n np no ok => ?_⟩⟩
    · exact ⟨v, v2, rfl, nx_post ((R2.setIn i (.inl ⟨d, es, Rp.mono l2.f rv⟩)).setIn j (.inl ⟨d2, es2, rv2⟩)) h2⟩
    · refine ⟨v, _, rfl, nx_post ((R3.setIn i (.inl ⟨d, es, Rp.mono l2.f rv⟩)).setIn j (.inr ⟨p, rfl, n, np, fun q t e1 e2 e3 => ?_, ok⟩)) h2⟩
      rcases env_set_some e1 with ⟨_, z, _⟩ | ⟨hq, z⟩
      · rw [z, es] at e2; cases e2
      · rw [List.getElem?_set_ne (Ne.symm hq)] at e3
        exact no q t z e2 e3
  · obtain ⟨u, eu, mu⟩ := ok.there
    have nR := R2.still (o := u) n np no
    have eH : upd Hn p u = Hn := by
      funext q
      by_cases hq : q = p
      · rw [hq, upd_same, eu]
      · rw [upd_ne hq]
    rw [eH] at nR
    unfold bnd at h1
    refine ⟨φ1, _, env1, st1, nR, ?_⟩
    cases eb : mb env1 st1 with
    | bad => rw [eb] at h1; exact h1.elim
    | exc c env2 st2 =>
      rw [eb] at h1
      exact fun φ2 F2 H2 C od p2 l2 R3 hc => h1 φ2 F2 σ H2 C od p2 ((le_upd n).trans l2) R3 hc
    | ok sb env2 st2 =>
      rw [eb] at h1
      intro φ2 F2 H2 p2 l2 R3
      have eF : F2 p = some u := l2 _ _ upd_same
      have fin : ∀ Hq, Rel X.K φ2 F2 env2 st2 σ Hq → Rel X.K φ2 (delF F2 p) env2 st2 σ Hq ∧ LeF F2 (delF F2 p) ∧ delF F2 p p = none ∧ p ∉ φ2 ∧ (∀ (j : Nat) t, env2[j]? = some t → t.isOwn = true → σ[j]? ≠ some (some (.ref p))) ∧ Le F1 (delF F2 p) ∧ OwnOk X.K (delF F2 p) Hq p sa := fun Hq R => by
        obtain ⟨R4, lf, n4, np4, no4⟩ := R.unstill eF mu
        have lF1 : Le F1 (delF F2 p) := fun q o e => by
          have nq : q ≠ p := fun z => by rw [z, n] at e; cases e
          show (if q = p then none else F2 q) = some o
          rw [if_neg nq]
          exact l2 _ _ (le_upd n _ _ e)
        exact ⟨R4, lf, n4, np4, no4, lF1, ok.grow lF1.f fun o e => by
          rw [eu] at e; cases e
          exact R.sub _ _ eF⟩
      refine ⟨fun d2 v2 es2 rv2 => ?_, fun q Hq R5 n5 np5 no5 ok5 => ?_⟩
      · obtain ⟨R4, lf, n4, np4, no4, lF1, ok4⟩ := fin H2 R3
        exact ⟨_, v2, rfl, h1 φ2 _ _ _ p2 lF1 ((R4.setIn i (.inr ⟨p, rfl, n4, np4, no4, ok4⟩)).setIn j (.inl ⟨d2, es2, Rp.mono lf rv2⟩))⟩
      · obtain ⟨R4, lf, n4, np4, no4, lF1, ok4⟩ := fin Hq R5
        have nqp : q ≠ p := fun z => by rw [z, eF] at n5; cases n5
        refine ⟨_, _, rfl, h1 φ2 _ _ _ p2 lF1 ((R4.setIn i (.inr ⟨p, rfl, n4, np4, no4, ok4⟩)).setIn j (.inr ⟨q, rfl, ?_, np5, fun k t e1 e2 e3 => ?_, ok5.grow lf fun _ h => h⟩))⟩
        · unfold delF; rw [if_neg nqp]; exact n5
        · by_cases hk : k = i
          · subst hk
            rw [List.getElem?_set] at e3
            simp only [↓reduceIte] at e3
            split at e3
            · cases e3; exact nqp rfl
            · cases e3
          · rw [List.getElem?_set_ne (Ne.symm hk)] at e3
            rw [List.getElem?_set_ne (Ne.symm hk)] at e1
            exact no5 k t e1 e2 e3
end
end TL

namespace TL
open PySem PySem.Spec L2
open PyProof.Rows hiding St

/-! ### enumerate over a tuple -/
set_option maxHeartbeats 1000000 in
theorem new_enum1 {v : Value} {o : Obj} {Hv : Heap → Prop} (B : Begins v o Hv) :
    Meets (Builtin.«enumerate.__new__» ⟨[.type "enumerate", v], []⟩) (fun _ R s => Hv s.heap ∧ R (.ok (.ret (.ref (s.heap.push o).objs.size))) { s with heap := (s.heap.push o).push { cls := .type "enumerate", data := .fields #[.none, .bool false, .ref s.heap.objs.size, rawInt 0, .none, .none] } }) :=
  .of_wp fun prog w A R s h => by
    obtain ⟨hp, g, d, tk, os⟩ := s
    obtain ⟨h1, h2⟩ := h
    have hsub := sub_enumerate
    have q1 : ∀ {A' : Around} {E : Value → Shared → Prop} {Q : Value → Shared → Prop}, Q (.ref hp.objs.size) ⟨hp.push o, g, d, tk, os⟩ → wpAny (model prog w) A' (pyIter v) Q E ⟨hp, g, d, tk, os⟩ := fun q => B.iter prog w _ _ ⟨hp, g, d, tk, os⟩ _ h1 q
    wp_walk using q1
    refine wpAny_stack_any fun st => wpAny_pure ?_
    split
    · rename_i c _ _ _ _ _
      rcases (c == Value.type "enumerate") with _ | _ <;> (wp_walk using q1; exact ⟨_, rfl, h2⟩)
    · wp_walk using q1; exact ⟨_, rfl, h2⟩
theorem call_enum1 {prog : Program} {w : World} {A : Around} {E : Value → Shared → Prop} {s : Shared} {v : Value} {o : Obj} {Hv : Heap → Prop} {Q : Value → Shared → Prop} (B : Begins v o Hv) (h1 : Hv s.heap)
    (h : ∀ h', IsEnum h' (s.heap.objs.size + 1) s.heap.objs.size 0 .none → h'.get? s.heap.objs.size = some o → (∀ b o, s.heap.get? b = some o → h'.get? b = some o) → Q (.ref (s.heap.objs.size + 1)) { s with heap := h' }) :
    wpAny (model prog w) A (call (.type "enumerate") [v]) Q E s := by
  refine callType_new F.called_enumerate (by decide) (F.typeCall_enumerate_1 _) (F.newCall_enumerate_1 _) (fun obj => F.args_object_init_2 obj _) F.entry_enumerate_new (new_enum1 B) ⟨h1, ?_⟩
  have hz : (s.heap.push o).objs.size = s.heap.objs.size + 1 := Heap.size_push ..
  show _ ∧ _
  rw [hz]
  have he : IsEnum ((s.heap.push o).push { cls := .type "enumerate", data := .fields #[.none, .bool false, .ref s.heap.objs.size, rawInt 0, .none, .none] }) (s.heap.objs.size + 1) s.heap.objs.size 0 .none := by
    have z := Heap.get?_push_size (s.heap.push o) (o := { cls := .type "enumerate", data := .fields #[.none, .bool false, .ref s.heap.objs.size, rawInt 0, .none, .none] }) rfl
    rw [hz] at z; exact z
  exact ⟨⟨_, he, rfl⟩, h _ he (Heap.get?_push_of_some _ (Heap.get?_push_size _ B.free)) fun b o x => Heap.get?_push_of_some _ (Heap.get?_push_of_some _ x)⟩
def IteT (K : PySem.W.Frag) (a : Addr) : It :=
  ⟨fun i H => ∃ (xs : List V) (x : V), SqT K H a xs ∧ xs[i]? = some x, fun i H v H' => ∃ T x, v = .ref T ∧ H T = none ∧ H' = upd H T (.tup [.int (i : Nat), x]) ∧ ∀ xs, SqT K H a xs → xs[i]? = some x, fun i H => ∃ xs : List V, SqT K H a xs ∧ xs.length = i⟩
theorem turn_enT {P : Program} {w : World} {K : PySem.W.Frag} {elts : List Expr} {kk : Nat} {tpos : Pos} (a e it : Addr) :
    Turn P w K (.Tuple elts kk tpos) (IteT K a) [e, it] e (fun i h => (∃ old, IsEnum h e it ((i : Nat) : Int) old) ∧ h.IsTupleIter it a i ∧ e ≠ it ∧ a ≠ it ∧ a ≠ e) where
  mem := by simp
  obj := fun i h st b hb => by
    obtain ⟨⟨old, he⟩, ⟨o, ho, hc, hd⟩, _⟩ := st
    rcases List.mem_cons.mp hb with z | z
    · rw [z]; exact ⟨_, he, fun v q => nomatch q⟩
    · rw [List.mem_singleton.mp z]; exact ⟨o, ho, fun v q => by rw [hd] at q; cases q⟩
  keep := fun i h h' st k => let ⟨⟨old, he⟩, hi, hne⟩ := st; ⟨⟨old, k e (by simp) _ he⟩, hi.at fun o q => k it (by simp) o q, hne⟩
  item := by
    intro X hP hw hK hc i pins s σ H E I hf st hg
    subst hP hw hK
    obtain ⟨⟨old, he⟩, hit, hne, hai, hae⟩ := st
    obtain ⟨xs, x, hq, hx⟩ := hg
    obtain ⟨its, rv, p, hz⟩ := I.tuple hq
    obtain ⟨u, hu, ru⟩ := rv.get hx
    have hel : e < s.heap.objs.size := Heap.lt_size he
    have hil : it < s.heap.objs.size := by obtain ⟨_, q, _⟩ := hit; exact Heap.lt_size q
    have D : Draws X.prog X.w X.A.in1 it [it, a] its.toArray.size (fun i v => its.toArray[i]? = some v) (fun i h => h.IsTupleIter it a i ∧ h.IsTuple a its.toArray) := .tuple (A := X.A.in1) (show X.A.in1.handled = none from I.ok.hd hc) it a hai its.toArray
    have hlt : i < its.toArray.size := by
      have := (List.getElem?_eq_some_iff.mp hu).1
      simpa using this
    refine wpAny_pyNext_enum_itemD D he ⟨hit, p⟩ hlt hne (by simp [hne, hae.symm]) fun x' h' tk hP ho hit' hT hsz hk => ?_
    have ex : x' = u := by
      have hu' : its.toArray[i]? = some u := by simpa using hu
      rw [hP] at hu'; exact Option.some.inj hu'
    subst ex
    refine ⟨_, rfl, wpAny_letOwnedTupleGo_enum (s := { s with heap := h', toks := tk + 1 }) ho fun h'' he' sb => ?_⟩
    have hT2 : h''.get? s.heap.objs.size = some { cls := .type "tuple", data := .seq #[.int i tk, x'] } := (sb.2 _ (Nat.ne_of_gt hel)).trans hT
    have new : ObjOk X.prog X.w (upd H s.heap.objs.size (.tup [.int (i : Nat), x])) h'' s.heap.objs.size (.tup [.int (i : Nat), x]) := ⟨by show 2 ≤ sizeLine; decide, [.int i tk, x'], .cons ⟨_, rfl⟩ (.cons ru .nil), ⟨_, hT2, rfl, _, rfl⟩⟩
    have I1 : Inv X pins σ (upd H s.heap.objs.size (.tup [.int (i : Nat), x])) { s with heap := h'', toks := tk + 1 } :=
      I.turnedNew (ch := [e, it]) (fun b ob hb q => (sb.2 b fun z => hb (by simp [z])).trans (hk b ob (fun z => hb (by simp [z])) (fun z => hb (by simp [z])) q)) hf (Nat.le_refl _) new
    refine ⟨.ref s.heap.objs.size, _, I1, rfl, ⟨_, x, rfl, I.hok.fresh (Nat.le_refl _), rfl, fun ys hy => by rw [I.tuple_inj hy hq]; exact hx⟩, ⟨⟨x', ?_⟩, hit'.1.at fun o q => (sb.2 it (Ne.symm hne)).trans q, hne, hai, hae⟩, fun b hb => ?_⟩
    · rw [show ((i + 1 : Nat) : Int) = (i : Int) + 1 by omega]; exact he'
    · have hb' : b < s.heap.objs.size := by
        rcases List.mem_cons.mp hb with z | z
        · rw [z]; exact hel
        · rw [List.mem_singleton.mp z]; exact hil
      rw [upd_ne (Nat.ne_of_lt hb')]
      exact (hf b hb).1
  done := by
    intro X hP hw hK hc i pins s σ H E I hf st hg
    subst hP hw hK
    obtain ⟨⟨old, he⟩, hit, hne, hai, hae⟩ := st
    obtain ⟨xs, hq, hx⟩ := hg
    obtain ⟨its, rv, p, hz⟩ := I.tuple hq
    obtain ⟨f0, f1, f2, f3, f4, f5⟩ := hf it (by simp)
    have D : Draws X.prog X.w X.A.in1 it [it, a] its.toArray.size (fun i v => its.toArray[i]? = some v) (fun i h => h.IsTupleIter it a i ∧ h.IsTuple a its.toArray) := .tuple (A := X.A.in1) (show X.A.in1.handled = none from I.ok.hd hc) it a hai its.toArray
    have hn : i = its.toArray.size := by
      have := rv.length
      simp only [List.size_toArray]; omega
    rw [hn] at hit
    exact wpAny_pyNext_enum_endD D he ⟨hit, p⟩ fun h' eb => ⟨rfl, I.turned (t' := s.toks) (fun b o hb q => eb b o hb q) f0 f1 f3 f4 f5⟩
  self := fun A i s Q E st h => let ⟨⟨_, he⟩, _⟩ := st; wpAny_pyIter_enum he h
def iEnT (K : PySem.W.Frag) (ta : TA) : TI := fun σ H R => ta σ H fun vs H1 => ∃ a xs, vs = [.ref a] ∧ SqT K H1 a xs ∧ R (IteT K a) H1
theorem pi_enT {X : Cx} {e : Expr} {ta : TA} {p pos tpos : Pos} {elts : List Expr} {kk : Nat} (hg : Gl X "enumerate") (hm : X.mg "enumerate" = none) (ha : PA X [e] ta) (hs : starEach [e] X.env = [(false, eval e X.env)] := by rfl) :
    PI X (.Tuple elts kk tpos) (.Call (.Name "enumerate" p) [e] [] pos) (iEnT X.K ta) := by
  refine ⟨fun pins s σ H R I h => Call_ (ld_blt I hg hm boot_enumerate (PyProof.Rows.callWith_type1 (thn (ha.run pos pins s σ H _ I h) fun us s1 ⟨vs, H1, I1, r1, a, xs, ex, hq, q⟩ => ?_) hs rfl))⟩
  subst ex
  cases r1 with
  | cons r rr =>
    cases rr
    cases r
    obtain ⟨its, rv, p', hz⟩ := I1.tuple hq
    have hal : a < s1.heap.objs.size := by obtain ⟨_, q, _⟩ := p'; exact Heap.lt_size q
    refine call_enum1 (begins_tuple a its.toArray) p' fun h' he hit hk => wpAny_pyIter_enum he ?_
    have I2 : Inv X pins σ H1 { s1 with heap := h' } := I1.kept (t' := s1.toks) hk
    refine ⟨s1.heap.objs.size + 1, [s1.heap.objs.size + 1, s1.heap.objs.size], _, _, H1, rfl, I2, turn_enT a (s1.heap.objs.size + 1) s1.heap.objs.size, ⟨⟨.none, he⟩, ⟨_, hit, rfl, rfl⟩, Nat.succ_ne_self _, Nat.ne_of_lt hal, Nat.ne_of_lt (Nat.lt_succ_of_lt hal)⟩, fun b hb => ?_, q⟩
    have hle : s1.heap.objs.size ≤ b := by
      rcases List.mem_cons.mp hb with z | z
      · rw [z]; exact Nat.le_add_right _ _
      · rw [List.mem_singleton.mp z]; exact Nat.le_refl _
    exact I1.fpOk hle (I1.hok.fresh hle)
/-! the two by data -/
def dSeq : PD → Option (Bool × List PD)
  | .list ds => some (false, ds)
  | .tuple ds => some (true, ds)
  | _ => none
def enumD : Nat → List PD → List PD
  | _, [] => []
  | i, d :: ds => .tuple [.int (i : Nat), d] :: enumD (i + 1) ds
theorem enumD_length : ∀ (ds : List PD) (i : Nat), (enumD i ds).length = ds.length
  | [], _ => rfl
  | d :: ds, i => by simp [enumD, enumD_length ds]
theorem enumD_get : ∀ (ds : List PD) (i j : Nat) (c : PD), (enumD i ds)[j]? = some c → ∃ d, ds[j]? = some d ∧ c = .tuple [.int ((i + j : Nat) : Int), d]
  | [], _, _, _, h => by simp [enumD] at h
  | d :: ds, i, 0, c, h => by simp [enumD] at h; exact ⟨d, rfl, h.symm⟩
  | d :: ds, i, j + 1, c, h => by
    obtain ⟨e, h1, h2⟩ := enumD_get ds (i + 1) j c (by simpa [enumD] using h)
    exact ⟨e, by simpa using h1, by rw [h2]; congr 3; omega⟩
def zipD : List PD → List PD → List PD
  | d :: ds, e :: es => .tuple [d, e] :: zipD ds es
  | _, _ => []
theorem zipD_length : ∀ (ds es : List PD), (zipD ds es).length = min ds.length es.length
  | [], _ => by simp [zipD]
  | d :: ds, [] => by simp [zipD]
  | d :: ds, e :: es => by simp only [zipD, List.length_cons, zipD_length ds es]; omega
theorem zipD_get : ∀ (ds es : List PD) (j : Nat) (c : PD), (zipD ds es)[j]? = some c → ∃ d e, ds[j]? = some d ∧ es[j]? = some e ∧ c = .tuple [d, e]
  | [], _, _, _, h => by simp [zipD] at h
  | d :: ds, [], _, _, h => by simp [zipD] at h
  | d :: ds, e :: es, 0, c, h => by simp [zipD] at h; exact ⟨d, e, rfl, rfl, h.symm⟩
  | d :: ds, e :: es, j + 1, c, h => by
    obtain ⟨a, b, h1, h2, h3⟩ := zipD_get ds es j c (by simpa [zipD] using h)
    exact ⟨a, b, by simpa using h1, by simpa using h2, h3⟩
section
variable {K : PySem.W.Frag} {F : Hp}
theorem yld_pair {F' H' : Hp} {d e : PD} {x y : V} {T : Addr} (l' : Le F' H') (n : H' T = none) (rx : Rp K F' d x) (ry : Rp K F' e y) : Grow F' H' (upd F' T (.tup [x, y])) (upd H' T (.tup [x, y])) ∧ Rp K (upd F' T (.tup [x, y])) (.tuple [d, e]) (.ref T) := by
  have g : Grow F' H' (upd F' T (.tup [x, y])) (upd H' T (.tup [x, y])) := Grow.still l' n
  exact ⟨g, .tup (.inl (.inl upd_same)) (.cons (Rp.mono g.f.f rx) (.cons (Rp.mono g.f.f ry) .nil))⟩
theorem yld_enL {a : Addr} {xs : List V} {ds : List PD} (h : FzL K F a xs) (r : Rps K F ds xs) : Yld K (Ite K a) (enumD 0 ds) F := fun i F' H' l l' => by
  have hs : SqL K H' a xs := sqL_mono h.sq (l.trans l')
  refine ⟨fun d e => ?_, fun e => ⟨xs, hs, by rw [r.length, ← enumD_length ds 0]; omega⟩⟩
  obtain ⟨d, e0, rfl⟩ := enumD_get ds 0 i d e
  obtain ⟨v, e1, rv⟩ := r.get e0
  refine ⟨⟨xs, v, hs, e1⟩, fun x H'' hy => ?_⟩
  obtain ⟨T, y, rfl, n, rfl, f⟩ := hy
  have ex : v = y := Option.some.inj (e1.symm.trans (f xs hs))
  subst ex
  rw [Nat.zero_add]
  exact ⟨_, yld_pair l' n (.int (i : Int)) (Rp.mono l.f rv)⟩
theorem yld_enT {a : Addr} {xs : List V} {ds : List PD} (h : SqT K F a xs) (r : Rps K F ds xs) : Yld K (IteT K a) (enumD 0 ds) F := fun i F' H' l l' => by
  have hs : SqT K H' a xs := sqT_mono h (l.trans l').f
  refine ⟨fun d e => ?_, fun e => ⟨xs, hs, by rw [r.length, ← enumD_length ds 0]; omega⟩⟩
  obtain ⟨d, e0, rfl⟩ := enumD_get ds 0 i d e
  obtain ⟨v, e1, rv⟩ := r.get e0
  refine ⟨⟨xs, v, hs, e1⟩, fun x H'' hy => ?_⟩
  obtain ⟨T, y, rfl, n, rfl, f⟩ := hy
  have ex : v = y := Option.some.inj (e1.symm.trans (f xs hs))
  subst ex
  rw [Nat.zero_add]
  exact ⟨_, yld_pair l' n (.int (i : Int)) (Rp.mono l.f rv)⟩
theorem yld_zipL {a b : Addr} {xs ys : List V} {ds es : List PD} (h : FzL K F a xs) (r : Rps K F ds xs) (h2 : FzL K F b ys) (r2 : Rps K F es ys) : Yld K (Itz K a b) (zipD ds es) F := fun i F' H' l l' => by
  have hs : SqL K H' a xs := sqL_mono h.sq (l.trans l')
  have hs2 : SqL K H' b ys := sqL_mono h2.sq (l.trans l')
  refine ⟨fun d e => ?_, fun e => ⟨xs, ys, hs, hs2, by rw [r.length, r2.length, e, zipD_length]; omega⟩⟩
  obtain ⟨d, d2, e0, e02, rfl⟩ := zipD_get ds es i d e
  obtain ⟨v, e1, rv⟩ := r.get e0
  obtain ⟨v2, e12, rv2⟩ := r2.get e02
  refine ⟨⟨xs, ys, v, v2, hs, hs2, e1, e12⟩, fun x H'' hy => ?_⟩
  obtain ⟨T, y, y2, rfl, n, rfl, f, f2⟩ := hy
  have ex : v = y := Option.some.inj (e1.symm.trans (f xs hs))
  have ex2 : v2 = y2 := Option.some.inj (e12.symm.trans (f2 ys hs2))
  subst ex ex2
  exact ⟨_, yld_pair l' n (Rp.mono l.f rv) (Rp.mono l.f rv2)⟩
theorem yld_zipT {a b : Addr} {xs ys : List V} {ds es : List PD} (h : SqT K F a xs) (r : Rps K F ds xs) (h2 : SqT K F b ys) (r2 : Rps K F es ys) : Yld K (RZ.ItzT K a b) (zipD ds es) F := fun i F' H' l l' => by
  have hs : SqT K H' a xs := sqT_mono h (l.trans l').f
  have hs2 : SqT K H' b ys := sqT_mono h2 (l.trans l').f
  refine ⟨fun d e => ?_, fun e => ⟨xs, ys, hs, hs2, by rw [r.length, r2.length, e, zipD_length]; omega⟩⟩
  obtain ⟨d, d2, e0, e02, rfl⟩ := zipD_get ds es i d e
  obtain ⟨v, e1, rv⟩ := r.get e0
  obtain ⟨v2, e12, rv2⟩ := r2.get e02
  refine ⟨⟨xs, ys, v, v2, hs, hs2, e1, e12⟩, fun x H'' hy => ?_⟩
  obtain ⟨T, y, y2, rfl, n, rfl, f, f2⟩ := hy
  have ex : v = y := Option.some.inj (e1.symm.trans (f xs hs))
  have ex2 : v2 = y2 := Option.some.inj (e12.symm.trans (f2 ys hs2))
  subst ex ex2
  exact ⟨_, yld_pair l' n (Rp.mono l.f rv) (Rp.mono l.f rv2)⟩
end
def mEnum (m : M PD) : M (List PD) := bnd m fun d => opt ((dSeq d).map fun p => enumD 0 p.2)
def zipO (a b : PD) : Option (List PD) := match a, b with
  | .list ds, .list es => some (zipD ds es)
  | .tuple ds, .tuple es => some (zipD ds es)
  | _, _ => none
def mZip (ma mb : M PD) : M (List PD) := bnd ma fun a => bnd mb fun b => opt (zipO a b)
section
variable {X : Cx} {W : WX} {e e2 : Expr} {p pos tpos : Pos} {elts : List Expr} {kk : Nat} {m m2 : M PD}
theorem ji_enum (hg : Gl X "enumerate") (hm : X.mg "enumerate" = none) (he : JE X W e m) (hs : starEach [e] X.env = [(false, eval e X.env)] := by rfl) : JI X W (.Tuple elts kk tpos) (.Call (.Name "enumerate" p) [e] [] pos) (mEnum m) := ⟨fun pins s σ H R I hq => by
  obtain ⟨φ, F, env, st, Rr, h⟩ := hq
  have h := Post.bnd h
  have ha := pa_cons he (pa_nil (X := X)) hs
  cases em : m env st with
  | bad => rw [em] at h; exact h.elim
  | exc c env1 st1 =>
    refine (pi_enum hg hm ha hs).run pins s σ H R I ⟨φ, F, env, st, Rr, ?_⟩
    rw [em] at h ⊢
    exact h
  | ok d env1 st1 =>
    rw [em] at h
    cases d with
    | tuple ds =>
      refine (pi_enT hg hm ha hs).run pins s σ H R I ⟨φ, F, env, st, Rr, ?_⟩
      rw [em]
      intro φ1 F1 H1 p1 l1 R1 v r
      have h1 := h φ1 F1 H1 p1 l1 R1
      cases r with
      | tup hf rs => exact ⟨_, _, rfl, sqT_mono hf R1.sub.f, ret_post R1 h1 _ (yld_enT hf rs)⟩
    | list ds =>
      refine (pi_enum hg hm ha hs).run pins s σ H R I ⟨φ, F, env, st, Rr, ?_⟩
      rw [em]
      intro φ1 F1 H1 p1 l1 R1 v r
      have h1 := h φ1 F1 H1 p1 l1 R1
      cases r with
      | lst hf rs => exact ⟨_, _, rfl, sqL_mono hf.sq R1.sub, ret_post R1 h1 _ (yld_enL hf rs)⟩
    | _ =>
      refine (pi_enum hg hm ha hs).run pins s σ H R I ⟨φ, F, env, st, Rr, ?_⟩
      rw [em]
      intro φ1 F1 H1 p1 l1 R1 v r
      exact (h φ1 F1 H1 p1 l1 R1).elim⟩
theorem ji_zip (hg : Gl X "zip") (hm : X.mg "zip" = none) (ha : JE X W e m) (hb : JE X W e2 m2) (hs : starEach [e, e2] X.env = (false, eval e X.env) :: starEach [e2] X.env := by rfl) (hs2 : starEach [e2] X.env = (false, eval e2 X.env) :: starEach [] X.env := by rfl) (hpl : (backTo pos (starEach [e2] X.env)).any (·.1) = false := by rfl) :
    JI X W (.Tuple elts kk tpos) (.Call (.Name "zip" p) [e, e2] [] pos) (mZip m m2) :=
  TL.PI.imp (RZ.pi_zipA hg hm (pa_cons ha (pa_cons hb (pa_nil (X := X)) hs2) hs) hs hpl) fun σ H R ⟨φ, F, env, st, Rr, h⟩ => post2 Rr h fun a b x y φ2 F2 env2 st2 H2 R2 rx ry h2 => by
    obtain ⟨c, e, q⟩ := opt_post h2
    have q' := q φ2 F2 H2 (List.prefix_refl _) (Le.refl _) R2
    cases rx with
    | lst hf rs =>
      cases ry with
      | lst hf2 rs2 => cases e; exact ⟨_, _, _, _, rfl, .inl ⟨sqL_mono hf.sq R2.sub, sqL_mono hf2.sq R2.sub, q' _ (yld_zipL hf rs hf2 rs2)⟩⟩
      | _ => cases e
    | tup hf rs =>
      cases ry with
      | tup hf2 rs2 => cases e; exact ⟨_, _, _, _, rfl, .inr ⟨sqT_mono hf R2.sub.f, sqT_mono hf2 R2.sub.f, q' _ (yld_zipT hf rs hf2 rs2)⟩⟩
      | _ => cases e
    | _ => cases e
end
end TL

namespace TL
open PySem PySem.Spec L2
open PyProof.Rows hiding St

/-! ### t[::-1] of a tuple -/
theorem adj_rev (n : Nat) : Builtin.Slice.sliceAdjust none none (-1) (n : Int) = ((n : Int) - 1, -1) := rfl
theorem places_rev (n : Nat) : Builtin.Slice.slicePlaces ((n : Int) - 1) (-1) (-1) = n := by
  unfold Builtin.Slice.slicePlaces
  rw [if_neg (by decide)]
  split
  · have : ((n : Int) - 1 - -1 - 1) / (- -1) + 1 = n := by
      have : (- -1 : Int) = 1 := by decide
      rw [this, Int.ediv_one]; omega
    rw [this]; rfl
  · have : n = 0 := by omega
    subst this; rfl
theorem fm_congr {α β : Type} {f g : α → Option β} : ∀ {l : List α}, (∀ x, x ∈ l → f x = g x) → l.filterMap f = l.filterMap g
  | [], _ => rfl
  | x :: l, h => by
    have ih := fm_congr (l := l) fun y hy => h y (List.mem_cons_of_mem _ hy)
    rw [List.filterMap_cons, List.filterMap_cons, h x (List.mem_cons_self ..), ih]
theorem pick_rev (xs : Array Value) : ((List.range xs.size).filterMap fun (m : Nat) => xs[(((xs.size : Nat) : Int) - 1 + (m : Int) * (-1)).toNat]?) = xs.toList.reverse := by
  have e : ∀ m, m ∈ List.range xs.size → (xs[(((xs.size : Nat) : Int) - 1 + (m : Int) * (-1)).toNat]?) = (some (xs.toList.reverse.getD m .none)) := fun m hm => by
    rw [List.mem_range] at hm
    have h1 : (((xs.size : Nat) : Int) - 1 + (m : Int) * (-1)).toNat = xs.size - 1 - m := by omega
    have hl : m < xs.toList.reverse.length := by simpa using hm
    have hl2 : xs.size - 1 - m < xs.toList.length := by simp; omega
    rw [h1, List.getD_eq_getElem?_getD, List.getElem?_eq_getElem hl, Option.getD_some, List.getElem_reverse, ← Array.getElem?_toList, List.getElem?_eq_getElem hl2]
    simp
  rw [fm_congr e]
  have e2 : (List.range xs.size).filterMap (fun m => some (xs.toList.reverse.getD m .none)) = (List.range xs.size).map fun m => xs.toList.reverse.getD m .none := congrFun List.filterMap_eq_map' _
  rw [e2]
  apply List.ext_getElem
  · simp
  · intro i h1 h2
    rw [List.getElem_map, List.getElem_range, List.getD_eq_getElem?_getD, List.getElem?_eq_getElem h2]
    rfl
section
variable {prog : Program} {w : World} {A : Around} {E : Value → Shared → Prop} {s : Shared}
theorem item_tuple_rev {t sl : Addr} {items : Array Value} {tk : Tok} {Q : Value → Shared → Prop} (ht : IsTup s.heap t items) (hs : s.heap.IsSliceOf sl .none .none (.int (-1) tk))
    (h : Q (.ref s.heap.objs.size) { s with heap := s.heap.push { cls := .type "tuple", data := .seq items.toList.reverse.toArray } }) (hsz : items.size ≤ sizeLine) : wpAny (model prog w) A (getItem (.ref t) (.ref sl)) Q E s := by
  have hz : sizeOk (.seq items.toList.reverse.toArray) := by
    show items.toList.reverse.toArray.size ≤ sizeLine
    simpa using hsz
  obtain ⟨os, hos, hcs, hds⟩ := id hs
  have hTs : s.TypeIs (.ref sl) "slice" := ⟨os, hos, hcs⟩
  unfold getItem
  try with_reducible refine wpAny_holding ?_
  first | refine wpAny_bind (wpAny_pure ?_) | skip
  refine wpAny_bind (wpAny_sequenceKey ht.typeIs (by decide) ?_)
  refine wpAny_bind (wpAny_callSpecial?_slot (name := Str.ofString "__getitem__") ht.typeIs PyProof.Rows.slot_tuple_getitem (wpAny_call_entry PyProof.Rows.slot_tuple_getitem ht.typeIs entry_tuple_getitem ?_ (args_tuple_getitem _ _)))
  show wpAny _ _ (Builtin.Tuple.tupleItemsOf (.ref t) >>= _) _ _ s
  refine wpAny_bind (tupleItemsOf_ ht ?_)
  refine wpAny_bind (wpAny_typeOf hTs ?_)
  rw [if_pos (by decide)]
  refine wpAny_bind ?_
  unfold Builtin.Slice.sliceApplied Builtin.Slice.sliceFields
  refine wpAny_bind (wpAny_bind (wpAny_field hos hds (x := .none) rfl (wpAny_bind (wpAny_field hos hds (x := .none) rfl (wpAny_bind (wpAny_field hos hds (x := .int (-1) tk) rfl (wpAny_pure ?_)))))))
  refine wpAny_bind (HT.slicePart_ (.int (-1) tk) ?_)
  show wpAny _ _ (if ((-1 : Int) == 0) = true then _ else _) _ _ s
  rw [if_neg (by decide)]
  refine wpAny_bind (HT.slicePart_ .none (wpAny_bind (HT.slicePart_ .none (wpAny_bind (wpAny_pure ?_)))))
  show wpAny _ _ (match Builtin.Slice.sliceAdjust none none (-1) ((items.size : Nat) : Int) with | (lo, hi) => pure (lo, (-1 : Int), Builtin.Slice.slicePlaces lo hi (-1))) _ _ s
  rw [adj_rev]
  show wpAny _ _ (pure (((items.size : Nat) : Int) - 1, (-1 : Int), Builtin.Slice.slicePlaces (((items.size : Nat) : Int) - 1) (-1) (-1))) _ _ s
  rw [places_rev]
  refine wpAny_pure ?_
  have hno : ¬ (((((items.size : Nat) : Int) - 1) == 0 && (-1 : Int) == 1 && items.size == items.size) = true) := by
    intro q
    rw [Bool.and_eq_true, Bool.and_eq_true] at q
    exact absurd q.1.2 (by decide)
  show wpAny _ _ (if ((((items.size : Nat) : Int) - 1) == 0 && (-1 : Int) == 1 && items.size == items.size) = true then _ else _) _ _ s
  rw [if_neg hno, pick_rev]
  first
    | exact wpAny_bind (m := Builtin.Tuple.tupleExact _) (wpAny_newObj_type (wpAny_pure ⟨_, rfl, wpAny_pure h⟩) hz)
    | exact wpAny_bind (m := Builtin.Tuple.tupleExact _) (wpAny_newObj_type (wpAny_bind (wpAny_pure (wpAny_pure ⟨_, rfl, wpAny_pure h⟩))) hz)
    | exact wpAny_bind (wpAny_bind (m := Builtin.Tuple.tupleExact _) (wpAny_newObj_type (wpAny_pure (wpAny_pure ⟨_, rfl, wpAny_pure h⟩)) hz))
    | exact wpAny_bind (wpAny_bind (m := Builtin.Tuple.tupleExact _) (wpAny_newObj_type (wpAny_pure ⟨_, rfl, wpAny_pure h⟩) hz))
end
section
variable {X : Cx} {W : WX} {e : Expr} {m : M PD} {pos : Pos}
/-- reversed by a slice: lists and tuples -/
def tRevA (K : PySem.W.Frag) (te : TE) : TE := fun σ H Q => te σ H fun x H1 => ∃ a xs, x = .ref a ∧ ((SqL K H1 a xs ∧ ∀ p, H1 p = none → Q (.ref p) (upd H1 p (.lst xs.reverse))) ∨ (SqT K H1 a xs ∧ ∀ p, H1 p = none → Q (.ref p) (upd H1 p (.tup xs.reverse))))
theorem pe_revA {te : TE} {k : Nat} {p1 p2 p3 : Pos} (he : PE X e te) : PE X (.Subscript e (.Slice none none (some (.UnaryOp .USub (.Constant (.int 1) k p1) p2)) p3) pos) (tRevA X.K te) := by
  refine ⟨fun pins s σ H Q I h => Subscript_ (thn (he.run pins s σ H _ I h) fun v s1 ⟨x, H1, I1, r1, a, xs, ex, q⟩ => ?_)⟩
  subst ex
  cases r1
  have hst : PO X (some (.UnaryOp .USub (.Constant (.int 1) k p1) p2)) (tPart (tUn (rU fun i => .int (-i)) (tC (.int 1)))) := po_some (pe_un un_neg pe_int)
  refine wpAny_Slice (thn (po_none.run pins s1 σ H1 (fun o H2 => o = none ∧ H2 = H1) I1 ⟨rfl, rfl⟩) fun vl s2 ⟨l, H2, I2, pl, el, e2⟩ => ?_)
  subst el e2
  refine thn (po_none.run pins s2 σ H2 (fun o H3 => o = none ∧ H3 = H2) I2 ⟨rfl, rfl⟩) fun vu s3 ⟨u, H3, I3, pu, eu, e3⟩ => ?_
  subst eu e3
  refine thn (hst.run pins s3 σ H3 (fun o H4 => o = some (-1) ∧ H4 = H3) I3 ⟨1, rfl, -1, rfl, rfl, rfl⟩) fun vs s4 ⟨o, H4, I4, ps, eo, e4⟩ => ?_
  subst eo e4
  have I5 : Inv X pins σ H4 { s4 with heap := s4.heap.push { cls := .type "slice", data := .fields #[vl, vu, vs] } } := I4.kept (t' := s4.toks) fun b ob q => Heap.get?_push_of_some _ q
  show wpAny (model X.prog X.w) X.A (subscriptTail e (.Slice none none (some (.UnaryOp .USub (.Constant (.int 1) k p1) p2)) p3) (.ref a) (.ref s4.heap.objs.size)) (EP X pins σ Q) X.xe { s4 with heap := s4.heap.push { cls := .type "slice", data := .fields #[vl, vu, vs] } }
  rcases q with ⟨hx, q⟩ | ⟨hx, q⟩
  · obtain ⟨its, r, ht, hz⟩ := I5.list hx
    refine tail_any (ops := [.ref a, .ref s4.heap.objs.size]) ht.isList.typeIs (PySem.slot_list_getitem.lookup) ?_ (by with_unfolding_all rfl)
    refine wpAny_getItem_list_slice ht.isList (Heap.IsSliceOf.new _ vl vu vs) pl pu ps (by decide) ?_ (by rw [List.size_toArray, ← r.length]; exact hz)
    rw [PySem.W.krv_pick]
    exact ⟨.ref _, _, I5.laid (t' := s4.toks) (o := .lst xs.reverse) (fun b ob q => Heap.get?_push_of_some _ q) (Nat.le_refl _) ⟨by rw [List.length_reverse]; exact hz, _, 0, r.reverse, Heap.get?_push_size _ rfl⟩, rfl, q _ (I5.hok.fresh (Nat.le_refl _))⟩
  · obtain ⟨its, r, ht, hz⟩ := I5.tuple hx
    refine tail_any (ops := [.ref a, .ref s4.heap.objs.size]) ht.typeIs PyProof.Rows.slot_tuple_getitem.lookup ?_ (by with_unfolding_all rfl)
    cases pl
    cases pu
    cases ps with
    | int _ tk =>
      refine item_tuple_rev ht (Heap.IsSliceOf.new _ .none .none (.int (-1) tk)) ?_ (by rw [List.size_toArray, ← r.length]; exact hz)
      exact ⟨.ref _, _, I5.laid (t' := s4.toks) (o := .tup xs.reverse) (fun b ob q => Heap.get?_push_of_some _ q) (Nat.le_refl _) ⟨by rw [List.length_reverse]; exact hz, _, r.reverse, IsTup.new _ _⟩, rfl, q _ (I5.hok.fresh (Nat.le_refl _))⟩
def revD : PD → Option PD
  | .list ds => some (.list ds.reverse)
  | .tuple ds => some (.tuple ds.reverse)
  | _ => none
def mRev (m : M PD) : M PD := bnd m fun d => opt (revD d)
theorem je_rev {k : Nat} {p1 p2 p3 : Pos} (h : JE X W e m) : JE X W (.Subscript e (.Slice none none (some (.UnaryOp .USub (.Constant (.int 1) k p1) p2)) p3) pos) (mRev m) :=
  PE.imp (PE.fz (pe_revA h)) fun σ H Q ⟨φ, F, env, st, R, h⟩ => ⟨φ, F, env, st, R, (Post.bnd h).mono fun d φ1 F1 env1 st1 H1 p l R1 h1 v r => by
    obtain ⟨c, e, q⟩ := opt_post h1
    cases r with
    | lst hf rs => cases e; exact ⟨_, _, rfl, .inl ⟨sqL_mono hf.sq R1.sub, fun p n => (EndD.of R1 q).lst R1.sub rs.reverse n⟩⟩
    | tup hf rs => cases e; exact ⟨_, _, rfl, .inr ⟨sqT_mono hf R1.sub.f, fun p n => .inl ((EndD.of R1 q).tup R1.sub rs.reverse n)⟩⟩
    | _ => cases e⟩
/-! ### a call's answer kept as it is -/
def mSetG (i : Nat) (g : M Ag) : M Flow := bnd g fun a env st => .ok .nx (env.set i (slot0 a)) st
theorem js_setG {g : M Ag} {i : Nat} {x : Str} {p : Pos} (he : JG X W e g) (hN : X.N.Nodup) (hi : X.N[i]? = some x) (hx : Loc X.env.scope x) (hs : swapsWith e (some (.Name x p)) pos.line X.env = pure false := by rfl) (hf : X.fn x = true ∨ X.env.scope.names.lookup x = some .local := by first | exact .inl rfl | exact .inr rfl | assumption) : JS X W (.Assign [.Name x p] e pos) (mSetG i g) := by
  refine PS.imp (ps_set hN hi hx he (hf := hf) (hs := hs)) fun D σ H ⟨φ, F, env, st, R, h⟩ => ⟨φ, F, env, st, R, (PostS.bnd h).mono fun a φ1 F1 env1 st1 H1 p1 l1 R1 h1 v r => ?_⟩
  refine nx_post (R1.setSlot (fun d e => ?_) (fun d e => ?_) (fun d e => ?_) fun e => ?_) h1
  · cases a <;> cases e; exact r
  · cases a <;> cases e; exact r
  · cases a <;> cases e; exact r
  · cases a <;> cases e
/-! ### return [..]: a new list of the store -/
theorem Rel.push {K : PySem.W.Frag} {φ : List Addr} {F H : Hp} {env : Env} {st : Sto} {σ : L2.St} {p : Addr} {ds : List PD} {xs : List V} (R : Rel K φ F env st σ H) (n : H p = none) (r : Rps K F ds xs) : Rel K (φ ++ [p]) F env (st ++ [.l ds]) σ (upd H p (.lst xs)) := by
  have R1 : Rel K φ F env st σ (upd H p (.lst xs)) := R.grow (Grow.loose n)
  refine ⟨R1.sub, R1.len, R1.val, R1.raw, fun i k e => ?_, fun i sl e hs => ?_, R1.inj, by simp [R1.slen], ?_, fun k q en e1 e2 => ?_⟩
  · obtain ⟨q, a, b⟩ := R1.mt i k e
    exact ⟨q, pre_get (List.prefix_append _ _) a, b⟩
  · obtain ⟨q, a, b, c, ok⟩ := R1.own i sl e hs
    refine ⟨q, a, b, fun hm => ?_, ok⟩
    rcases List.mem_append.mp hm with z | z
    · exact c z
    · rw [List.mem_singleton.mp z] at a
      exact R.none_own n i sl e hs a
  · rw [List.nodup_append]
    refine ⟨R1.nd, by simp, fun a ha b hb z => ?_⟩
    rw [List.mem_singleton.mp hb] at z
    subst z
    exact R.none_phi n ha
  · by_cases hk : k < φ.length
    · rw [List.getElem?_append_left hk] at e1
      rw [List.getElem?_append_left (by rw [← R.slen]; exact hk)] at e2
      exact R1.sto k q en e1 e2
    · have hk2 : k = φ.length := by
        have := (List.getElem?_eq_some_iff.mp e1).1
        simp at this; omega
      subst hk2
      rw [List.getElem?_append_right (Nat.le_refl _)] at e1
      rw [R.slen, List.getElem?_append_right (Nat.le_refl _)] at e2
      simp at e1 e2
      subst e1 e2
      exact ⟨R.none_f n, xs, upd_same, r⟩
def mRetL (ms : M (List PD)) : M Flow := bnd ms fun ds env st => if ds.length ≤ 1000000 then .ok (.rtm st.length) env (st ++ [.l ds]) else .bad
theorem js_retL {es : List Expr} {ms : M (List PD)} {p2 : Pos} (h : JDs X W es ms) : JS X W (.Return (some (.List es p2)) pos) (mRetL ms) := by
  refine PS.imp (ps_ret (pe_lst h)) fun D σ H ⟨φ, F, env, st, R, h⟩ => ⟨φ, F, env, st, R, (PostS.bnd h).mono fun ds φ1 F1 env1 st1 H1 p1 l1 R1 h1 vs r => ?_⟩
  by_cases hz : ds.length ≤ 1000000
  · rw [if_pos hz] at h1
    refine ⟨lim_le (by rw [r.length]; exact hz), fun p n => ?_⟩
    exact h1 (φ1 ++ [p]) F1 σ _ (List.prefix_append _ _) (Le.refl _) (R1.push n r) p (by rw [← R1.slen]; simp)
  · rw [if_neg hz] at h1; exact h1.elim
/-! ### the script's slice -/
def mScr (i : Nat) : M (List Int) := fun env st => match env[i]? with
  | some (.raw (.scr ns)) => .ok ns env st
  | _ => .bad
def mSlS (i : Nat) (ml mh : M (Option Int)) : M PD := bnd (mScr i) fun ns => bnd ml fun l => bnd mh fun h => opt (pySl (.list (ns.map PyData.int)) l h)
theorem je_slS {i : Nat} {x : Str} {px p2 : Pos} {lo hi : Option Expr} {ml mh : M (Option Int)} (hx : PE X (.Name x px) (tVar i)) (hl : JP X W lo ml) (hh : JP X W hi mh) : JE X W (.Subscript (.Name x px) (.Slice lo hi none p2) pos) (mSlS i ml mh) := by
  refine PE.imp (pe_slice (SlR.fz sl_list) hx hl hh) fun σ H Q ⟨φ, F, env, st, R, h⟩ => ?_
  have h := Post.bnd h
  unfold mScr at h
  cases e : env[i]? with
  | none => rw [e] at h; exact h.elim
  | some s =>
    rw [e] at h
    cases s with
    | raw t =>
      cases t with
      | scr ns =>
        obtain ⟨v, e1, a, rfl, hk⟩ := R.raw i _ e
        have hs : ∀ F' H', Le F F' → Le F' H' → SqL X.K H' a (ns.map V.int) := fun F' H' l l' => by
          rcases hk with ⟨o, hk⟩ | hk
          · exact .inl (.inr ⟨o, l' _ _ (l _ _ hk)⟩)
          · exact .inr hk
        have h := h φ F H (List.prefix_refl _) (Le.refl _) R
        refine ⟨_, e1, φ, F, env, st, R, (Post.bnd h).mono fun l φ1 F1 env1 st1 H1 p1 l1 R1 h1 => ⟨φ1, F1, env1, st1, R1, (Post.bnd h1).mono fun u φ2 F2 env2 st2 H2 p2 l2 R2 h2 => ?_⟩⟩
        obtain ⟨c, e, q⟩ := opt_post h2
        cases e
        exact ⟨a, _, rfl, hs F2 H2 (l1.trans l2) R2.sub, fun p n => (EndD.of R2 q).lst R2.sub (rps_cut (Rps.ints ns) l u) n⟩
      | fn w => exact h.elim
    | _ => exact h.elim
/-! ### i ** j -/
def pyPow : PD → PD → Option PD
  | .int i, .int j => if 0 ≤ j ∧ j ≤ 1000 ∧ i.natAbs < 2 ^ 64 then some (.int (i ^ j.toNat)) else none
  | _, _ => none
theorem op_powD : OpR X (binaryOp .Pow) (rD X.K pyPow) := by
  refine OpR.cases fun x y H Q hh => ?_
  obtain ⟨F, a, b, c, sub, ra, rb, e, q⟩ := hh
  cases ra <;> cases rb <;> simp only [pyPow, reduceCtorEq] at e
  case int.int i j =>
    obtain ⟨hz, rfl⟩ := if_some e
    exact ⟨_, op_pow, i, j, rfl, rfl, ⟨hz.1, by omega, hz.2.2⟩, q.imm (.int _)⟩
/-! ### is True, is False -/
def mIsB (b : Bool) (m : M PD) : M Bool := bnd m fun d => opt ((asB d).map fun a => decide (a = b))
theorem isB_post {σ : L2.St} {H : Hp} {α : Type} {b : Bool} {k : Bool → M α} {φ : List Addr} {F : Hp} {env : Env} {st : Sto} {Q : α → List Addr → Hp → Env → Sto → Hp → Prop} (R : Rel X.K φ F env st σ H) (h : Post X W σ φ F (bnd (mIsB b m) k env st) Q) :
    tE X W m σ H fun x H1 => ∃ a φ1 F1 env1 st1, x = .bl a ∧ Rel X.K φ1 F1 env1 st1 σ H1 ∧ Post X W σ φ1 F1 (k (decide (a = b)) env1 st1) Q := by
  refine ⟨φ, F, env, st, R, (Post.bnd (Post.bnd h)).mono fun d φ1 F1 env1 st1 H1 p1 l1 R1 h1 v r => ?_⟩
  obtain ⟨c, e, q⟩ := opt_post h1
  cases r with
  | bl a => cases e; exact ⟨a, φ1, F1, env1, st1, rfl, R1, q φ1 F1 H1 (List.prefix_refl _) (Le.refl _) R1⟩
  | _ => cases e
theorem jb_isB {b : Bool} {j : Nat} {p2 : Pos} (h : JE X W e m) : JB X W (.Compare e [.Is] [.Constant (.bool b) j p2] pos) (mIsB b m) := by
  refine PT.imp (pt_cmpR op_is_bl h pe_bl rfl) fun σ H Q ⟨φ, F, env, st, R, h⟩ => ?_
  rw [← bnd_ret (mIsB b m)] at h
  obtain ⟨φ, F, env, st, R, h⟩ := isB_post R h
  refine ⟨φ, F, env, st, R, h.mono fun d φ1 F1 env1 st1 H1 p1 l1 R1 h1 v r => ?_⟩
  obtain ⟨a, φ2, F2, env2, st2, rfl, R2, q⟩ := h1 v r
  exact ⟨a, b, rfl, rfl, _, rfl, ret_post R2 q⟩
theorem jb_notB {b : Bool} {j : Nat} {p2 : Pos} (h : JE X W e m) : JB X W (.Compare e [.IsNot] [.Constant (.bool b) j p2] pos) (mNot (mIsB b m)) := by
  refine PT.imp (pt_cmpR op_isnot_bl h pe_bl rfl) fun σ H Q ⟨φ, F, env, st, R, h⟩ => ?_
  obtain ⟨φ, F, env, st, R, h⟩ := isB_post R h
  refine ⟨φ, F, env, st, R, h.mono fun d φ1 F1 env1 st1 H1 p1 l1 R1 h1 v r => ?_⟩
  obtain ⟨a, φ2, F2, env2, st2, rfl, R2, q⟩ := h1 v r
  exact ⟨a, b, rfl, rfl, _, rfl, ret_post R2 q⟩
/-! ### list(range(n)) -/
def rgO (n : Int) : Option Sl := if 0 ≤ n ∧ n ≤ 1000000 then some (.own (rgD 0 n.toNat)) else none
def mLRg (m : M PD) : M Sl := bnd m fun d => opt ((toI d).bind rgO)
theorem rps_rg {K : PySem.W.Frag} {F : Hp} (n : Int) : Rps K F (rgD 0 n.toNat) (rgV 0 n) := by
  have : rgV 0 n = ((List.range n.toNat).map fun (k : Nat) => (0 : Int) + (k : Int)).map V.int := by
    unfold rgV; rw [List.map_map, Int.sub_zero]; rfl
  rw [this]
  have : rgD 0 n.toNat = ((List.range n.toNat).map fun (k : Nat) => (0 : Int) + (k : Int)).map PyData.int := by
    unfold rgD; rw [List.map_map]; rfl
  rw [this]
  exact Rps.ints _
theorem jo_lrg {p p2 pos2 : Pos} (hc : X.calm = true) (hg : Gl X "list") (hm : X.mg "list" = none) (hg2 : Gl X "range") (hm2 : X.mg "range" = none) (h : JE X W e m)
    (na : starEach [.Call (.Name "range" p2) [e] [] pos2] X.env = (false, eval (.Call (.Name "range" p2) [e] [] pos2) X.env) :: starEach [] X.env := by rfl) (na2 : starEach [e] X.env = (false, eval e X.env) :: starEach [] X.env := by rfl) :
    JO X W (.Call (.Name "list" p) [.Call (.Name "range" p2) [e] [] pos2] [] pos) (mLRg m) :=
  PE.imp (pe_listRg hc hg hm (prg_1 hg2 hm2 h na2) na) fun σ H Q ⟨φ, F, env, st, R, h⟩ => ⟨φ, F, env, st, R, (Post.bnd h).mono fun d φ1 F1 env1 st1 H1 p1 l1 R1 h1 v r => by
    obtain ⟨c, e, q⟩ := opt_post h1
    obtain ⟨i, e1, e2⟩ := Option.bind_eq_some_iff.mp e
    cases r with
    | int j =>
      have e1 : j = i := Option.some.inj e1
      subst e1
      obtain ⟨hz, rfl⟩ := if_some e2
      refine ⟨j, rfl, .of_le (by omega) (by omega) (by omega) (by omega), fun a n => ?_⟩
      obtain ⟨b1, b2, b3, b4⟩ := own_new (o := .lst (rgV 0 j)) R1 n
      exact q φ1 F1 H1 (List.prefix_refl _) (Le.refl _) R1 a _ b1 b2 b3 b4 ⟨_, upd_same, rps_rg j⟩
    | _ => cases e1⟩
end
end TL

namespace TL
open PySem PySem.Spec L2
open PyProof.Rows hiding St

/-! ### sorted(set(tuple of ints)) -/
def insU (k : Int) : List Int → List Int
  | [] => [k]
  | x :: r => if k < x then k :: x :: r else if k = x then x :: r else x :: insU k r
def sortU (ns : List Int) : List Int := ns.foldr insU []
theorem mem_insU (k j : Int) : ∀ l, j ∈ insU k l ↔ j = k ∨ j ∈ l
  | [] => by simp [insU]
  | x :: r => by
    unfold insU
    split
    · simp
    · split
      · rename_i h; subst h; simp
      · simp only [List.mem_cons, mem_insU k j r]; constructor <;> (intro h; rcases h with h | h | h <;> simp [h])
theorem insU_asc (k : Int) : ∀ l, l.Pairwise (· < ·) → (insU k l).Pairwise (· < ·)
  | [], _ => by simp [insU]
  | x :: r, h => by
    rw [List.pairwise_cons] at h
    unfold insU
    split
    · rename_i hk
      rw [List.pairwise_cons]
      refine ⟨fun y hy => ?_, List.pairwise_cons.mpr h⟩
      rcases List.mem_cons.mp hy with z | z
      · omega
      · have := h.1 y z; omega
    · split
      · exact List.pairwise_cons.mpr h
      · rw [List.pairwise_cons]
        refine ⟨fun y hy => ?_, insU_asc k r h.2⟩
        rcases (mem_insU k y r).mp hy with z | z
        · omega
        · exact h.1 y z
theorem sortU_asc : ∀ ns, (sortU ns).Pairwise (· < ·)
  | [] => List.Pairwise.nil
  | n :: ns => insU_asc n _ (sortU_asc ns)
theorem mem_sortU (j : Int) : ∀ ns, j ∈ sortU ns ↔ j ∈ ns
  | [] => Iff.rfl
  | n :: ns => by
    show j ∈ insU n (sortU ns) ↔ _
    rw [mem_insU, mem_sortU j ns, List.mem_cons]
theorem asc_ext : ∀ (a b : List Int), a.Pairwise (· < ·) → b.Pairwise (· < ·) → (∀ k, k ∈ a ↔ k ∈ b) → a = b
  | [], [], _, _, _ => rfl
  | [], y :: b, _, _, h => absurd ((h y).mpr (List.mem_cons_self ..)) (by simp)
  | x :: a, [], _, _, h => absurd ((h x).mp (List.mem_cons_self ..)) (by simp)
  | x :: a, y :: b, ha, hb, h => by
    rw [List.pairwise_cons] at ha hb
    have exy : x = y := by
      rcases List.mem_cons.mp ((h x).mp (List.mem_cons_self ..)) with z | z
      · exact z
      · rcases List.mem_cons.mp ((h y).mpr (List.mem_cons_self ..)) with z2 | z2
        · exact z2.symm
        · have h1 := hb.1 x z; have h2 := ha.1 y z2; omega
    subst exy
    rw [asc_ext a b ha.2 hb.2 fun k => ?_]
    constructor
    · intro hk
      rcases List.mem_cons.mp ((h k).mp (List.mem_cons_of_mem _ hk)) with z | z
      · have := ha.1 k hk; omega
      · exact z
    · intro hk
      rcases List.mem_cons.mp ((h k).mpr (List.mem_cons_of_mem _ hk)) with z | z
      · have := hb.1 k hk; omega
      · exact z
section
variable {X : Cx} {W : WX} {e : Expr} {m : M PD} {pos : Pos}
def rSetT (K : PySem.W.Frag) (w : World) : List V → Hp → VK → Prop := fun xs H Q => ∃ (p : Addr) (ns : List Int), xs = [.ref p] ∧ SqT K H p (ns.map V.int) ∧ ns.length ≤ 60 ∧ ∀ a c, H a = none → c ≤ ns.length → Q (.ref a) (upd H a (SetO w a (fun j => decide (j ∈ ns)) c))
theorem c_setT (hc : X.calm = true) : CallR X (.type "set") (rSetT X.K X.w) := by
  intro pins s σ H xs us Q I r h
  obtain ⟨p, ns, rfl, hq, hl, q⟩ := h
  obtain ⟨its, rv, pt, hz⟩ := I.tuple hq
  rw [Vals.ref1 r]
  have hi : IntsAre its.toArray.toList ns := ints_of_vals rv
  refine call_set_tupI ns (I.ok.hd hc) (show s.heap.IsTuple p its.toArray from pt) hi (by unfold scanBound; omega) fun h' tk c R1 hcn k => ?_
  have hn : H s.heap.objs.size = none := I.hok.fresh (Nat.le_refl _)
  exact ⟨.ref _, _, I.laid (t' := tk) k (Nat.le_refl _) (setO_new R1), rfl, q _ c hn hcn⟩
def sortUD : PD → Option PD
  | .tuple ds => (intsOf ds).bind fun ns => if ns.length ≤ 60 then some (.list ((sortU ns).map PyData.int)) else none
  | _ => none
def mSortSet (m : M PD) : M PD := bnd m fun d => opt (sortUD d)
theorem je_sortSet {p p2 pos2 : Pos} (hc : X.calm = true) (hg : Gl X "sorted") (hm : X.mg "sorted" = none) (hg2 : Gl X "set") (hm2 : X.mg "set" = none) (hv : bootBuiltins "sorted" = some (.builtin "sorted")) (hv2 : bootBuiltins "set" = some (.type "set")) (h : JE X W e m)
    (na : starEach [.Call (.Name "set" p2) [e] [] pos2] X.env = (false, eval (.Call (.Name "set" p2) [e] [] pos2) X.env) :: starEach [] X.env := by rfl) (na2 : starEach [e] X.env = (false, eval e X.env) :: starEach [] X.env := by rfl)
    (hpl : (backTo pos (starEach [] X.env)).any (·.1) = false := by rfl) (hpl2 : (backTo pos2 (starEach [] X.env)).any (·.1) = false := by rfl) :
    JE X W (.Call (.Name "sorted" p) [.Call (.Name "set" p2) [e] [] pos2] [] pos) (mSortSet m) := by
  refine PE.imp (PE.fz (pe_callB (cr_sortedSet hc) hg hm hv (pa_cons (pe_callTy (c_setT hc) hg2 hm2 hv2 (pa_cons h pa_nil na2) (by decide) (by decide) na2 hpl2) pa_nil na) (by decide) (by decide) na hpl)) fun σ H Q ⟨φ, F, env, st, R, h⟩ => ⟨φ, F, env, st, R, (Post.bnd h).mono fun d φ1 F1 env1 st1 H1 p1 l1 R1 h1 v r => ?_⟩
  obtain ⟨c, e, q⟩ := opt_post h1
  cases r with
  | @tup a xs ds hf rs =>
    simp only [sortUD] at e
    obtain ⟨ns, e1, e2⟩ := Option.bind_eq_some_iff.mp e
    obtain ⟨hz, rfl⟩ := if_some e2
    rw [intsOf_eq e1] at rs
    rw [rs.ints_inv] at hf
    refine ⟨a, ns, rfl, sqT_mono hf R1.sub.f, hz, fun b c nb hcn => ⟨b, _, c, rfl, upd_same, by omega, fun ms p asc hmem hlen np => ?_⟩⟩
    have nbp : p ≠ b := fun z => by rw [z, upd_same] at np; cases np
    have nH : H1 p = none := by rw [upd_ne nbp] at np; exact np
    have eU : ms = sortU ns := asc_ext _ _ asc (sortU_asc ns) fun k => by rw [hmem k, mem_sortU]; simp
    subst eU
    have R2 : Rel X.K φ1 F1 env1 st1 σ (upd H1 b (SetO X.w b (fun j => decide (j ∈ ns)) c)) := R1.grow (Grow.loose nb)
    exact (EndD.of R2 q).lst R2.sub (Rps.ints _) np
  | _ => cases e
/-! ### {k: v} -/
def keyOf : PD → Option Key
  | .int i => some (.inl i)
  | .str x => some (.inr x)
  | _ => none
theorem key_of {K : PySem.W.Frag} {F : Hp} {d : PD} {k : Key} {v : V} (e : keyOf d = some k) (r : Rp K F d v) : v = kV k ∧ d = kPD k := by
  cases r <;> cases e <;> exact ⟨rfl, rfl⟩
def mDisp (mk mv : M PD) : M PD := bnd mk fun k => bnd (opt (keyOf k)) fun _ => bnd mv fun d => ret (.dict [(k, d)])
theorem je_disp {k v : Expr} {mk mv : M PD} (hk : JE X W k mk) (hv : JE X W v mv) : JE X W (.Dict [some k] [v] pos) (mDisp mk mv) := by
  refine PE.imp (PE.fz (pe_disp (pps_cons hk hv pps_nil) rfl rfl (by simp) (by simp))) fun σ H Q ⟨φ, F, env, st, R, h⟩ p np => ?_
  have nF := R.none_f np
  have g : Grow F H (upd F p (.dK [])) (upd H p (.dK [])) := Grow.still R.sub np
  have lift : ∀ {α : Type} {m : M α} {Q : α → List Addr → Hp → Env → Sto → Hp → Prop} {env : Env} {st : Sto} {F : Hp} {φ : List Addr}, True := fun {_ _ _ _ _ _ _} => True.intro
  unfold mDisp bnd at h
  refine ⟨φ, _, env, st, R.grow g, ?_⟩
  cases e1 : mk env st with
  | bad => rw [e1] at h; exact h.elim
  | exc c env1 st1 =>
    rw [e1] at h
    exact fun φ1 F1 H1 C od p1 l1 R1 hc => h φ1 F1 H1 C od p1 (g.f.trans l1) R1 hc
  | ok kd env1 st1 =>
    rw [e1] at h
    intro φ1 F1 H1 p1 l1 R1 x rx
    refine ⟨φ1, F1, env1, st1, R1, ?_⟩
    dsimp only at h
    cases e2 : keyOf kd with
    | none => rw [e2] at h; exact h.elim
    | some key =>
      rw [e2] at h
      obtain ⟨rfl, ek⟩ := key_of e2 rx
      subst ek
      dsimp only [opt, ret] at h
      cases e3 : mv env1 st1 with
      | bad => rw [e3] at h; exact h.elim
      | exc c env2 st2 =>
        rw [e3] at h
        exact fun φ2 F2 H2 C od p2 l2 R2 hc => h φ2 F2 H2 C od (p1.trans p2) ((g.f.trans l1).trans l2) R2 hc
      | ok d env2 st2 =>
        rw [e3] at h
        intro φ2 F2 H2 p2 l2 R2 y ry
        have eF : F2 p = some (.dK []) := l2 _ _ (l1 _ _ upd_same)
        refine ⟨R2.sub _ _ eF, [(key, y)], rfl, by simp, .inr ⟨p, .dK [(key, y)], rfl, upd_same, True.intro, fun o => ?_⟩⟩
        rw [upd_upd]
        obtain ⟨R3, lf, n3, np3, no3⟩ := R2.unstill eF True.intro
        have R4 := R3.still (o := .frz o (.dK [(key, y)])) n3 np3 no3
        have lF : Le F (upd (delF F2 p) p (.frz o (.dK [(key, y)]))) := fun q u e => by
          have nq : q ≠ p := fun z => by rw [z, nF] at e; cases e
          rw [upd_ne nq]
          show (if q = p then none else F2 q) = some u
          rw [if_neg nq]
          exact l2 _ _ (l1 _ _ (g.f _ _ e))
        exact h φ2 _ _ (p1.trans p2) lF R4 (.ref p) (.dct upd_same (.cons (Rp.mono (lf.trans (le_upd n3).f) ry) .nil))
/-! ### x op= e, ints -/
def augD (op : Operator) (a b : PD) : Option PD := match op, a, b with
  | .Add, .int i, .int j => some (.int (i + j))
  | .Sub, .int i, .int j => some (.int (i - j))
  | _, _, _ => none
def slV (i : Nat) : M PD := fun env st => match env[i]? with
  | some (.v d) => .ok d env st
  | _ => .bad
def mAug (i : Nat) (op : Operator) (m : M PD) : M Flow := bnd (slV i) fun a => bnd m fun b => bnd (opt (augD op a b)) fun c env st => .ok .nx (env.set i (.v c)) st
theorem slV_cases (i : Nat) (env : Env) (st : Sto) : (∃ d, env[i]? = some (.v d) ∧ slV i env st = .ok d env st) ∨ slV i env st = .bad := by
  unfold slV
  cases e : env[i]? with
  | none => exact .inr rfl
  | some s => cases s <;> first | exact .inl ⟨_, rfl, rfl⟩ | exact .inr rfl
theorem slV_post {σ : L2.St} {φ : List Addr} {F H : Hp} {env : Env} {st : Sto} {i : Nat} {k : PD → M Flow} {D : Ends} (R : Rel X.K φ F env st σ H) (h : PostS X W φ F (bnd (slV i) k env st) D) :
    ∃ d v, σ[i]? = some (some v) ∧ Rp X.K F d v ∧ PostS X W φ F (k d env st) D := by
  unfold bnd at h
  rcases slV_cases i env st with ⟨d, e1, e2⟩ | e2
  · rw [e2] at h
    obtain ⟨v, e3, r⟩ := R.val i d e1
    exact ⟨d, v, e3, r, h⟩
  · rw [e2] at h; exact h.elim
def tIpD (K : PySem.W.Frag) (op : Operator) : TIp := fun x y H Q => ∃ F a b c, Rp K F a x ∧ Rp K F b y ∧ augD op a b = some c ∧ ∀ v F', Rp K F' c v → Q v H
theorem ip_D {op : Operator} : PIp X op (tIpD X.K op) := by
  intro pins s σ H x y v u Q I r1 r2 h
  obtain ⟨F, a, b, c, ra, rb, e, q⟩ := h
  unfold augD at e
  split at e
  · cases ra; cases rb; cases e
    exact ip_add pins s σ H _ _ v u Q I r1 r2 ⟨_, _, rfl, rfl, q _ F (.int _)⟩
  · cases ra; cases rb; cases e
    exact ip_sub pins s σ H _ _ v u Q I r1 r2 ⟨_, _, rfl, rfl, q _ F (.int _)⟩
  · cases e
theorem augD_int {op : Operator} {a b c : PD} (e : augD op a b = some c) : ∃ i, c = .int i := by
  unfold augD at e
  split at e
  · cases e; exact ⟨_, rfl⟩
  · cases e; exact ⟨_, rfl⟩
  · cases e
theorem js_aug {i : Nat} {x : Str} {op : Operator} {pos' : Pos} (hN : X.N.Nodup) (hi : X.N[i]? = some x) (hx : Loc X.env.scope x) (he : JE X W e m) (hf : X.fn x = true ∨ X.env.scope.names.lookup x = some .local := by first | exact .inl rfl | exact .inr rfl | assumption) :
    JS X W (.AugAssign (.Name x pos') op e pos) (mAug i op m) := by
  refine PS.imp (ps_aug hN hi hx he ip_D hf) fun D σ H ⟨φ, F, env, st, R, h⟩ => ?_
  obtain ⟨d, v, e1, r, h⟩ := slV_post R h
  refine ⟨v, e1, φ, F, env, st, R, (PostS.bnd h).mono fun b φ1 F1 env1 st1 H1 p1 l1 R1 h1 y ry => ?_⟩
  obtain ⟨c, e, q⟩ := opt_post (PostS.bnd h1)
  refine ⟨F1, d, b, c, Rp.mono l1.f r, ry, e, fun w F' rw => ?_⟩
  obtain ⟨i', rfl⟩ := augD_int e
  cases rw
  exact nx_post (R1.set_v (.int i')) (q φ1 F1 H1 (List.prefix_refl _) (Le.refl _) R1)
end
end TL

namespace TL
open PySem PySem.Spec L2
open PyProof.Rows hiding St
def negD : PD → Option PD
  | .int i => some (.int (-i))
  | _ => none
def mNeg (m : M PD) : M PD := bnd m fun d => opt (negD d)
section
variable {X : Cx} {W : WX} {e : Expr} {m : M PD} {pos : Pos}
theorem je_neg (h : JE X W e m) : JE X W (.UnaryOp .USub e pos) (mNeg m) :=
  PE.imp (pe_un un_neg h) fun σ H Q ⟨φ, F, env, st, R, h⟩ => ⟨φ, F, env, st, R, (Post.bnd h).mono fun d φ1 F1 env1 st1 H1 p l R1 h1 v r => by
    obtain ⟨c, e, q⟩ := opt_post h1
    cases r with
    | int i => cases e; exact ⟨i, rfl, q φ1 F1 H1 (List.prefix_refl _) (Le.refl _) R1 _ (.int _)⟩
    | _ => cases e⟩
theorem Okx.bk {s : Shared} {H : Hp} {scope : Scope} {cenv : PySem.Env} {fp : List Addr} (o : Okx X) : Okx (X.blk s H scope cenv fp) := ⟨o.calm, o.hu, o.hd⟩
theorem Fx.bk {k : Nat} {s : Shared} {H : Hp} {scope : Scope} {cenv : PySem.Env} {fp : List Addr} (x : Fx X W k) : Fx (X.blk s H scope cenv fp) W0 k := ⟨x.o.bk, LamX.takes0, x.hr, PassesOwn.never⟩
end
/-! ### the law's promise -/
def spLaw (K : PySem.W.Frag) : Sp := fun vs H Q _ => ∃ (a : Addr) (ns : List Int), vs = [.ref a] ∧ SqL K H a (ns.map V.int) ∧ ns.length ≤ 63 ∧ Only H ∧ ∀ H', Q (.bl true) H'
theorem law_of {P : Program} {w : World} {K : PySem.W.Frag} {mg : Str → Option Value} {base : Heap} {CX : CXT} {k : Nat} {f : Addr} {fd : FuncData} {ps : List Str} {sem : Sem1} (F : FnOk P w K mg base CX k f fd ps (spT K mg sem))
    (h : ∀ ns : List Int, ns.length ≤ 63 → ∃ st, sem [.raw (.scr ns)] [] = .ret (.d (.bool true)) st) : FnOk P w K mg base CX k f fd ps (spLaw K) :=
  F.imp fun vs H Q E ⟨a, ns, e, hs, hl, ho, q⟩ => by
    subst e
    obtain ⟨st, es⟩ := h ns hl
    have S0 : StoOk K [] H [] H := ⟨rfl, List.nodup_nil, fun k p e h => by simp at h⟩
    refine ⟨[], H, [.raw (.scr ns)], [], Le.refl _, S0, .cons ⟨a, rfl, ?_⟩ .nil, ?_⟩
    · rcases hs with (hs | hs) | hs
      · rcases ho a with z | ⟨o, xs, z⟩
        · rw [hs] at z; cases z
        · rw [hs] at z; cases z
      · exact .inl hs
      · exact .inr hs
    · rw [es]
      intro φ' F' H' v _ _ _ _ r
      cases r
      exact q H'
theorem cx_end {P : Program} {w : World} {H : Hp} {s : Shared} {e : Value} {s' : Shared} (h : L2.CX P w [] H s (fun _ _ _ => False) e s') : False := by
  obtain ⟨_, _, _, _, _, _, _, _, _, _, _, _, z⟩ := h
  exact z
end TL

namespace TL
open PySem PySem.Spec L2
open PyProof.Rows hiding St
/-! ### reckoning with the pure side -/
def Res.th {α β : Type} (r : Res α) (f : α → M β) : Res β := match r with
  | .ok a env st => f a env st
  | .exc c env st => .exc c env st
  | .bad => .bad
section
variable {α β : Type} {env : Env} {st : Sto}
@[simp] theorem th_ok (a : α) (f : α → M β) : Res.th (.ok a env st) f = f a env st := rfl
@[simp] theorem th_exc (c : String) (f : α → M β) : Res.th (.exc c env st) f = .exc c env st := rfl
@[simp] theorem th_bad (f : α → M β) : Res.th .bad f = .bad := rfl
@[simp] theorem ap_bnd (m : M α) (f : α → M β) : bnd m f env st = Res.th (m env st) f := by unfold bnd Res.th; cases m env st <;> rfl
@[simp] theorem ap_ret (a : α) : ret a env st = .ok a env st := rfl
@[simp] theorem ap_optS (a : α) : opt (some a) env st = .ok a env st := rfl
@[simp] theorem ap_optN : opt (none : Option α) env st = .bad := rfl
@[simp] theorem ap_C (d : PD) : mC d env st = .ok d env st := rfl
@[simp] theorem ap_Var (i : Nat) : mVar i env st = match env[i]? with
  | some (.v d) => .ok d env st
  | some (.own ds) => .ok (.list ds) (env.set i (.v (.list ds))) st
  | some (.ownD ds) => .ok (.dict ds) (env.set i (.v (.dict ds))) st
  | some (.ownT ds) => .ok (.dict ds) (env.set i (.v (.dict ds))) st
  | _ => .bad := rfl
@[simp] theorem ap_View (i : Nat) : mView i env st = match env[i]? with
  | some (.v d) => .ok d env st
  | some (.own ds) => .ok (.list ds) env st
  | some (.mt n) => match st[n]? with
    | some (.l ds) => .ok (.list ds) env st
    | _ => .bad
  | _ => .bad := rfl
@[simp] theorem ap_Name (i : Nat) : mName i env st = match env[i]? with
  | some (.raw v) => .ok (.raw v) env st
  | some (.mt n) => .ok (.mt n) env st
  | _ => .bad := rfl
@[simp] theorem ap_Bin (g : PD → PD → Option PD) (ma mb : M PD) : mBin g ma mb env st = Res.th (ma env st) fun a => bnd mb fun b => opt (g a b) := ap_bnd ..
@[simp] theorem ap_Cmp (g : PD → PD → Option Bool) (ma mb : M PD) : mCmp g ma mb env st = Res.th (ma env st) fun a => bnd mb fun b => opt (g a b) := ap_bnd ..
@[simp] theorem ap_V (m : M Bool) : mV m env st = Res.th (m env st) fun b => ret (.bool b) := ap_bnd ..
@[simp] theorem ap_T (m : M PD) : mT m env st = Res.th (m env st) fun d => opt (truth d) := ap_bnd ..
@[simp] theorem ap_B (m : M PD) : mB m env st = Res.th (m env st) fun d => opt (asB d) := ap_bnd ..
@[simp] theorem ap_Chain (g g' : PD → PD → Option Bool) (ma mb mc : M PD) : mChain g g' ma mb mc env st = Res.th (ma env st) fun a => bnd mb fun b => bnd (opt (g a b)) fun k => if k = true then bnd mc fun c => opt (g' b c) else ret false := ap_bnd ..
@[simp] theorem ap_And (ma mb : M Bool) : mAnd ma mb env st = Res.th (ma env st) fun k => if k = true then mb else ret false := ap_bnd ..
@[simp] theorem ap_Or (ma mb : M Bool) : mOr ma mb env st = Res.th (ma env st) fun k => if k = true then ret true else mb := ap_bnd ..
@[simp] theorem ap_Not (ma : M Bool) : mNot ma env st = Res.th (ma env st) fun k => ret (!k) := ap_bnd ..
@[simp] theorem ap_AndV (ma mb : M PD) : mAndV ma mb env st = Res.th (ma env st) fun a => bnd (opt (asB a)) fun k => if k = true then mb else ret (.bool false) := ap_bnd ..
@[simp] theorem ap_OrV (ma mb : M PD) : mOrV ma mb env st = Res.th (ma env st) fun a => bnd (opt (asB a)) fun k => if k = true then ret (.bool true) else mb := ap_bnd ..
@[simp] theorem ap_If (c : M Bool) (ma mb : M α) : mIf c ma mb env st = Res.th (c env st) fun k => if k = true then ma else mb := ap_bnd ..
@[simp] theorem ap_ite (c : Prop) [Decidable c] (ma mb : M α) : (if c then ma else mb) env st = if c then ma env st else mb env st := by split <;> rfl
@[simp] theorem ap_IsNone (m : M PD) : mIsNone m env st = Res.th (m env st) fun a => ret (pyIsNone a) := ap_bnd ..
@[simp] theorem ap_IsB (b : Bool) (m : M PD) : mIsB b m env st = Res.th (m env st) fun d => opt ((asB d).map fun a => decide (a = b)) := ap_bnd ..
@[simp] theorem ap_Nil : (mNil : M (List α)) env st = .ok [] env st := rfl
@[simp] theorem ap_Cons (m : M α) (ms : M (List α)) : mCons m ms env st = Res.th (m env st) fun d => bnd ms fun ds => ret (d :: ds) := ap_bnd ..
@[simp] theorem ap_Tup (ms : M (List PD)) : mTup ms env st = Res.th (ms env st) fun ds => opt (if ds.length ≤ 1000000 then some (.tuple ds) else none) := ap_bnd ..
@[simp] theorem ap_Lst (ms : M (List PD)) : mLst ms env st = Res.th (ms env st) fun ds => opt (if ds.length ≤ 1000000 then some (.list ds) else none) := ap_bnd ..
@[simp] theorem ap_OLst (ms : M (List PD)) : mOLst ms env st = Res.th (ms env st) fun ds => opt (if ds.length ≤ 1000000 then some (.own ds) else none) := ap_bnd ..
@[simp] theorem ap_CallB (g : List PD → Option PD) (ms : M (List PD)) : mCallB g ms env st = Res.th (ms env st) fun ds => opt (g ds) := ap_bnd ..
@[simp] theorem ap_IsA (T : String) (m : M PD) : mIsA T m env st = Res.th (m env st) fun d => ret (.bool (isA d T)) := ap_bnd ..
@[simp] theorem ap_D (m : M Ag) : mD m env st = Res.th (m env st) fun a => opt (agD a) := ap_bnd ..
@[simp] theorem ap_Ag (m : M PD) : mAg m env st = Res.th (m env st) fun d => ret (.d d) := ap_bnd ..
/-- what a call leaves -/
def Rf.ans (r : Rf) (env : Env) : Res Ag := match r with
  | .ret a st' => .ok a env st'
  | .exc c st' => .exc c env st'
  | .bad => .bad
@[simp] theorem ans_ret (a : Ag) : Rf.ans (.ret a st) env = .ok a env st := rfl
@[simp] theorem ans_exc (c : String) : Rf.ans (.exc c st) env = .exc c env st := rfl
@[simp] theorem ans_bad : Rf.ans .bad env = .bad := rfl
@[simp] theorem ap_Call (f : Sem1) (ms : M (List Ag)) : mCall f ms env st = Res.th (ms env st) fun as env st => Rf.ans (f as st) env := by
  unfold mCall bnd Res.th
  cases ms env st with
  | ok a e s =>
    show _ = Rf.ans (f a s) e
    unfold Rf.ans
    first
      | rfl
      | (dsimp only; cases f a s <;> rfl)
  | exc c e s => rfl
  | bad => rfl
@[simp] theorem ap_Ix (ma mb : M PD) : mIx ma mb env st = Res.th (ma env st) fun a => bnd mb fun b => opt (pyIx a b) := ap_bnd ..
@[simp] theorem ap_IxV (i : Nat) (mb : M PD) : mIxV i mb env st = Res.th (mView i env st) fun _ => bnd mb fun b => bnd (mView i) fun a => opt (pyIx a b) := ap_bnd ..
@[simp] theorem ap_Part (m : M PD) : mPart m env st = Res.th (m env st) fun d => opt ((toI d).map some) := ap_bnd ..
@[simp] theorem ap_NoPart : mNoPart env st = .ok none env st := rfl
@[simp] theorem ap_SlS (i : Nat) (ml mh : M (Option Int)) : mSlS i ml mh env st = Res.th (mScr i env st) fun ns => bnd ml fun l => bnd mh fun h => opt (pySl (.list (ns.map PyData.int)) l h) := ap_bnd ..
@[simp] theorem ap_Scr (i : Nat) : mScr i env st = match env[i]? with
  | some (.raw (.scr ns)) => .ok ns env st
  | _ => .bad := rfl
@[simp] theorem ap_Rev (m : M PD) : mRev m env st = Res.th (m env st) fun d => opt (revD d) := ap_bnd ..
@[simp] theorem ap_Neg (m : M PD) : mNeg m env st = Res.th (m env st) fun d => opt (negD d) := ap_bnd ..
@[simp] theorem ap_SortSet (m : M PD) : mSortSet m env st = Res.th (m env st) fun d => opt (sortUD d) := ap_bnd ..
@[simp] theorem ap_Disp (mk mv : M PD) : mDisp mk mv env st = Res.th (mk env st) fun k => bnd (opt (keyOf k)) fun _ => bnd mv fun d => ret (.dict [(k, d)]) := ap_bnd ..
@[simp] theorem ap_Fz (m : M Sl) : mFz m env st = Res.th (m env st) fun sl => opt (slD sl) := ap_bnd ..
@[simp] theorem ap_LRg (m : M PD) : mLRg m env st = Res.th (m env st) fun d => opt ((toI d).bind rgO) := ap_bnd ..
@[simp] theorem ap_Xv (m : M PD) : mXv m env st = Res.th (m env st) fun d => ret (.v d) := ap_bnd ..
@[simp] theorem ap_Items (m : M PD) : mItems m env st = Res.th (m env st) fun d => opt (dItems d) := ap_bnd ..
@[simp] theorem ap_Rg1 (ms : M (List PD)) : mRg1 ms env st = Res.th (ms env st) fun d => opt (rg1 d) := ap_bnd ..
@[simp] theorem ap_Rg2 (ms : M (List PD)) : mRg2 ms env st = Res.th (ms env st) fun d => opt (rg2 d) := ap_bnd ..
@[simp] theorem ap_Enum (m : M PD) : mEnum m env st = Res.th (m env st) fun d => opt ((dSeq d).map fun p => enumD 0 p.2) := ap_bnd ..
@[simp] theorem ap_Zip (ma mb : M PD) : mZip ma mb env st = Res.th (ma env st) fun a => bnd mb fun b => opt (zipO a b) := ap_bnd ..
/-! statements -/
@[simp] theorem ap_Seq (a b : M TL.Flow) : mSeq a b env st = Res.th (a env st) fun fl => match fl with
  | .nx => b
  | fl => ret fl := ap_bnd ..
@[simp] theorem ap_Pass : mPass env st = .ok .nx env st := rfl
@[simp] theorem ap_Brk : mBrk env st = .ok .bk env st := rfl
@[simp] theorem ap_Cnt : mCnt env st = .ok .ct env st := rfl
@[simp] theorem ap_Never : mNever env st = .bad := rfl
@[simp] theorem ap_Set (i : Nat) (m : M PD) : mSet i m env st = Res.th (m env st) fun d env st => .ok .nx (env.set i (.v d)) st := ap_bnd ..
@[simp] theorem ap_SetO (i : Nat) (m : M Sl) : mSetO i m env st = Res.th (m env st) fun sl env st => .ok .nx (env.set i sl) st := ap_bnd ..
@[simp] theorem ap_SetG (i : Nat) (m : M Ag) : mSetG i m env st = Res.th (m env st) fun a env st => .ok .nx (env.set i (slot0 a)) st := ap_bnd ..
@[simp] theorem ap_Ret (m : M PD) : mRet m env st = Res.th (m env st) fun d => ret (.rt d) := ap_bnd ..
@[simp] theorem ap_RetN : mRetN env st = .ok (.rt .none) env st := rfl
@[simp] theorem ap_RetL (ms : M (List PD)) : mRetL ms env st = Res.th (ms env st) fun ds env st => if ds.length ≤ 1000000 then .ok (.rtm st.length) env (st ++ [.l ds]) else .bad := ap_bnd ..
@[simp] theorem ap_Drop (m : M Ag) : mDrop m env st = Res.th (m env st) fun _ => ret .nx := ap_bnd ..
@[simp] theorem ap_Par (i j : Nat) (ma mb : M Sl) : mPar i j ma mb env st = Res.th (ma env st) fun a => bnd mb fun b env st => .ok .nx ((env.set i a).set j b) st := ap_bnd ..
@[simp] theorem ap_For (it : M (List PD)) (tg : PD → M Unit) (body : M TL.Flow) (ks : List Nat) : mFor it tg body ks env st = Res.th (it env st) fun xs => mForL tg body ks xs := ap_bnd ..
@[simp] theorem ap_Aug (i : Nat) (op : Operator) (m : M PD) : mAug i op m env st = Res.th (slV i env st) fun a => bnd m fun b => bnd (opt (augD op a b)) fun c env st => .ok .nx (env.set i (.v c)) st := ap_bnd ..
@[simp] theorem ap_slV (i : Nat) : slV i env st = match env[i]? with
  | some (.v d) => .ok d env st
  | _ => .bad := rfl
@[simp] theorem ap_Store (i : Nat) (mk mv : M PD) : mStore i mk mv env st = Res.th (mv env st) fun d => bnd (hasL i) fun _ => bnd mk fun k => bnd (putL i (fStore k d)) fun _ => ret .nx := ap_bnd ..
@[simp] theorem ap_hasL (i : Nat) : hasL i env st = match env[i]? with
  | some (.own _) => .ok () env st
  | some (.mt n) => match st[n]? with
    | some (.l _) => .ok () env st
    | _ => .bad
  | _ => .bad := rfl
@[simp] theorem ap_putL (i : Nat) (f : List PD → Option (β × List PD)) : putL i f env st = match env[i]? with
  | some (.own ds) => match f ds with
    | some (b, es) => .ok b (env.set i (.own es)) st
    | none => .bad
  | some (.mt n) => match st[n]? with
    | some (.l ds) => match f ds with
      | some (b, es) => .ok b env (st.set n (.l es))
      | none => .bad
    | _ => .bad
  | _ => .bad := rfl
@[simp] theorem ap_App (i : Nat) (m : M PD) : mApp i m env st = Res.th (hasL i env st) fun _ => bnd m fun d => bnd (putL i (fApp d)) fun _ => ret .none := ap_bnd ..
@[simp] theorem ap_Ext (i : Nat) (m : M PD) : mExt i m env st = Res.th (hasL i env st) fun _ => bnd m fun d => bnd (putL i (fExt d)) fun _ => ret .none := ap_bnd ..
@[simp] theorem ap_Pop (i : Nat) (m : M PD) : mPop i m env st = Res.th (hasL i env st) fun _ => bnd m fun d => putL i (fPop d) := ap_bnd ..
@[simp] theorem ap_PopE (i : Nat) : mPopE i env st = Res.th (hasL i env st) fun _ => putL i fPopE := ap_bnd ..
@[simp] theorem ap_tgN (i : Nat) (d : PD) : tgN i d env st = .ok () (env.set i (.v d)) st := rfl
@[simp] theorem ap_tgNil : tgNil [] env st = .ok () env st := rfl
@[simp] theorem ap_tgCons (t : PD → M Unit) (ts : List PD → M Unit) (d : PD) (ds : List PD) : tgCons t ts (d :: ds) env st = Res.th (t d env st) fun _ => ts ds := ap_bnd ..
@[simp] theorem ap_tgTup (n : Nat) (ts : List PD → M Unit) (ds : List PD) : tgTup n ts (.tuple ds) env st = if ds.length = n then ts ds env st else .bad := by
  show (if ds.length = n then ts ds else bad) env st = _
  rw [ap_ite]; rfl
@[simp] theorem killS_nil : killS [] env = env := rfl
@[simp] theorem killS_cons (k : Nat) (ks : List Nat) : killS (k :: ks) env = killS ks (env.set k .un) := rfl
theorem ap_run (nN n : Nat) (m : M TL.Flow) (as : List Ag) : runFn nN n m as st = if as.length = n then endR (m (as.map slot0 ++ List.replicate (nN - n) .un) st) else .bad := rfl
@[simp] theorem endR_rt (d : PD) : endR (.ok (.rt d) env st) = .ret (.d d) st := rfl
@[simp] theorem endR_rtm (d : Nat) : endR (.ok (.rtm d) env st) = .ret (.mt d) st := rfl
@[simp] theorem endR_nx : endR (.ok .nx env st) = .ret (.d .none) st := rfl
@[simp] theorem endR_exc (c : String) : endR (.exc c env st) = .exc c st := rfl
@[simp] theorem slot0_d (x : PD) : slot0 (.d x) = .v x := rfl
@[simp] theorem slot0_raw (x : Tg) : slot0 (.raw x) = .raw x := rfl
@[simp] theorem slot0_mt (x : Nat) : slot0 (.mt x) = .mt x := rfl
@[simp] theorem agD_d (x : PD) : agD (.d x) = some x := rfl
@[simp] theorem asB_bool (b : Bool) : asB (.bool b) = some b := rfl
@[simp] theorem truth_bool (b : Bool) : truth (.bool b) = some b := rfl
@[simp] theorem truth_none : truth .none = some false := rfl
@[simp] theorem truth_int (i : Int) : truth (.int i) = some (i != 0) := rfl
@[simp] theorem truth_list (xs : List PD) : truth (.list xs) = some (!xs.isEmpty) := rfl
@[simp] theorem truth_tuple (xs : List PD) : truth (.tuple xs) = some (!xs.isEmpty) := rfl
end
/-! operators on ints -/
@[simp] theorem add_ii (i j : Int) : pyAdd (.int i) (.int j) = some (.int (i + j)) := rfl
@[simp] theorem sub_ii (i j : Int) : pySub (.int i) (.int j) = some (.int (i - j)) := rfl
@[simp] theorem le_ii (i j : Int) : pyLe (.int i) (.int j) = some (decide (i ≤ j)) := rfl
@[simp] theorem lt_ii (i j : Int) : pyLt (.int i) (.int j) = some (decide (i < j)) := rfl
@[simp] theorem ge_ii (i j : Int) : pyGe (.int i) (.int j) = some (decide (j ≤ i)) := rfl
@[simp] theorem gt_ii (i j : Int) : pyGt (.int i) (.int j) = some (decide (j < i)) := rfl
@[simp] theorem eq_ii (i j : Int) : pyEq (.int i) (.int j) = some (decide (i = j)) := rfl
@[simp] theorem ne_ii (i j : Int) : pyNe (.int i) (.int j) = some (!decide (i = j)) := rfl
@[simp] theorem len_l (ds : List PD) : pyLen [.list ds] = some (.int ds.length) := rfl
@[simp] theorem len_t (ds : List PD) : pyLen [.tuple ds] = some (.int ds.length) := rfl
@[simp] theorem int_i (i : Int) : pyInt [.int i] = some (.int i) := rfl
@[simp] theorem int_b (b : Bool) : pyInt [.bool b] = some (.int (if b then 1 else 0)) := rfl
@[simp] theorem abs_i (i : Int) : pyAbs [.int i] = some (.int (if i < 0 then -i else i)) := rfl
@[simp] theorem min_ii (i j : Int) : pyMin [.int i, .int j] = some (.int (if j < i then j else i)) := rfl
@[simp] theorem max_ii (i j : Int) : pyMax [.int i, .int j] = some (.int (if j > i then j else i)) := rfl
@[simp] theorem list_l (ds : List PD) : pyList [.list ds] = some (.list ds) := rfl
@[simp] theorem list_t (ds : List PD) : pyList [.tuple ds] = some (.list ds) := rfl
@[simp] theorem tuple_l (ds : List PD) : pyTuple [.list ds] = some (.tuple ds) := rfl
@[simp] theorem tuple_t (ds : List PD) : pyTuple [.tuple ds] = some (.tuple ds) := rfl
@[simp] theorem neg_i (i : Int) : negD (.int i) = some (.int (-i)) := rfl
@[simp] theorem toI_i (i : Int) : toI (.int i) = some i := rfl
@[simp] theorem key_i (i : Int) : keyOf (.int i) = some (.inl i) := rfl
@[simp] theorem items_l (ds : List PD) : dItems (.list ds) = some ds := rfl
@[simp] theorem items_t (ds : List PD) : dItems (.tuple ds) = some ds := rfl
@[simp] theorem seq_l (ds : List PD) : dSeq (.list ds) = some (false, ds) := rfl
@[simp] theorem seq_t (ds : List PD) : dSeq (.tuple ds) = some (true, ds) := rfl
@[simp] theorem rev_l (ds : List PD) : revD (.list ds) = some (.list ds.reverse) := rfl
@[simp] theorem rev_t (ds : List PD) : revD (.tuple ds) = some (.tuple ds.reverse) := rfl
@[simp] theorem slD_own (ds : List PD) : slD (.own ds) = some (.list ds) := rfl
@[simp] theorem zip_ll (a b : List PD) : zipO (.list a) (.list b) = some (zipD a b) := rfl
@[simp] theorem zip_tt (a b : List PD) : zipO (.tuple a) (.tuple b) = some (zipD a b) := rfl
@[simp] theorem all_l (ds : List PD) : pyAll [.list ds] = (boolsOf ds).map fun ns => .bool (ns.all id) := rfl
@[simp] theorem any_l (ds : List PD) : pyAny [.list ds] = (boolsOf ds).map fun ns => .bool (ns.any id) := rfl
@[simp] theorem sum_l (ds : List PD) : pySum [.list ds] = (intsOf ds).map fun ns => .int ns.sum := rfl
theorem add_ll {xs ys : List PD} (h : xs.length + ys.length ≤ 1000000) : pyAdd (.list xs) (.list ys) = some (.list (xs ++ ys)) := if_pos h
theorem add_tt {xs ys : List PD} (h : xs.length + ys.length ≤ 1000000) : pyAdd (.tuple xs) (.tuple ys) = some (.tuple (xs ++ ys)) := if_pos h
theorem mod_pos {i j : Int} (h : 0 < j) : pyMod (.int i) (.int j) = some (.int (i % j)) := if_pos h
theorem fdiv_pos {i j : Int} (h : 0 < j) (h2 : j < 1073741824) : pyFdiv (.int i) (.int j) = some (.int (i / j)) := if_pos (cl_t ⟨h, h2⟩)
theorem mulOk_l {i j : Int} (h : -(2 ^ 64) < i) (h2 : i < 2 ^ 64) : mulOk i j = true := cl_t (.inl ⟨h, h2⟩)
theorem mulOk_r {i j : Int} (h : -(2 ^ 64) < j) (h2 : j < 2 ^ 64) : mulOk i j = true := cl_t (.inr (.inl ⟨h, h2⟩))
theorem mul_l {i j : Int} (h : -(2 ^ 64) < i) (h2 : i < 2 ^ 64) : pyMul (.int i) (.int j) = some (.int (i * j)) := if_pos (mulOk_l h h2)
theorem mul_r {i j : Int} (h : -(2 ^ 64) < j) (h2 : j < 2 ^ 64) : pyMul (.int i) (.int j) = some (.int (i * j)) := if_pos (mulOk_r h h2)
theorem ixN_nat {n k : Nat} (h : k < n) : ixN n (k : Int) = some k := by
  unfold ixN
  simp [h]
theorem ix_l {ds : List PD} {k : Nat} {d : PD} (h : ds[k]? = some d) : pyIx (.list ds) (.int (k : Int)) = some d := by
  have hk := (List.getElem?_eq_some_iff.mp h).1
  show atI ds (k : Int) = _
  unfold atI
  rw [ixN_nat hk]
  exact h
theorem ix_t {ds : List PD} {k : Nat} {d : PD} (h : ds[k]? = some d) : pyIx (.tuple ds) (.int (k : Int)) = some d := by
  have hk := (List.getElem?_eq_some_iff.mp h).1
  show atI ds (k : Int) = _
  unfold atI
  rw [ixN_nat hk]
  exact h
end TL

namespace TL
open PySem PySem.Spec L2
open PyProof.Rows hiding St
/-! ### loops and comprehensions, reckoned -/
section
variable {α : Type} {env : Env} {st : Sto}
@[simp] theorem ap_aft (t : M Unit) (m : M α) : aft t m env st = match t env st with
  | .ok _ env1 st1 => m env1 st1
  | _ => .bad := rfl
@[simp] theorem ap_noexc (m : M α) : noexc m env st = match m env st with
  | .ok a env1 st1 => .ok a env1 st1
  | _ => .bad := rfl
@[simp] theorem ap_Turn (tg : PD → M Unit) (mt : M Bool) (me : M PD) (x : PD) : mTurn tg mt me x env st = aft (tg x) (noexc (bnd mt fun k => if k = true then bnd me fun d => ret (some d) else ret none)) env st := rfl
@[simp] theorem ap_Yes : mYes env st = .ok true env st := rfl
@[simp] theorem wipeE_nil : wipeE env [] = env := rfl
@[simp] theorem wipeE_cons (v : Nat) (vs : List Nat) : wipeE env (v :: vs) = (wipeE env vs).set v .un := rfl
theorem wipeE_get (env : Env) : ∀ (vs : List Nat) (j : Nat), (wipeE env vs)[j]? = if j ∈ vs ∧ j < env.length then some .un else env[j]?
  | [], j => by simp
  | v :: vs, j => by
    have hl : ∀ vs : List Nat, (wipeE env vs).length = env.length := fun vs => by
      induction vs with
      | nil => rfl
      | cons v vs ih => rw [wipeE_cons, List.length_set, ih]
    rw [wipeE_cons, List.getElem?_set, wipeE_get env vs j, hl]
    by_cases h1 : v = j
    · subst h1
      by_cases h2 : v < env.length
      · simp [h2]
      · simp [h2]
    · rw [if_neg h1]
      have : (j ∈ v :: vs) ↔ j ∈ vs := by simp [Ne.symm h1]
      simp only [this]
theorem wipeE_length (env : Env) (vs : List Nat) : (wipeE env vs).length = env.length := by
  induction vs with
  | nil => rfl
  | cons v vs ih => rw [wipeE_cons, List.length_set, ih]
theorem wipeE_idem (env : Env) (vs : List Nat) : wipeE (wipeE env vs) vs = wipeE env vs := by
  apply List.ext_getElem?
  intro j
  rw [wipeE_get, wipeE_get, wipeE_length]
  by_cases hj : j ∈ vs ∧ j < env.length
  · rw [if_pos hj, if_pos hj]
  · rw [if_neg hj, if_neg hj]
theorem mergeE_at (ks : List Nat) : ∀ (i : Nat) (o e : Env), o.length = e.length → ∀ (j : Nat) a b, o[j]? = some a → e[j]? = some b → (mergeE ks i o e)[j]? = some (if (i + j) ∈ ks then (if a.isOwn = true then .un else a) else b)
  | _, [], _, _, j, a, b, h, _ => by simp at h
  | _, _ :: _, [], h, _, _, _, _, _ => by simp at h
  | i, x :: os, y :: es, hl, 0, a, b, ha, hb => by
    simp at ha hb
    subst ha hb
    simp [mergeE]
  | i, x :: os, y :: es, hl, j + 1, a, b, ha, hb => by
    have := mergeE_at ks (i + 1) os es (by simpa using hl) j a b (by simpa using ha) (by simpa using hb)
    have e : i + 1 + j = i + (j + 1) := by omega
    rw [e] at this
    simpa [mergeE] using this
theorem merge_same {e' : Env} {vs : List Nat} (hw : wipeE e' vs = wipeE env vs) (ho : (vs.all fun j => match env[j]? with | some s => !s.isOwn | none => true) = true) : mergeE vs 0 env e' = env := by
  have hl : env.length = e'.length := by
    have := congrArg List.length hw
    rw [wipeE_length, wipeE_length] at this
    exact this.symm
  apply List.ext_getElem?
  intro j
  by_cases hj : j < env.length
  · have ha : env[j]? = some env[j] := List.getElem?_eq_getElem hj
    have hb : e'[j]? = some (e'[j]'(by omega)) := List.getElem?_eq_getElem (by omega)
    rw [mergeE_at vs 0 env e' hl j _ _ ha hb, Nat.zero_add, ha]
    by_cases hm : j ∈ vs
    · rw [if_pos hm]
      have := List.all_eq_true.mp ho j hm
      rw [ha] at this
      simp at this
      rw [if_neg (by simp [this])]
    · rw [if_neg hm]
      have h1 := wipeE_get e' vs j
      have h2 := wipeE_get env vs j
      rw [hw, h2] at h1
      simp only [hm, false_and, if_false] at h1
      rw [ha, hb] at h1
      exact h1.symm
  · have h1 : (mergeE vs 0 env e')[j]? = none := List.getElem?_eq_none (by rw [mergeE_length vs 0 env e' hl]; omega)
    rw [h1, List.getElem?_eq_none (by omega)]
theorem compL_eq {vs : List Nat} {tg : PD → M Unit} {mt : M Bool} {me : M PD} (f : PD → Option PD) (W : Env) : ∀ (xs : List PD) (env : Env), env = W → (∀ x ∈ xs, ∃ e', mTurn tg mt me x W st = .ok (f x) e' st ∧ wipeE e' vs = W) → wipeE W vs = W →
    ∃ e', mCompL vs tg mt me xs env st = .ok (xs.filterMap f) e' st ∧ wipeE e' vs = W
  | [], env, e, _, hW => ⟨env, rfl, by rw [e]; exact hW⟩
  | x :: xs, env, e, h, hW => by
    subst e
    obtain ⟨e1, h1, h2⟩ := h x (List.mem_cons_self ..)
    obtain ⟨e2, h3, h4⟩ := compL_eq f env xs (wipeE e1 vs) h2 (fun y hy => h y (List.mem_cons_of_mem _ hy)) hW
    refine ⟨e2, ?_, h4⟩
    unfold mCompL
    rw [ap_bnd, h1, th_ok, ap_bnd, h3, th_ok, ap_ret]
    cases e : f x with
    | none => simp [e]
    | some d => simp [e]
/-- a comprehension that changes nothing -/
theorem comp_eq {vs : List Nat} {mi : M (List PD)} {tg : PD → M Unit} {mt : M Bool} {me : M PD} {xs : List PD} {env1 : Env} {st1 : Sto} (f : PD → Option PD) (hi : mi env st = .ok xs env1 st1) (hl : xs.length ≤ 1000000)
    (h : ∀ x ∈ xs, ∃ e', mTurn tg mt me x (wipeE env1 vs) st1 = .ok (f x) e' st1 ∧ wipeE e' vs = wipeE env1 vs) (ho : (vs.all fun j => match env1[j]? with | some s => !s.isOwn | none => true) = true) :
    mComp vs mi tg mt me env st = .ok (.own (xs.filterMap f)) env1 st1 := by
  obtain ⟨e', h1, h2⟩ := compL_eq (vs := vs) f (wipeE env1 vs) xs _ rfl h (wipeE_idem env1 vs)
  unfold mComp
  rw [ap_bnd, hi, th_ok, if_pos hl, h1]
  dsimp only
  rw [merge_same h2 ho]
theorem compL_on {ι : Type} {vs : List Nat} {tg : PD → M Unit} {mt : M Bool} {me : M PD} (g : ι → PD) (f : ι → Option PD) (W : Env) : ∀ (is : List ι) (env : Env), env = W → (∀ i ∈ is, ∃ e', mTurn tg mt me (g i) W st = .ok (f i) e' st ∧ wipeE e' vs = W) → wipeE W vs = W →
    ∃ e', mCompL vs tg mt me (is.map g) env st = .ok (is.filterMap f) e' st ∧ wipeE e' vs = W
  | [], env, e, _, hW => ⟨env, rfl, by rw [e]; exact hW⟩
  | x :: xs, env, e, h, hW => by
    subst e
    obtain ⟨e1, h1, h2⟩ := h x (List.mem_cons_self ..)
    obtain ⟨e2, h3, h4⟩ := compL_on g f env xs (wipeE e1 vs) h2 (fun y hy => h y (List.mem_cons_of_mem _ hy)) hW
    refine ⟨e2, ?_, h4⟩
    rw [List.map_cons]
    unfold mCompL
    rw [ap_bnd, h1, th_ok, ap_bnd, h3, th_ok, ap_ret]
    cases e : f x with
    | none => simp [e]
    | some d => simp [e]
/-- .. over items that are told by others -/
theorem comp_opt {ι : Type} {vs : List Nat} {mi : M (List PD)} {tg : PD → M Unit} {mt : M Bool} {me : M PD} (is : List ι) (g : ι → PD) (f : ι → Option PD) (hi : mi env st = .ok (is.map g) env st) (hl : is.length ≤ 1000000)
    (h : ∀ i ∈ is, ∃ e', mTurn tg mt me (g i) (wipeE env vs) st = .ok (f i) e' st ∧ wipeE e' vs = wipeE env vs) (ho : (vs.all fun j => match env[j]? with | some s => !s.isOwn | none => true) = true) :
    mComp vs mi tg mt me env st = .ok (.own (is.filterMap f)) env st := by
  obtain ⟨e', h1, h2⟩ := compL_on (vs := vs) g f (wipeE env vs) is _ rfl h (wipeE_idem env vs)
  unfold mComp
  rw [ap_bnd, hi, th_ok, if_pos (by simpa using hl), h1]
  dsimp only
  rw [merge_same h2 ho]
theorem comp_on {ι : Type} {vs : List Nat} {mi : M (List PD)} {tg : PD → M Unit} {mt : M Bool} {me : M PD} (is : List ι) (g : ι → PD) (f : ι → PD) (hi : mi env st = .ok (is.map g) env st) (hl : is.length ≤ 1000000)
    (h : ∀ i ∈ is, ∃ e', mTurn tg mt me (g i) (wipeE env vs) st = .ok (some (f i)) e' st ∧ wipeE e' vs = wipeE env vs) (ho : (vs.all fun j => match env[j]? with | some s => !s.isOwn | none => true) = true) :
    mComp vs mi tg mt me env st = .ok (.own (is.map f)) env st := by
  rw [comp_opt is g (fun i => some (f i)) hi hl h ho]
  congr 2
  exact congrFun List.filterMap_eq_map' is
theorem comp_onF {ι : Type} {vs : List Nat} {mi : M (List PD)} {tg : PD → M Unit} {mt : M Bool} {me : M PD} (is : List ι) (g : ι → PD) (f : ι → PD) (p : ι → Bool) (hi : mi env st = .ok (is.map g) env st) (hl : is.length ≤ 1000000)
    (h : ∀ i ∈ is, ∃ e', mTurn tg mt me (g i) (wipeE env vs) st = .ok (if p i = true then some (f i) else none) e' st ∧ wipeE e' vs = wipeE env vs) (ho : (vs.all fun j => match env[j]? with | some s => !s.isOwn | none => true) = true) :
    mComp vs mi tg mt me env st = .ok (.own ((is.filter p).map f)) env st := by
  rw [comp_opt is g (fun i => if p i = true then some (f i) else none) hi hl h ho]
  congr 2
  clear h hi hl
  induction is with
  | nil => rfl
  | cons i is ih =>
    by_cases hp : p i = true
    · rw [List.filter_cons_of_pos hp, List.filterMap_cons, if_pos hp, List.map_cons, ih]
    · rw [List.filter_cons_of_neg hp, List.filterMap_cons, if_neg hp, ih]
/-- .. whose iterable changes the frame (a list of its own is frozen by it) -/
theorem comp_optE {ι : Type} {vs : List Nat} {mi : M (List PD)} {tg : PD → M Unit} {mt : M Bool} {me : M PD} (is : List ι) (g : ι → PD) (f : ι → Option PD) (env1 : Env) (hi : mi env st = .ok (is.map g) env1 st) (hl : is.length ≤ 1000000)
    (h : ∀ i ∈ is, ∃ e', mTurn tg mt me (g i) (wipeE env1 vs) st = .ok (f i) e' st ∧ wipeE e' vs = wipeE env1 vs) (ho : (vs.all fun j => match env1[j]? with | some s => !s.isOwn | none => true) = true) :
    mComp vs mi tg mt me env st = .ok (.own (is.filterMap f)) env1 st := by
  obtain ⟨e', h1, h2⟩ := compL_on (vs := vs) g f (wipeE env1 vs) is _ rfl h (wipeE_idem env1 vs)
  unfold mComp
  rw [ap_bnd, hi, th_ok, if_pos (by simpa using hl), h1]
  dsimp only
  rw [merge_same h2 ho]
theorem fm_ite {ι : Type} (p : ι → Bool) (f : ι → PD) : ∀ is : List ι, is.filterMap (fun i => if p i = true then some (f i) else none) = (is.filter p).map f
  | [] => rfl
  | i :: is => by
    have ih := fm_ite p f is
    by_cases hp : p i = true
    · rw [List.filter_cons_of_pos hp, List.filterMap_cons, if_pos hp, List.map_cons, ih]
    · rw [List.filter_cons_of_neg hp, List.filterMap_cons, if_neg hp, ih]
theorem comp_onFE {ι : Type} {vs : List Nat} {mi : M (List PD)} {tg : PD → M Unit} {mt : M Bool} {me : M PD} (is : List ι) (g : ι → PD) (f : ι → PD) (p : ι → Bool) (env1 : Env) (hi : mi env st = .ok (is.map g) env1 st) (hl : is.length ≤ 1000000)
    (h : ∀ i ∈ is, ∃ e', mTurn tg mt me (g i) (wipeE env1 vs) st = .ok (if p i = true then some (f i) else none) e' st ∧ wipeE e' vs = wipeE env1 vs) (ho : (vs.all fun j => match env1[j]? with | some s => !s.isOwn | none => true) = true) :
    mComp vs mi tg mt me env st = .ok (.own ((is.filter p).map f)) env1 st := by
  rw [comp_optE is g (fun i => if p i = true then some (f i) else none) env1 hi hl h ho, fm_ite]
/-- a loop by what stands ahead of each turn -/
theorem for_run {tg : PD → M Unit} {body : M TL.Flow} {ks : List Nat} (I : List PD → Env → Sto → Prop) (h : ∀ x xs env st, I (x :: xs) env st → ∃ fl env1 st1, aft (tg x) body env st = .ok fl env1 st1 ∧ (fl = .nx ∨ fl = .ct) ∧ I xs (killS ks env1) st1) :
    ∀ xs env st, I xs env st → ∃ env' st', mForL tg body ks xs env st = .ok .nx env' st' ∧ I [] env' st'
  | [], env, st, hI => ⟨env, st, rfl, hI⟩
  | x :: xs, env, st, hI => by
    obtain ⟨fl, env1, st1, e, hf, hI'⟩ := h x xs env st hI
    obtain ⟨env', st', e2, hI2⟩ := for_run I h xs _ _ hI'
    refine ⟨env', st', ?_, hI2⟩
    rw [ap_aft] at e
    unfold mForL
    rw [ap_aft]
    cases et : tg x env st with
    | ok u env0 st0 =>
      rw [et] at e
      dsimp only at e ⊢
      rw [ap_bnd, e, th_ok]
      rcases hf with rfl | rfl
      · exact e2
      · exact e2
    | exc c e0 s0 => rw [et] at e; cases e
    | bad => rw [et] at e; cases e
end
/-- .. told of a loop's answer -/
theorem for_res {tg : PD → M Unit} {body : M TL.Flow} {ks : List Nat} {items : List PD} {env : Env} {st : Sto} {F : Res TL.Flow} (hF : mForL tg body ks items env st = F) (I : List PD → Env → Sto → Prop) (h0 : I items env st)
    (h : ∀ x xs env st, I (x :: xs) env st → ∃ fl env1 st1, aft (tg x) body env st = .ok fl env1 st1 ∧ (fl = .nx ∨ fl = .ct) ∧ I xs (killS ks env1) st1) : ∃ env' st', F = .ok .nx env' st' ∧ I [] env' st' := by
  subst hF
  exact for_run I h items env st h0
/-- a loop over told items that leaves the store as it is -/
theorem for_pure {tg : PD → M Unit} {body : M TL.Flow} {ks : List Nat} {st : Sto} (n : Nat) (g : Nat → PD) (E : Nat → Env) (h : ∀ k, k < n → ∃ fl env1, aft (tg (g k)) body (E k) st = .ok fl env1 st ∧ (fl = .nx ∨ fl = .ct) ∧ killS ks env1 = E (k + 1)) :
    mForL tg body ks ((List.range n).map g) (E 0) st = .ok .nx (E n) st := by
  obtain ⟨env', st', e, k, hk, h1, h2, h3⟩ := for_run (tg := tg) (body := body) (ks := ks) (fun rem env st' => ∃ k, k ≤ n ∧ rem = ((List.range n).map g).drop k ∧ env = E k ∧ st' = st) (fun x xs env st' hI => by
    obtain ⟨k, hk, e1, rfl, rfl⟩ := hI
    have hl : k < n := by
      by_cases hl : k < n
      · exact hl
      · rw [List.drop_eq_nil_of_le (by simp; omega)] at e1; cases e1
    have hl2 : k < ((List.range n).map g).length := by simpa using hl
    rw [List.drop_eq_getElem_cons hl2] at e1
    cases e1
    obtain ⟨fl, env1, e2, hf, e3⟩ := h k hl
    exact ⟨fl, env1, _, by simpa using e2, hf, k + 1, hl, rfl, e3, rfl⟩) _ _ st ⟨0, Nat.zero_le _, rfl, rfl, rfl⟩
  have hkn : k = n := by
    have := congrArg List.length h1
    simp at this; omega
  subst hkn h2 h3
  exact e
section
variable {env : Env} {st : Sto}
@[simp] theorem ap_SlV (i : Nat) (ml mh : M (Option Int)) : mSlV i ml mh env st = Res.th (mView i env st) fun _ => bnd ml fun l => bnd mh fun h => bnd (mView i) fun a => opt (pySl a l h) := ap_bnd ..
@[simp] theorem ap_Sl (m : M PD) (ml mh : M (Option Int)) : mSl m ml mh env st = Res.th (m env st) fun a => bnd ml fun l => bnd mh fun h => opt (pySl a l h) := ap_bnd ..
end
/-! ### lists of ints -/
abbrev iL (ns : List Int) : List PD := ns.map PyData.int
theorem sh_ints (n : Nat) : ∀ ns : List Int, shs n (iL ns) = true
  | [] => by simp [shs]
  | x :: xs => by
    have := sh_ints n xs
    cases n <;> simp [shs, sh] at this ⊢ <;> exact this
theorem alikes_ints (ns : List Int) : alikes (iL ns) = true := by
  unfold alikes
  simp [PySem.W.alike, pyIsNone]
def minZ : List Int → Int
  | [] => 0
  | n :: ns => ns.foldl min n
theorem foldl_min_le : ∀ (ns : List Int) (n : Int), ns.foldl min n ≤ n ∧ ∀ x ∈ ns, ns.foldl min n ≤ x
  | [], n => ⟨Int.le_refl _, fun x hx => absurd hx (by simp)⟩
  | m :: ns, n => by
    obtain ⟨h1, h2⟩ := foldl_min_le ns (min n m)
    rw [List.foldl_cons]
    refine ⟨by omega, fun x hx => ?_⟩
    rcases List.mem_cons.mp hx with e | e
    · subst e; omega
    · exact h2 x e
theorem foldl_min_mem : ∀ (ns : List Int) (n : Int), ns.foldl min n ∈ n :: ns
  | [], n => by simp
  | m :: ns, n => by
    rw [List.foldl_cons]
    rcases List.mem_cons.mp (foldl_min_mem ns (min n m)) with e | e
    · rw [e]
      by_cases h : n ≤ m
      · rw [Int.min_eq_left h]; simp
      · rw [Int.min_eq_right (by omega)]; simp
    · exact List.mem_cons_of_mem _ (List.mem_cons_of_mem _ e)
theorem minZ_mem {ns : List Int} (h : ns ≠ []) : minZ ns ∈ ns := by
  cases ns with
  | nil => exact absurd rfl h
  | cons n ns => exact foldl_min_mem ns n
theorem minZ_le {ns : List Int} {x : Int} (h : x ∈ ns) : minZ ns ≤ x := by
  cases ns with
  | nil => simp at h
  | cons n ns =>
    obtain ⟨h1, h2⟩ := foldl_min_le ns n
    rcases List.mem_cons.mp h with e | e
    · rw [e]; exact h1
    · exact h2 x e
theorem min_ints {ns : List Int} (h : ns ≠ []) : pyMin [.list (iL ns)] = some (.int (minZ ns)) := by
  cases ns with
  | nil => exact absurd rfl h
  | cons n ns =>
    have e : pyMin [.list (iL (n :: ns))] = if alikes (iL (n :: ns)) = true ∧ shs 60 (iL (n :: ns)) = true then some (PySem.W.minD (.int n) (iL ns)) else none := rfl
    rw [e, if_pos ⟨alikes_ints _, sh_ints 60 _⟩, PySem.W.minD_ints]
    rfl
def sortZ (ns : List Int) : List Int := ns.mergeSort fun a b => decide (a ≤ b)
theorem sortD_ints (ns : List Int) : sortD (iL ns) = iL (sortZ ns) := by
  unfold sortD sortZ
  have := List.map_mergeSort (r := fun a b : Int => decide (a ≤ b)) (s := leD) (f := PyData.int) (l := ns) (fun a _ b _ => by
    have := congrFun (congrFun (PySem.W.dataLe_int (fun b : Int => b)) a) b
    exact this.symm)
  exact this.symm
theorem sortB_ints (ns : List Int) : sortB (iL ns) = true := by
  unfold sortB
  rw [Bool.or_eq_true]
  right
  simp [pyIsNone, isTup]
theorem sortable_ints {ns : List Int} (h : ns.length ≤ 1000000) : sortable (iL ns) = true := by
  unfold sortable
  rw [alikes_ints, sh_ints, sortB_ints]
  simp [h]
theorem sort_ints {ns : List Int} (h : ns.length ≤ 1000000) : pySorted [.list (iL ns)] = some (.list (iL (sortZ ns))) := by
  have e : pySorted [.list (iL ns)] = if sortable (iL ns) = true then some (.list (sortD (iL ns))) else none := rfl
  rw [e, if_pos (sortable_ints h), sortD_ints]
theorem sort_intsT {ns : List Int} (h : ns.length ≤ 1000000) : pySorted [.tuple (iL ns)] = some (.list (iL (sortZ ns))) := by
  have e : pySorted [.tuple (iL ns)] = if sortable (iL ns) = true then some (.list (sortD (iL ns))) else none := rfl
  rw [e, if_pos (sortable_ints h), sortD_ints]
theorem sortZ_perm (ns : List Int) : (sortZ ns).Perm ns := List.mergeSort_perm ..
theorem sortZ_asc (ns : List Int) : (sortZ ns).Pairwise (· ≤ ·) := by
  have := List.pairwise_mergeSort (le := fun a b : Int => decide (a ≤ b)) (fun a b c h1 h2 => by simp at *; omega) (fun a b => by simp; omega) ns
  exact this.imp fun h => by simpa using h
theorem eqvAll_ints : ∀ a b : List Int, PyData.eqvAll (iL a) (iL b) = decide (a = b)
  | [], [] => rfl
  | [], _ :: _ => by simp [PyData.eqvAll]
  | _ :: _, [] => by simp [PyData.eqvAll]
  | x :: a, y :: b => by
    have := eqvAll_ints a b
    simp only [iL, List.map_cons, PyData.eqvAll, PyData.eqv] at this ⊢
    rw [this]
    by_cases h1 : x = y <;> by_cases h2 : a = b <;> simp [h1, h2]
theorem sh_list {ns : List Int} : sh 60 (.list (iL ns)) = true := sh_ints 59 ns
theorem sh_tuple {ns : List Int} : sh 60 (.tuple (iL ns)) = true := sh_ints 59 ns
theorem ne_lists (a b : List Int) : pyNe (.list (iL a)) (.list (iL b)) = some (!decide (a = b)) := by
  have e : pyEq (.list (iL a)) (.list (iL b)) = if sh 60 (.list (iL a)) = true ∧ sh 60 (.list (iL b)) = true then some (PyData.eqv (.list (iL a)) (.list (iL b))) else none := rfl
  unfold pyNe
  rw [e, if_pos ⟨sh_list, sh_list⟩]
  have : PyData.eqv (.list (iL a)) (.list (iL b)) = decide (a = b) := by rw [← eqvAll_ints]; rfl
  rw [this]; rfl
theorem any_int (x : Int) : ∀ ns : List Int, ((iL ns).any fun y => PyData.eqv y (.int x)) = decide (x ∈ ns)
  | [] => rfl
  | n :: ns => by
    have := any_int x ns
    simp only [iL, List.map_cons, List.any_cons] at this ⊢
    rw [this]
    by_cases h : x = n
    · subst h; simp [PyData.eqv]
    · simp [PyData.eqv, h, Ne.symm h]
theorem in_tuple (x : Int) (ns : List Int) : pyIn (.int x) (.tuple (iL ns)) = some (decide (x ∈ ns)) := by
  have e : pyIn (.int x) (.tuple (iL ns)) = if sh 60 (.int x) = true ∧ shs 60 (iL ns) = true then some ((iL ns).any fun y => PyData.eqv y (.int x)) else none := rfl
  rw [e, if_pos ⟨rfl, sh_ints 60 ns⟩]
  rw [any_int]
theorem notin_tuple (x : Int) (ns : List Int) : pyNotIn (.int x) (.tuple (iL ns)) = some (!decide (x ∈ ns)) := by
  unfold pyNotIn; rw [in_tuple]; rfl
theorem small_of {i : Int} (h1 : -1000000000 ≤ i) (h2 : i ≤ 1000000000) : small62 i = true := by
  exact cl_t ⟨by omega, by omega⟩
theorem rg2_s {i j : Int} (h1 : -1000000000 ≤ i) (h2 : i ≤ 1000000000) (h3 : -1000000000 ≤ j) (h4 : j ≤ 1000000000) : rg2 [.int i, .int j] = some (rgD i (j - i).toNat) := if_pos ⟨small_of h1 h2, small_of h3 h4⟩
theorem rg1_s {j : Int} (h3 : -1000000000 ≤ j) (h4 : j ≤ 1000000000) : rg1 [.int j] = some (rgD 0 j.toNat) := if_pos (small_of h3 h4)
theorem asc_step {xs : List Int} (h : ∀ k, k + 1 < xs.length → xs.getD k 0 < xs.getD (k + 1) 0) : ∀ i j, i < j → j < xs.length → xs.getD i 0 < xs.getD j 0 := fun i j hij hj => by
  induction j with
  | zero => omega
  | succ j ih =>
    have h1 := h j hj
    rcases Nat.lt_or_eq_of_le (Nat.le_of_lt_succ hij) with z | z
    · have := ih z (by omega); omega
    · subst z; exact h1
theorem pairwise_getD {xs : List Int} : xs.Pairwise (· < ·) ↔ ∀ i j, i < j → j < xs.length → xs.getD i 0 < xs.getD j 0 := by
  rw [List.pairwise_iff_getElem]
  constructor
  · intro h i j hij hj
    rw [List.getD_eq_getElem?_getD, List.getD_eq_getElem?_getD, List.getElem?_eq_getElem hj, List.getElem?_eq_getElem (by omega : i < xs.length)]
    exact h i j (by omega) hj hij
  · intro h i j hi hj hij
    have := h i j hij hj
    rw [List.getD_eq_getElem?_getD, List.getD_eq_getElem?_getD, List.getElem?_eq_getElem hj, List.getElem?_eq_getElem hi] at this
    exact this
theorem sortU_id {xs : List Int} : sortU xs = xs ↔ xs.Pairwise (· < ·) :=
  ⟨fun e => by rw [← e]; exact sortU_asc xs, fun h => asc_ext _ _ (sortU_asc xs) h fun k => mem_sortU k xs⟩
theorem ix_ti {xs : List Int} {k : Nat} (h : k < xs.length) : pyIx (.tuple (iL xs)) (.int (k : Int)) = some (.int (xs.getD k 0)) := by
  refine ix_t ?_
  rw [List.getElem?_map, List.getElem?_eq_getElem h]
  simp [h]
theorem ix_li {xs : List Int} {k : Nat} (h : k < xs.length) : pyIx (.list (iL xs)) (.int (k : Int)) = some (.int (xs.getD k 0)) := by
  refine ix_l ?_
  rw [List.getElem?_map, List.getElem?_eq_getElem h]
  simp [h]
theorem sortU_ints {ns : List Int} (h : ns.length ≤ 60) : sortUD (.tuple (iL ns)) = some (.list (iL (sortU ns))) := by
  simp only [sortUD, iL, intsOf_map, Option.bind_some, h, if_true]
@[simp] theorem eq_bb (a b : Bool) : pyEq (.bool a) (.bool b) = some (a == b) := rfl
@[simp] theorem ne_bb (a b : Bool) : pyNe (.bool a) (.bool b) = some (!(a == b)) := rfl
theorem alikeAll_ints : ∀ a b : List Int, PySem.W.alikeAll (iL a) (iL b) = true
  | [], _ => by simp [PySem.W.alikeAll]
  | _ :: _, [] => by simp [PySem.W.alikeAll]
  | x :: a, y :: b => by
    have := alikeAll_ints a b
    simp only [iL, List.map_cons, PySem.W.alikeAll, PySem.W.alike, Bool.true_and] at this ⊢
    exact this
abbrev tL (rs : List (List Int)) : List PD := rs.map fun r => .tuple (iL r)
theorem sh_tups : ∀ rs : List (List Int), shs 60 (tL rs) = true
  | [] => by simp [shs]
  | r :: rs => by
    have := sh_tups rs
    simp only [tL, List.map_cons, shs, Bool.and_eq_true] at this ⊢
    exact ⟨sh_tuple, this⟩
theorem alikes_tups (rs : List (List Int)) : alikes (tL rs) = true := by
  unfold alikes
  rw [Bool.and_eq_true, List.all_eq_true, List.all_eq_true]
  refine ⟨fun a ha => ?_, fun a ha => ?_⟩
  · rw [List.all_eq_true]
    intro b hb
    obtain ⟨r, _, rfl⟩ := List.mem_map.mp ha
    obtain ⟨r2, _, rfl⟩ := List.mem_map.mp hb
    exact alikeAll_ints r r2
  · obtain ⟨r, _, rfl⟩ := List.mem_map.mp ha
    rfl
theorem min_tups {rs : List (List Int)} (h : rs ≠ []) : ∃ r, r ∈ rs ∧ pyMin [.list (tL rs)] = some (.tuple (iL r)) := by
  cases rs with
  | nil => exact absurd rfl h
  | cons r rs =>
    have e : pyMin [.list (tL (r :: rs))] = if alikes (tL (r :: rs)) = true ∧ shs 60 (tL (r :: rs)) = true then some (PySem.W.minD (.tuple (iL r)) (tL rs)) else none := rfl
    rw [e, if_pos ⟨alikes_tups _, sh_tups _⟩]
    obtain ⟨r2, h1, h2⟩ := List.mem_map.mp (show PySem.W.minD (.tuple (iL r)) (tL rs) ∈ tL (r :: rs) from minD_mem _ _)
    exact ⟨r2, h1, by rw [h2]⟩
/-! ### what a script is made of -/
def HandOk (st : Sto) : Prop := ∃ (cs : List Int) (ix : Nat) (c2 c3 c4 : Int), st = [.l [.list (cs.map PyData.int), .int ix, .int c2, .int c3, .int c4]]
section
variable (a b c d e x : PD)
theorem hd0 : pyIx (.list [a, b, c, d, e]) (.int 0) = some a := ix_l (k := 0) rfl
theorem hd1 : pyIx (.list [a, b, c, d, e]) (.int 1) = some b := ix_l (k := 1) rfl
theorem hd2 : pyIx (.list [a, b, c, d, e]) (.int 2) = some c := ix_l (k := 2) rfl
theorem hd3 : pyIx (.list [a, b, c, d, e]) (.int 3) = some d := ix_l (k := 3) rfl
theorem hd4 : pyIx (.list [a, b, c, d, e]) (.int 4) = some e := ix_l (k := 4) rfl
theorem hs1 : fStore (.int 1) x [a, b, c, d, e] = some ((), [a, x, c, d, e]) := rfl
theorem hs2 : fStore (.int 2) x [a, b, c, d, e] = some ((), [a, b, x, d, e]) := rfl
theorem hs3 : fStore (.int 3) x [a, b, c, d, e] = some ((), [a, b, c, x, e]) := rfl
theorem hs4 : fStore (.int 4) x [a, b, c, d, e] = some ((), [a, b, c, d, x]) := rfl
end
theorem mul_mod {i k j : Int} (h : 0 < k) (h2 : k ≤ 2 ^ 64) : pyMul (.int (i % k)) (.int j) = some (.int (i % k * j)) := by
  have h3 := Int.emod_nonneg i (show k ≠ 0 by omega)
  have h4 := Int.emod_lt_of_pos i h
  exact mul_l (by omega) (by omega)
theorem pow18 : pyPow (.int 10) (.int 18) = some (.int 1000000000000000000) := by rfl
end TL

set_option maxHeartbeats 4000000
namespace TL.Law
open PySem PySem.Spec L2
open PyProof.Rows hiding St
noncomputable def m__law_hand : M Flow :=
  (mSeq (mSet 1 (mFz (mComp [2] (mItems (mSlS 0 mNoPart (mPart (mC (.int 63))))) (tgN 2) mYes (mCallB pyAbs (mCons (mCallB pyInt (mCons (mView 2) mNil)) mNil)))))
  (mRetL (mCons (mVar 1) (mCons (mC (.int 0)) (mCons (mC (.int 0)) (mCons (mBin pyAdd (mC (.int 83)) (mBin pyMul (mC (.int 5)) (mCallB pyLen (mCons (mView 1) mNil)))) (mCons (mC (.int 0)) mNil)))))))
noncomputable def f__law_hand : Sem1 := runFn 3 1 m__law_hand

noncomputable def m_is_integer : M Flow :=
  (mRet ((mAndV (mIsA "int" (mVar 0)) (mV (mNot (mB (mIsA "bool" (mVar 0))))))))
noncomputable def f_is_integer : Sem1 := runFn 1 1 m_is_integer

noncomputable def m_is_within : M Flow :=
  (mRet ((mAndV (mD (mCall f_is_integer (mCons (mAg (mVar 0)) mNil))) (mV (mChain pyLe pyLe (mVar 1) (mVar 0) (mVar 2))))))
noncomputable def f_is_within : Sem1 := runFn 3 3 m_is_within

noncomputable def m_check_number : M Flow :=
  (mIf (mNot (mT (mD (mCall f_is_within (mCons (mAg (mVar 0)) (mCons (mAg (mVar 1)) (mCons (mAg (mVar 2)) mNil)))))))
  (mNever)
  mPass)
noncomputable def f_check_number : Sem1 := runFn 3 3 m_check_number

noncomputable def m_is_sized : M Flow :=
  (mRet ((mAndV (mIsA "tuple" (mVar 0)) (mV (mChain pyLe pyLe (mVar 1) (mCallB pyLen (mCons (mView 0) mNil)) (mVar 2))))))
noncomputable def f_is_sized : Sem1 := runFn 3 3 m_is_sized

noncomputable def m_apart : M Flow :=
  (mSeq (mDrop (mCall f_check_number (mCons (mAg (mVar 1)) (mCons (mAg (mC (.int 2))) (mCons (mAg (mC (.int 360))) mNil)))))
  (mSeq (mIf ((mOr (mNot (mT (mD (mCall f_is_sized (mCons (mAg (mVar 0)) (mCons (mAg (mC (.int 2))) (mCons (mAg (mC (.int 8))) mNil))))))) (mNot (mT (mCallB pyAll (mCons (mFz (mComp [4] (mItems (mVar 0)) (tgN 4) mYes (mD (mCall f_is_within (mCons (mAg (mVar 4)) (mCons (mAg (mC (.int 0))) (mCons (mAg (mBin pySub (mVar 1) (mC (.int 1)))) mNil))))))) mNil))))))
  (mNever)
  mPass)
  (mSeq (mSetO 2 (mOLst mNil))
  (mSeq (mFor (mEnum (mVar 0)) (tgTup 2 (tgCons (tgN 3) (tgCons (tgN 4) tgNil)))
  (mDrop (mAg (mExt 2 (mFz (mComp [5] (mItems (mSlV 0 mNoPart (mPart (mVar 3)))) (tgN 5) mYes (mCallB pyMin (mCons (mBin pyMod (mBin pySub (mVar 4) (mVar 5)) (mVar 1)) (mCons (mBin pyMod (mBin pySub (mVar 5) (mVar 4)) (mVar 1)) mNil)))))))) [3, 4])
  (mRet (mCallB pyMin (mCons (mView 2) mNil)))))))
noncomputable def f_apart : Sem1 := runFn 6 2 m_apart

noncomputable def m__law_draw : M Flow :=
  (mSeq (mIf ((mAnd (mCmp pyEq (mIxV 0 (mC (.int 2))) (mC (.int 0))) (mCmp pyLt (mIxV 0 (mC (.int 1))) (mCallB pyLen (mCons (mIxV 0 (mC (.int 0))) mNil)))))
  (mSeq (mSet 2 (mIx (mIxV 0 (mC (.int 0))) (mIxV 0 (mC (.int 1)))))
  (mSeq (mStore 0 (mC (.int 1)) (mBin pyAdd (mIxV 0 (mC (.int 1))) (mC (.int 1))))
  (mSeq (mStore 0 (mC (.int 3)) (mBin pyMod (mCallB pyInt (mCons (mBin pyAdd (mBin pyAdd (mBin pyMul (mIxV 0 (mC (.int 3))) (mC (.int 48271))) (mBin pyMul (mVar 2) (mC (.int 5)))) (mC (.int 29))) mNil)) (mC (.int 2147483587))))
  (mStore 0 (mC (.int 2)) (mIf (mCmp pyGe (mVar 2) (mBin pyPow (mC (.int 10)) (mC (.int 18)))) (mVar 2) (mC (.int 0)))))))
  mPass)
  (mSeq (mIf (mCmp pyGt (mIxV 0 (mC (.int 2))) (mC (.int 0)))
  (mSeq (mSet 3 (mBin pyMod (mCallB pyInt (mCons (mIxV 0 (mC (.int 2))) mNil)) (mVar 1)))
  (mSeq (mStore 0 (mC (.int 2)) (mBin pyFdiv (mIxV 0 (mC (.int 2))) (mVar 1)))
  (mRet (mVar 3))))
  mPass)
  (mSeq (mStore 0 (mC (.int 4)) (mBin pyAdd (mIxV 0 (mC (.int 4))) (mC (.int 1))))
  (mSeq (mSet 4 (mBin pyMod (mCallB pyInt (mCons (mBin pyMul (mCallB pyInt (mCons (mBin pyAdd (mIxV 0 (mC (.int 3))) (mBin pyMul (mC (.int 7877)) (mIxV 0 (mC (.int 4))))) mNil)) (mC (.int 69621))) mNil)) (mC (.int 2147483647))))
  (mSeq (mSet 4 (mBin pyMod (mCallB pyInt (mCons (mBin pyMul (mVar 4) (mBin pyAdd (mBin pyFdiv (mVar 4) (mC (.int 1103))) (mC (.int 40692)))) mNil)) (mC (.int 2147483399))))
  (mSeq (mSet 4 (mBin pyMod (mCallB pyInt (mCons (mBin pyMul (mVar 4) (mBin pyAdd (mBin pyFdiv (mVar 4) (mC (.int 2311))) (mC (.int 48271)))) mNil)) (mC (.int 2147483629))))
  (mRet (mBin pyMod (mCallB pyInt (mCons (mBin pyFdiv (mVar 4) (mC (.int 16))) mNil)) (mVar 1)))))))))
noncomputable def f__law_draw : Sem1 := runFn 5 2 m__law_draw

noncomputable def m_best_angles : M Flow :=
  (mSeq (mDrop (mCall f_check_number (mCons (mAg (mVar 0)) (mCons (mAg (mC (.int 2))) (mCons (mAg (mC (.int 5))) mNil)))))
  (mSeq (mDrop (mCall f_check_number (mCons (mAg (mVar 1)) (mCons (mAg (mVar 0)) (mCons (mAg (mC (.int 90))) mNil)))))
  (mSeq (mDrop (mCall f_check_number (mCons (mAg (mVar 2)) (mCons (mAg (mC (.int 0))) (mCons (mAg (mBin pySub (mVar 1) (mC (.int 1)))) mNil)))))
  (mSeq (mSet 3 (mBin pyFdiv (mVar 1) (mVar 0)))
  (mSeq (mSetO 4 (mOLst (mCons (mCallB pyTuple (mCons (mCallB pySorted (mCons (mFz (mComp [8] (mRg1 (mCons (mVar 0) mNil)) (tgN 8) mYes (mBin pyMod (mBin pyAdd (mVar 2) (mBin pyMul (mVar 8) (mVar 3))) (mVar 1)))) mNil)) mNil)) mNil)))
  (mSeq (mFor (mRg1 (mCons (mBin pyAdd (mBin pySub (mVar 1) (mBin pyMul (mVar 0) (mVar 3))) (mC (.int 1))) mNil)) (tgN 5)
  (mDrop (mAg (mApp 4 (mCallB pyTuple (mCons (mCallB pySorted (mCons (mFz (mComp [8] (mRg1 (mCons (mVar 0) mNil)) (tgN 8) mYes (mBin pyMod (mBin pyAdd (mBin pyAdd (mVar 2) (mBin pyMul (mVar 8) (mVar 3))) (mBin pyMul (mVar 5) (mCallB pyInt (mCons (mV (mCmp pyGt (mVar 8) (mC (.int 0)))) mNil)))) (mVar 1)))) mNil)) mNil))))) [5])
  (mSeq (mSet 6 (mFz (mComp [7] (mItems (mVar 4)) (tgN 7) (mCmp pyEq (mD (mCall f_apart (mCons (mAg (mVar 7)) (mCons (mAg (mVar 1)) mNil)))) (mVar 3)) (mVar 7))))
  (mRet (mCallB pyMin (mCons (mView 6) mNil))))))))))
noncomputable def f_best_angles : Sem1 := runFn 9 3 m_best_angles

noncomputable def m__law_apart : M Flow :=
  (mSeq (mSet 2 (mCallB pySorted (mCons (mView 0) mNil)))
  (mSeq (mSet 3 (mBin pyAdd (mFz (mComp [4, 5] (mZip (mVar 2) (mSlV 2 (mPart (mC (.int 1))) mNoPart)) (tgTup 2 (tgCons (tgN 4) (tgCons (tgN 5) tgNil))) mYes (mBin pySub (mVar 5) (mVar 4)))) (mLst (mCons (mBin pySub (mBin pyAdd (mIxV 2 (mC (.int 0))) (mVar 1)) (mIxV 2 (mNeg (mC (.int 1))))) mNil))))
  (mRet (mCallB pyMin (mCons (mView 3) mNil)))))
noncomputable def f__law_apart : Sem1 := runFn 6 2 m__law_apart

noncomputable def m__law_is_int : M Flow :=
  (mSeq (mIf (mNot (mT (mIsA "int" (mVar 0))))
  (mRet (mC (.bool false)))
  mPass)
  (mSeq (mIf (mT (mIsA "bool" (mVar 0)))
  (mRet (mC (.bool false)))
  mPass)
  (mRet (mV (mChain pyLe pyLe (mVar 1) (mVar 0) (mVar 2))))))
noncomputable def f__law_is_int : Sem1 := runFn 3 3 m__law_is_int

noncomputable def m__law_are_best : M Flow :=
  (mSeq (mIf (mNot (mT (mIsA "tuple" (mVar 3))))
  (mRet (mC (.bool false)))
  mPass)
  (mSeq (mIf (mCmp pyNe (mCallB pyLen (mCons (mView 3) mNil)) (mVar 0))
  (mRet (mC (.bool false)))
  mPass)
  (mSeq (mIf (mNot (mT (mCallB pyAll (mCons (mFz (mComp [4] (mItems (mVar 3)) (tgN 4) mYes (mD (mCall f__law_is_int (mCons (mAg (mVar 4)) (mCons (mAg (mC (.int 0))) (mCons (mAg (mBin pySub (mVar 1) (mC (.int 1)))) mNil))))))) mNil))))
  (mRet (mC (.bool false)))
  mPass)
  (mSeq (mIf ((mOr (mCmp pyNe (mCallB pyList (mCons (mView 3) mNil)) (mSortSet (mVar 3))) (mCmp pyNotIn (mVar 2) (mVar 3))))
  (mRet (mC (.bool false)))
  mPass)
  (mRet (mV (mCmp pyEq (mD (mCall f__law_apart (mCons (mAg (mVar 3)) (mCons (mAg (mVar 1)) mNil)))) (mBin pyFdiv (mVar 1) (mVar 0)))))))))
noncomputable def f__law_are_best : Sem1 := runFn 5 4 m__law_are_best

noncomputable def m_is_tuple : M Flow :=
  (mRet ((mAndV (mIsA "tuple" (mVar 0)) (mV (mCmp pyEq (mCallB pyLen (mCons (mView 0) mNil)) (mVar 1))))))
noncomputable def f_is_tuple : Sem1 := runFn 2 2 m_is_tuple

noncomputable def m_are_best : M Flow :=
  (mSeq (mDrop (mCall f_check_number (mCons (mAg (mVar 0)) (mCons (mAg (mC (.int 2))) (mCons (mAg (mC (.int 5))) mNil)))))
  (mSeq (mDrop (mCall f_check_number (mCons (mAg (mVar 1)) (mCons (mAg (mVar 0)) (mCons (mAg (mC (.int 90))) mNil)))))
  (mSeq (mDrop (mCall f_check_number (mCons (mAg (mVar 2)) (mCons (mAg (mC (.int 0))) (mCons (mAg (mBin pySub (mVar 1) (mC (.int 1)))) mNil)))))
  (mSeq (mIf ((mOr (mNot (mT (mD (mCall f_is_tuple (mCons (mAg (mVar 3)) (mCons (mAg (mVar 0)) mNil)))))) (mNot (mT (mCallB pyAll (mCons (mFz (mComp [4] (mItems (mVar 3)) (tgN 4) mYes (mD (mCall f_is_within (mCons (mAg (mVar 4)) (mCons (mAg (mC (.int 0))) (mCons (mAg (mBin pySub (mVar 1) (mC (.int 1)))) mNil))))))) mNil))))))
  (mRet (mC (.bool false)))
  mPass)
  (mSeq (mIf ((mOr (mCmp pyNotIn (mVar 2) (mVar 3)) (mNot (mT (mCallB pyAll (mCons (mFz (mComp [5] (mRg2 (mCons (mC (.int 1)) (mCons (mVar 0) mNil))) (tgN 5) mYes (mV (mCmp pyLt (mIxV 3 (mBin pySub (mVar 5) (mC (.int 1)))) (mIxV 3 (mVar 5)))))) mNil))))))
  (mRet (mC (.bool false)))
  mPass)
  (mRet (mV (mCmp pyEq (mD (mCall f_apart (mCons (mAg (mVar 3)) (mCons (mAg (mVar 1)) mNil)))) (mBin pyFdiv (mVar 1) (mVar 0))))))))))
noncomputable def f_are_best : Sem1 := runFn 6 4 m_are_best

noncomputable def m__law_some : M Flow :=
  (mRet (mIxV 1 (mD (mCall f__law_draw (mCons (mName 0) (mCons (mAg (mCallB pyLen (mCons (mView 1) mNil))) mNil))))))
noncomputable def f__law_some : Sem1 := runFn 2 2 m__law_some

noncomputable def m__law_deep : M Flow :=
  (mSeq (mSet 1 (mD (mCall f__law_some (mCons (mName 0) (mCons (mAg (mLst (mCons (mC .none) (mCons (mC (.int 0)) (mCons (mC (.str (PySem.Str.ofString "a"))) mNil))))) mNil)))))
  (mSeq (mFor (mRg1 (mCons (mBin pyAdd (mC (.int 5)) (mD (mCall f__law_draw (mCons (mName 0) (mCons (mAg (mC (.int 7))) mNil))))) mNil)) (tgN 2)
  (mSet 1 (mD (mCall f__law_some (mCons (mName 0) (mCons (mAg (mLst (mCons (mTup (mCons (mVar 1) mNil)) (mCons (mLst (mCons (mVar 1) mNil)) (mCons (mDisp (mC (.int 0)) (mVar 1)) mNil))))) mNil))))) [2])
  (mRet (mVar 1))))
noncomputable def f__law_deep : Sem1 := runFn 3 1 m__law_deep

noncomputable def m_law : M Flow :=
  (mSeq (mSetG 1 (mCall f__law_hand (mCons (mName 0) mNil)))
  (mSeq (mIf (mCmp pyNe (mD (mCall f_apart (mCons (mAg (mTup (mCons (mC (.int 0)) (mCons (mC (.int 30)) (mCons (mC (.int 75)) mNil))))) (mCons (mAg (mC (.int 90))) mNil)))) (mC (.int 15)))
  (mRet (mC (.bool false)))
  mPass)
  (mSeq (mIf (mCmp pyNe (mD (mCall f_apart (mCons (mAg (mTup (mCons (mC (.int 0)) (mCons (mC (.int 30)) (mCons (mC (.int 60)) mNil))))) (mCons (mAg (mC (.int 90))) mNil)))) (mC (.int 30)))
  (mRet (mC (.bool false)))
  mPass)
  (mSeq (mIf (mCmp pyNe (mD (mCall f_apart (mCons (mAg (mTup (mCons (mC (.int 5)) (mCons (mC (.int 80)) mNil)))) (mCons (mAg (mC (.int 90))) mNil)))) (mC (.int 15)))
  (mRet (mC (.bool false)))
  mPass)
  (mSeq (mFor (mRg1 (mCons (mC (.int 5)) mNil)) (tgN 2)
  (mSeq (mSet 3 (mBin pyAdd (mC (.int 2)) (mD (mCall f__law_draw (mCons (mName 1) (mCons (mAg (mC (.int 4))) mNil))))))
  (mSeq (mSet 4 (mBin pyAdd (mVar 3) (mD (mCall f__law_draw (mCons (mName 1) (mCons (mAg (mBin pySub (mC (.int 91)) (mVar 3))) mNil))))))
  (mSeq (mSet 5 (mD (mCall f__law_draw (mCons (mName 1) (mCons (mAg (mVar 4)) mNil)))))
  (mSeq (mSet 6 (mD (mCall f_best_angles (mCons (mAg (mVar 3)) (mCons (mAg (mVar 4)) (mCons (mAg (mVar 5)) mNil))))))
  (mSeq (mIf (mNot (mT (mD (mCall f__law_are_best (mCons (mAg (mVar 3)) (mCons (mAg (mVar 4)) (mCons (mAg (mVar 5)) (mCons (mAg (mCallB pyTuple (mCons (mView 6) mNil))) mNil))))))))
  (mRet (mC (.bool false)))
  mPass)
  (mSeq (mIf (mNot (mIsB true (mD (mCall f_are_best (mCons (mAg (mVar 3)) (mCons (mAg (mVar 4)) (mCons (mAg (mVar 5)) (mCons (mAg (mCallB pyTuple (mCons (mView 6) mNil))) mNil))))))))
  (mRet (mC (.bool false)))
  mPass)
  (mSeq (mIf (mCmp pyNe (mD (mCall f_apart (mCons (mAg (mCallB pyTuple (mCons (mView 6) mNil))) (mCons (mAg (mVar 4)) mNil)))) (mBin pyFdiv (mVar 4) (mVar 3)))
  (mRet (mC (.bool false)))
  mPass)
  (mSeq (mPar 7 8 (mOLst mNil) (mLRg (mVar 4)))
  (mSeq (mFor (mRg1 (mCons (mVar 3) mNil)) (tgN 9)
  (mDrop (mAg (mApp 7 (mPop 8 (mD (mCall f__law_draw (mCons (mName 1) (mCons (mAg (mCallB pyLen (mCons (mView 8) mNil))) mNil)))))))) [9])
  (mSeq (mSet 7 (mCallB pyTuple (mCons (mCallB pySorted (mCons (mView 7) mNil)) mNil)))
  (mSeq (mIf (mCmp pyNe (mD (mCall f_apart (mCons (mAg (mVar 7)) (mCons (mAg (mVar 4)) mNil)))) (mD (mCall f__law_apart (mCons (mAg (mVar 7)) (mCons (mAg (mVar 4)) mNil)))))
  (mRet (mC (.bool false)))
  mPass)
  (mSeq (mSet 10 (mBin pyFdiv (mVar 4) (mVar 3)))
  (mSeq (mSet 11 (mCallB pyTuple (mCons (mCallB pySorted (mCons (mFz (mComp [15] (mRg1 (mCons (mVar 3) mNil)) (tgN 15) mYes (mBin pyMod (mCallB pyInt (mCons (mBin pyAdd (mVar 5) (mBin pyMul (mVar 15) (mVar 10))) mNil)) (mVar 4)))) mNil)) mNil)))
  (mSeq (mSet 12 (mLst (mCons (mCallB pyTuple (mCons (mView 6) mNil)) (mCons (mVar 11) (mCons (mVar 7) (mCons (mSlV 11 (mPart (mC (.int 1))) mNoPart) (mCons (mBin pyAdd (mVar 11) (mTup (mCons (mVar 4) mNil))) (mCons (mCallB pyList (mCons (mView 11) mNil)) (mCons (mRev (mVar 11)) (mCons (mCallB pyTuple (mCons (mFz (mComp [9] (mItems (mVar 11)) (tgN 9) mYes (mBin pyAdd (mVar 9) (mC (.int 1))))) mNil)) (mCons (mBin pyMul (mTup (mCons (mC (.bool true)) mNil)) (mVar 3)) (mCons (mC .none) (mCons (mTup mNil) (mCons (mC (.int 0)) mNil))))))))))))))
  (mFor (mRg1 (mCons (mC (.int 8)) mNil)) (tgN 13)
  (mSeq (mSet 14 (mD (mCall f__law_some (mCons (mName 1) (mCons (mAg (mBin pyAdd (mVar 12) (mLst (mCons (mD (mCall f__law_deep (mCons (mName 1) mNil))) mNil)))) mNil)))))
  (mIf (mCmp pyNe (mD (mCall f_are_best (mCons (mAg (mVar 3)) (mCons (mAg (mVar 4)) (mCons (mAg (mVar 5)) (mCons (mAg (mVar 14)) mNil)))))) (mD (mCall f__law_are_best (mCons (mAg (mVar 3)) (mCons (mAg (mVar 4)) (mCons (mAg (mVar 5)) (mCons (mAg (mVar 14)) mNil)))))))
  (mRet (mC (.bool false)))
  mPass)) [13, 14]))))))))))))))) [2, 3, 4, 5, 6, 7, 8, 9, 10, 11, 12, 13, 14])
  (mRet (mC (.bool true))))))))
noncomputable def f_law : Sem1 := runFn 16 1 m_law

end TL.Law

namespace TL.Law
open PySem PySem.Spec L2
open PyProof.Rows hiding St
def isInt : PD → Bool
  | .int _ => true
  | _ => false
def within (d : PD) (a b : Int) : Bool := match d with
  | .int i => decide (a ≤ i) && decide (i ≤ b)
  | _ => false
theorem within_i (i a b : Int) : within (.int i) a b = (decide (a ≤ i) && decide (i ≤ b)) := rfl
theorem boolsOf_on {ι : Type} (f : ι → Bool) (is : List ι) : boolsOf (is.map fun i => PyData.bool (f i)) = some (is.map f) := by
  rw [← boolsOf_map, List.map_map]; rfl
theorem all_id {ι : Type} (f : ι → Bool) (is : List ι) : (is.map f).all id = is.all f := by
  rw [List.all_map]; rfl
theorem is_integer_s (d : PD) (st : Sto) : f_is_integer [.d d] st = .ret (.d (.bool (isInt d))) st := by
  unfold f_is_integer m_is_integer
  rw [ap_run]
  cases d <;> simp [isA, tyName, isInt]
theorem is_within_s (d : PD) (a b : Int) (st : Sto) : f_is_within [.d d, .d (.int a), .d (.int b)] st = .ret (.d (.bool (within d a b))) st := by
  unfold f_is_within m_is_within
  rw [ap_run]
  cases d <;> simp [is_integer_s, isInt, within]
  split
  · simp_all
  · simp_all; omega
theorem law_is_int_s (d : PD) (a b : Int) (st : Sto) : f__law_is_int [.d d, .d (.int a), .d (.int b)] st = .ret (.d (.bool (within d a b))) st := by
  unfold f__law_is_int m__law_is_int
  rw [ap_run]
  cases d <;> simp [isA, tyName, within]
  split
  · simp_all
  · simp_all; omega
theorem check_s {i a b : Int} (h1 : a ≤ i) (h2 : i ≤ b) (st : Sto) : f_check_number [.d (.int i), .d (.int a), .d (.int b)] st = .ret (.d .none) st := by
  unfold f_check_number m_check_number
  rw [ap_run]
  simp [is_within_s, within_i, h1, h2]
theorem is_tuple_s (ds : List PD) (n : Int) (st : Sto) : f_is_tuple [.d (.tuple ds), .d (.int n)] st = .ret (.d (.bool (decide ((ds.length : Int) = n)))) st := by
  unfold f_is_tuple m_is_tuple
  rw [ap_run]
  simp [isA, tyName]
theorem is_tuple_n {d : PD} (n : Int) (h : tyName d ≠ "tuple") (st : Sto) : f_is_tuple [.d d, .d (.int n)] st = .ret (.d (.bool false)) st := by
  unfold f_is_tuple m_is_tuple
  rw [ap_run]
  simp [isA, h]
theorem is_sized_s (ds : List PD) (a b : Int) (st : Sto) : f_is_sized [.d (.tuple ds), .d (.int a), .d (.int b)] st = .ret (.d (.bool (decide (a ≤ ds.length) && decide ((ds.length : Int) ≤ b)))) st := by
  unfold f_is_sized m_is_sized
  rw [ap_run]
  simp [isA, tyName]
  split
  · simp_all
  · simp_all; omega
theorem law_hand_s (ns : List Int) (h : ns.length ≤ 63) : ∃ st, f__law_hand [.raw (.scr ns)] [] = .ret (.mt 0) st ∧ HandOk st := by
  unfold f__law_hand m__law_hand
  rw [ap_run]
  have hc : cutD (ns.map PyData.int) none (some 63) = ns.map PyData.int := cut_whole (n := ns.length) (by simp) ⟨rfl, by rw [show (63 : Int) = ((63 : Nat) : Int) from rfl, HT.sIx_nat]; omega⟩
  simp
  rw [comp_on ns PyData.int (fun i => .int (if i < 0 then -i else i)) (by simp [pySl, hc]) (by omega) (fun i hi => ⟨_, by simp; rfl, by simp⟩) (by simp [Sl.isOwn])]
  simp [mul_l]
  exact ⟨ns.map fun i => if i < 0 then -i else i, 0, 0, _, 0, by rw [List.map_map]; rfl⟩
theorem draw_s {st : Sto} (h : HandOk st) {m : Int} (h1 : 0 < m) (h2 : m < 1073741824) : ∃ r st', f__law_draw [.mt 0, .d (.int m)] st = .ret (.d (.int r)) st' ∧ 0 ≤ r ∧ r < m ∧ HandOk st' := by
  obtain ⟨cs, ix, c2, c3, c4, rfl⟩ := h
  unfold f__law_draw m__law_draw
  rw [ap_run]
  have fin : ∀ (x : Int) (cs : List Int) (ix : Int) (c2 c3 c4 : Int), 0 ≤ ix → ∃ (r : Int) (st' : Sto), (x % m = r ∧ [SE.l [.list (cs.map PyData.int), .int ix, .int c2, .int c3, .int c4]] = st') ∧ 0 ≤ r ∧ r < m ∧ HandOk st' := fun x cs ix c2 c3 c4 h =>
    ⟨_, _, ⟨rfl, rfl⟩, Int.emod_nonneg _ (by omega), Int.emod_lt_of_pos _ h1, cs, ix.toNat, c2, c3, c4, by rw [show ((ix.toNat : Nat) : Int) = ix by omega]⟩
  by_cases hc : c2 = 0
  · subst hc
    by_cases hx : ix < cs.length
    · have hg : pyIx (.list (cs.map PyData.int)) (.int (ix : Int)) = some (.int cs[ix]) := ix_l (by rw [List.getElem?_map, List.getElem?_eq_getElem hx]; rfl)
      by_cases hb : (1000000000000000000 : Int) ≤ cs[ix]
      · have hp : 0 < cs[ix] := by omega
        simp [hd0, hd1, hd2, hd3, hd4, hs1, hs2, hs3, hs4, hx, hg, hb, hp, mod_pos, mul_r, mul_l, mul_mod, fdiv_pos, pow18, h1, h2]
        exact fin _ cs _ _ _ _ (by omega)
      · simp [hd0, hd1, hd2, hd3, hd4, hs1, hs2, hs3, hs4, hx, hg, hb, mod_pos, mul_r, mul_l, mul_mod, fdiv_pos, pow18, h1, h2]
        exact fin _ cs _ _ _ _ (by omega)
    · simp [hd0, hd1, hd2, hd3, hd4, hs1, hs2, hs3, hs4, hx, mod_pos, mul_r, mul_l, mul_mod, fdiv_pos, pow18, h1, h2]
      exact fin _ cs _ _ _ _ (by omega)
  · by_cases hp : 0 < c2
    · simp [hd0, hd1, hd2, hd3, hd4, hs1, hs2, hs3, hs4, hc, hp, mod_pos, mul_r, mul_l, mul_mod, fdiv_pos, pow18, h1, h2]
      exact fin _ cs _ _ _ _ (by omega)
    · simp [hd0, hd1, hd2, hd3, hd4, hs1, hs2, hs3, hs4, hc, hp, mod_pos, mul_r, mul_l, mul_mod, fdiv_pos, pow18, h1, h2]
      exact fin _ cs _ _ _ _ (by omega)
theorem some_s {st : Sto} (h : HandOk st) (ds : List PD) (h0 : ds ≠ []) (h1 : ds.length < 1000) : ∃ d st', f__law_some [.mt 0, .d (.list ds)] st = .ret (.d d) st' ∧ d ∈ ds ∧ HandOk st' := by
  have hl : 0 < ds.length := List.length_pos_iff.mpr h0
  obtain ⟨r, st', e, h2, h3, h4⟩ := draw_s h (m := ds.length) (by omega) (by omega)
  obtain ⟨k, rfl⟩ : ∃ k : Nat, r = k := ⟨r.toNat, by omega⟩
  have hk : k < ds.length := by omega
  unfold f__law_some m__law_some
  rw [ap_run]
  simp [e, ix_l (List.getElem?_eq_getElem hk)]
  exact ⟨_, _, ⟨rfl, rfl⟩, List.getElem_mem hk, h4⟩
def OneLong (d : PD) : Prop := ∀ ds, d = .tuple ds → ds.length = 1
theorem deep_s {st : Sto} (h : HandOk st) : ∃ d st', f__law_deep [.mt 0] st = .ret (.d d) st' ∧ OneLong d ∧ HandOk st' := by
  unfold f__law_deep m__law_deep
  rw [ap_run]
  obtain ⟨d0, st1, e1, h1, h2⟩ := some_s h [.none, .int 0, .str (Str.ofString "a")] (by simp) (by simp)
  obtain ⟨r, st2, e2, h3, h4, h5⟩ := draw_s h2 (m := 7) (by omega) (by omega)
  have o0 : OneLong d0 := fun ds e => by subst e; simp at h1
  have hr : small62 (5 + r) = true := small_of (by omega) (by omega)
  simp [e1, e2, rg1, hr]
  obtain ⟨env', st', e3, i3⟩ := for_run (tg := tgN 2) (ks := [2]) (body := mSet 1 (mD (mCall f__law_some (mCons (mName 0) (mCons (mAg (mLst (mCons (mTup (mCons (mVar 1) mNil)) (mCons (mLst (mCons (mVar 1) mNil)) (mCons (mDisp (mC (.int 0)) (mVar 1)) mNil))))) mNil)))))
    (fun _ env st => ∃ d, env = [.mt 0, .v d, .un] ∧ OneLong d ∧ HandOk st) (fun x xs env st hI => by
      obtain ⟨d, rfl, o, hh⟩ := hI
      obtain ⟨d1, st1, e1, h1, h2⟩ := some_s hh [.tuple [d], .list [d], .dict [(.int 0, d)]] (by simp) (by simp)
      refine ⟨.nx, [.mt 0, .v d1, .v x], st1, by simp [e1], .inl rfl, d1, rfl, fun ds e => ?_, h2⟩
      subst e
      simp at h1
      rw [h1]; rfl) (rgD 0 (5 + r).toNat) [.mt 0, .v d0, .un] st2 ⟨d0, rfl, o0, h5⟩
  obtain ⟨d, rfl, o, hh⟩ := i3
  rw [e3]
  simp
  exact ⟨d, st', ⟨rfl, rfl⟩, o, hh⟩
/-! ### apart -/
def pairD (by' a b : Int) : Int := if (b - a) % by' < (a - b) % by' then (b - a) % by' else (a - b) % by'
/-- what stands in gaps after k turns -/
def gapsK (xs : List Int) (by' : Int) : Nat → List Int
  | 0 => []
  | k + 1 => gapsK xs by' k ++ (xs.take k).map (pairD by' (xs.getD k 0))
theorem gapsK_len (xs : List Int) (by' : Int) : ∀ k, k ≤ 8 → (gapsK xs by' k).length ≤ 64
  | 0, _ => by simp [gapsK]
  | 1, _ => by simp [gapsK]
  | 2, _ => by simp [gapsK]; omega
  | 3, _ => by simp [gapsK]; omega
  | 4, _ => by simp [gapsK]; omega
  | 5, _ => by simp [gapsK]; omega
  | 6, _ => by simp [gapsK]; omega
  | 7, _ => by simp [gapsK]; omega
  | 8, _ => by simp [gapsK]; omega
  | k + 9, h => by omega
theorem gapsK_ne (xs : List Int) (by' : Int) : ∀ k, k ≤ xs.length → 2 ≤ k → gapsK xs by' k ≠ []
  | 0, _, h => by omega
  | 1, _, h => by omega
  | 2, h, _ => by
    intro e
    have := congrArg List.length e
    simp [gapsK] at this
    subst this
    simp at h
  | k + 3, h, _ => by
    have := gapsK_ne xs by' (k + 2) (by omega) (by omega)
    rw [gapsK]; simp [this]
theorem mem_gapsK (xs : List Int) (by' g : Int) : ∀ k, k ≤ xs.length → (g ∈ gapsK xs by' k ↔ ∃ i j, j < i ∧ i < k ∧ g = pairD by' (xs.getD i 0) (xs.getD j 0))
  | 0, _ => by simp [gapsK]
  | k + 1, h => by
    rw [gapsK, List.mem_append, mem_gapsK xs by' g k (by omega)]
    constructor
    · rintro (⟨i, j, h1, h2, h3⟩ | h1)
      · exact ⟨i, j, h1, by omega, h3⟩
      · obtain ⟨x, hx, rfl⟩ := List.mem_map.mp h1
        obtain ⟨j, hj, e⟩ := List.getElem_of_mem hx
        have hj2 : j < k := by simp at hj; omega
        refine ⟨k, j, hj2, by omega, ?_⟩
        rw [List.getElem_take] at e
        rw [← e, List.getD_eq_getElem?_getD (i := j), List.getElem?_eq_getElem (by omega)]; rfl
    · rintro ⟨i, j, h1, h2, h3⟩
      by_cases hi : i < k
      · exact .inl ⟨i, j, h1, hi, h3⟩
      · have : i = k := by omega
        subst this
        right
        refine List.mem_map.mpr ⟨xs.getD j 0, ?_, h3.symm⟩
        rw [List.getD_eq_getElem?_getD, List.getElem?_eq_getElem (by omega), Option.getD_some]
        exact List.mem_iff_getElem.mpr ⟨j, by simp; omega, by simp⟩
def apartZ (xs : List Int) (by' : Int) : Int := minZ (gapsK xs by' xs.length)
theorem enumD_int (xs : List Int) : enumD 0 (iL xs) = (List.range xs.length).map fun k => PyData.tuple [.int (k : Nat), .int (xs.getD k 0)] := by
  apply List.ext_getElem?
  intro j
  by_cases hj : j < xs.length
  · have h1 : j < (enumD 0 (iL xs)).length := by rw [enumD_length]; simpa using hj
    rw [List.getElem?_eq_getElem h1]
    obtain ⟨d, e1, e2⟩ := enumD_get (iL xs) 0 j _ (List.getElem?_eq_getElem h1)
    rw [e2, List.getElem?_map, List.getElem?_range hj]
    rw [List.getElem?_map, List.getElem?_eq_getElem hj] at e1
    simp at e1
    subst e1
    simp [hj]
  · rw [List.getElem?_eq_none (by rw [enumD_length]; simp; omega), List.getElem?_eq_none (by simp; omega)]
theorem all_within {a b : Int} {xs : List Int} (h : ∀ x ∈ xs, a ≤ x ∧ x ≤ b) : (xs.all fun x => within (.int x) a b) = true := by
  rw [List.all_eq_true]
  intro x hx
  rw [within_i, decide_eq_true (h x hx).1, decide_eq_true (h x hx).2]
  rfl
theorem cut_take (ds : List PD) {k : Nat} (h : k ≤ ds.length) : cutD ds none (some (k : Int)) = ds.take k := by
  unfold cutD
  rw [HT.sIx_nat, HT.sIx_none, Nat.sub_zero, List.drop_zero, Nat.min_eq_left h]
theorem apart_s (xs : List Int) (by' : Int) (h1 : 2 ≤ xs.length) (h2 : xs.length ≤ 8) (h3 : 2 ≤ by') (h4 : by' ≤ 360) (h5 : ∀ x ∈ xs, 0 ≤ x ∧ x ≤ by' - 1) (st : Sto) :
    f_apart [.d (.tuple (iL xs)), .d (.int by')] st = .ret (.d (.int (apartZ xs by'))) st := by
  unfold f_apart m_apart
  rw [ap_run]
  have c1 : (2 : Int) ≤ xs.length := by omega
  have c2 : (xs.length : Int) ≤ 8 := by omega
  simp [check_s h3 h4, is_sized_s, c1, c2]
  rw [comp_on xs PyData.int (fun x => .bool (within (.int x) 0 (by' - 1))) (by simp) (by omega) (fun i hi => ⟨_, by simp [is_within_s]; rfl, by simp⟩) (by simp [Sl.isOwn])]
  simp [boolsOf_on, all_id, all_within h5]
  rw [enumD_int]
  refine (congrArg (fun r => endR (Res.th r _)) (for_pure xs.length _ (fun k => [.v (.tuple (iL xs)), .v (.int by'), .own (iL (gapsK xs by' k)), .un, .un, .un]) (fun k hk => ?_))).trans ?_
  · simp
    rw [comp_on (xs.take k) PyData.int (fun x => .int (pairD by' (xs.getD k 0) x)) (by simp [pySl, cut_take _ (show k ≤ (iL xs).length by simp; omega), List.map_take]) (by simp; omega) (fun i hi => ⟨_, by simp [pairD, mod_pos (show (0 : Int) < by' by omega)] <;> rfl, by simp⟩) (by simp [Sl.isOwn])]
    have hl := gapsK_len xs by' k (by omega)
    have h8 : (gapsK xs by' k).length + min k xs.length ≤ 1000000 := by omega
    simp [fExt, h8]
    exact ⟨_, _, ⟨rfl, rfl⟩, .inl rfl, by simp [gapsK, List.map_take]; rfl⟩
  · simp [min_ints (gapsK_ne xs by' xs.length (by omega) h1), apartZ]
/-! ### the law's own -/
def lawGaps (xs : List Int) (by' : Int) : List Int := ((List.range (xs.length - 1)).map fun k => xs.getD (k + 1) 0 - xs.getD k 0) ++ [xs.getD 0 0 + by' - xs.getD (xs.length - 1) 0]
def lawApartZ (xs : List Int) (by' : Int) : Int := minZ (lawGaps (sortZ xs) by')
theorem zip_int (xs : List Int) : zipD (iL xs) (iL (xs.drop 1)) = (List.range (xs.length - 1)).map fun k => PyData.tuple [.int (xs.getD k 0), .int (xs.getD (k + 1) 0)] := by
  apply List.ext_getElem?
  intro j
  by_cases hj : j < xs.length - 1
  · have h1 : j < (zipD (iL xs) (iL (xs.drop 1))).length := by rw [zipD_length]; simp; omega
    rw [List.getElem?_eq_getElem h1]
    obtain ⟨d, e, e1, e2, e3⟩ := zipD_get _ _ j _ (List.getElem?_eq_getElem h1)
    rw [e3, List.getElem?_map, List.getElem?_range hj]
    rw [List.getElem?_map, List.getElem?_eq_getElem (show j < xs.length by omega)] at e1
    rw [List.getElem?_map, List.getElem?_drop, Nat.add_comm 1 j, List.getElem?_eq_getElem (show j + 1 < xs.length by omega)] at e2
    simp at e1 e2
    subst e1 e2
    simp [show j < xs.length by omega, show j + 1 < xs.length by omega]
  · rw [List.getElem?_eq_none (by rw [zipD_length]; simp; omega), List.getElem?_eq_none (by simp; omega)]
theorem ix_last (xs : List Int) (h : 0 < xs.length) : pyIx (.list (iL xs)) (.int (-1)) = some (.int (xs.getD (xs.length - 1) 0)) := by
  show atI (iL xs) (-1) = _
  unfold atI ixN
  have h1 : ¬ (0 : Int) ≤ -1 := by omega
  have h2 : -((iL xs).length : Int) ≤ -1 := by simp; omega
  rw [if_neg h1, if_pos h2]
  show (iL xs)[(-1 + ((iL xs).length : Int)).toNat]? = _
  have h3 : (-1 + ((iL xs).length : Int)).toNat = xs.length - 1 := by simp; omega
  rw [h3, List.getElem?_map, List.getElem?_eq_getElem (by omega)]
  simp [show xs.length - 1 < xs.length by omega]
theorem ix_first (xs : List Int) (h : 0 < xs.length) : pyIx (.list (iL xs)) (.int 0) = some (.int (xs.getD 0 0)) := by
  refine ix_l (k := 0) ?_
  rw [List.getElem?_map, List.getElem?_eq_getElem h]
  simp [h]
theorem sl_drop1 (xs : List Int) : pySl (.list (iL xs)) (some 1) none = some (.list (iL (xs.drop 1))) := by
  show some (PyData.list (cutD (iL xs) (some 1) none)) = _
  unfold cutD
  rw [show (1 : Int) = ((1 : Nat) : Int) from rfl, HT.sIx_nat, HT.sIx_none]
  congr 2
  rw [List.take_of_length_le (by simp)]
  cases xs <;> simp
theorem law_apart_s (xs : List Int) (by' : Int) (h1 : 1 ≤ xs.length) (h2 : xs.length ≤ 100) (st : Sto) : f__law_apart [.d (.tuple (iL xs)), .d (.int by')] st = .ret (.d (.int (lawApartZ xs by'))) st := by
  unfold f__law_apart m__law_apart
  rw [ap_run]
  have hl : (sortZ xs).length = xs.length := (sortZ_perm xs).length_eq
  simp [sort_intsT (show xs.length ≤ 1000000 by omega)]
  rw [comp_on (List.range ((sortZ xs).length - 1)) (fun k => PyData.tuple [.int ((sortZ xs).getD k 0), .int ((sortZ xs).getD (k + 1) 0)]) (fun k => .int ((sortZ xs).getD (k + 1) 0 - (sortZ xs).getD k 0))
    (by rw [← zip_int]; simp [sl_drop1]) (by simp; omega) (fun i hi => ⟨_, by simp <;> rfl, by simp⟩) (by simp [Sl.isOwn])]
  have hm : (List.range ((sortZ xs).length - 1)).length + 1 ≤ 1000000 := by simp; omega
  have hg : (List.range ((sortZ xs).length - 1)).map (fun k => PyData.int ((sortZ xs).getD (k + 1) 0 - (sortZ xs).getD k 0)) ++ [.int ((sortZ xs).getD 0 0 + by' - (sortZ xs).getD ((sortZ xs).length - 1) 0)] = iL (lawGaps (sortZ xs) by') := by
    unfold lawGaps; simp
  simp [ix_first (sortZ xs) (by omega), ix_last (sortZ xs) (by omega)]
  simp only [List.getD_eq_getElem?_getD] at hg
  rw [add_ll (by simp; omega), hg]
  have hne : lawGaps (sortZ xs) by' ≠ [] := by unfold lawGaps; simp
  simp [min_ints hne, lawApartZ]
/-- strictly ascending, from 0 to below by' -/
structure Asc (xs : List Int) (by' : Int) : Prop where
  asc : ∀ i j, i < j → j < xs.length → xs.getD i 0 < xs.getD j 0
  lo : ∀ i, i < xs.length → 0 ≤ xs.getD i 0
  hi : ∀ i, i < xs.length → xs.getD i 0 < by'
theorem pairD_of {by' a b : Int} (h1 : b < a) (h2 : a - b < by') : pairD by' a b = min (a - b) (by' - (a - b)) := by
  unfold pairD
  have e1 : (a - b) % by' = a - b := Int.emod_eq_of_lt (by omega) h2
  have e2 : (b - a) % by' = by' - (a - b) := by
    have : b - a = (by' - (a - b)) + by' * (-1) := by omega
    rw [this, Int.add_mul_emod_self_left]
    exact Int.emod_eq_of_lt (by omega) (by omega)
  rw [e1, e2]
  split <;> omega
theorem getD_mem {xs : List Int} {i : Nat} (h : i < xs.length) : xs.getD i 0 ∈ xs := by
  rw [List.getD_eq_getElem?_getD, List.getElem?_eq_getElem h]
  exact List.getElem_mem h
theorem getD_of_mem {xs : List Int} {x : Int} (h : x ∈ xs) : ∃ i, i < xs.length ∧ xs.getD i 0 = x := by
  obtain ⟨i, hi, e⟩ := List.getElem_of_mem h
  exact ⟨i, hi, by rw [List.getD_eq_getElem?_getD, List.getElem?_eq_getElem hi]; exact e⟩
theorem asc_sort {xs : List Int} {by' : Int} (h : Asc xs by') : sortZ xs = xs := by
  refine List.mergeSort_of_pairwise ?_
  rw [List.pairwise_iff_getElem]
  intro i j hi hj hij
  have := h.asc i j hij hj
  simp [List.getD_eq_getElem?_getD, hi, hj] at this
  simp; omega
theorem apart_eq {xs : List Int} {by' : Int} (h : Asc xs by') (h1 : 2 ≤ xs.length) : apartZ xs by' = lawApartZ xs by' := by
  unfold lawApartZ
  rw [asc_sort h]
  have mono : ∀ i j, i ≤ j → j < xs.length → xs.getD i 0 ≤ xs.getD j 0 := fun i j hij hj => by
    rcases Nat.lt_or_eq_of_le hij with z | z
    · have := h.asc i j z hj; omega
    · subst z; omega
  have pd : ∀ i j, j < i → i < xs.length → pairD by' (xs.getD i 0) (xs.getD j 0) = min (xs.getD i 0 - xs.getD j 0) (by' - (xs.getD i 0 - xs.getD j 0)) := fun i j hji hi =>
    pairD_of (h.asc j i hji hi) (by have := h.lo j (by omega); have := h.hi i hi; omega)
  have inL : ∀ k, k + 1 < xs.length → xs.getD (k + 1) 0 - xs.getD k 0 ∈ lawGaps xs by' := fun k hk => List.mem_append_left _ (List.mem_map.mpr ⟨k, by simp; omega, rfl⟩)
  have wrap : xs.getD 0 0 + by' - xs.getD (xs.length - 1) 0 ∈ lawGaps xs by' := List.mem_append_right _ (List.mem_singleton.mpr rfl)
  have inG : ∀ i j, j < i → i < xs.length → pairD by' (xs.getD i 0) (xs.getD j 0) ∈ gapsK xs by' xs.length := fun i j hji hi => (mem_gapsK xs by' _ xs.length (Nat.le_refl _)).mpr ⟨i, j, hji, hi, rfl⟩
  have a1 : apartZ xs by' ≤ minZ (lawGaps xs by') := by
    have hm := minZ_mem (ns := lawGaps xs by') (by unfold lawGaps; simp)
    rcases List.mem_append.mp hm with z | z
    · obtain ⟨k, hk, e⟩ := List.mem_map.mp z
      have hk2 : k + 1 < xs.length := by simp at hk; omega
      have := minZ_le (inG (k + 1) k (by omega) hk2)
      rw [pd (k + 1) k (by omega) hk2] at this
      unfold apartZ
      omega
    · have e := List.mem_singleton.mp z
      have := minZ_le (inG (xs.length - 1) 0 (by omega) (by omega))
      rw [pd (xs.length - 1) 0 (by omega) (by omega)] at this
      unfold apartZ
      omega
  have a2 : minZ (lawGaps xs by') ≤ apartZ xs by' := by
    obtain ⟨i, j, hji, hi, e⟩ := (mem_gapsK xs by' _ xs.length (Nat.le_refl _)).mp (minZ_mem (gapsK_ne xs by' xs.length (Nat.le_refl _) h1))
    have e' : apartZ xs by' = pairD by' (xs.getD i 0) (xs.getD j 0) := e
    rw [e', pd i j hji hi]
    have b1 := minZ_le (inL j (by omega))
    have b2 := minZ_le wrap
    have c1 := mono (j + 1) i hji hi
    have c2 := mono 0 j (by omega) (by omega)
    have c3 := mono i (xs.length - 1) (by omega) (by omega)
    omega
  omega
def judgeI (many by' fixed : Int) (xs : List Int) : Bool := decide (fixed ∈ xs) && decide (xs.Pairwise (· < ·)) && decide (apartZ xs by' = by' / many)
def toZ : PD → Int
  | .int i => i
  | _ => 0
def judge (many by' fixed : Int) : PD → Bool
  | .tuple ds => decide ((ds.length : Int) = many) && ds.all (fun d => within d 0 (by' - 1)) && judgeI many by' fixed (ds.map toZ)
  | _ => false
theorem within_ints {a b : Int} : ∀ {ds : List PD}, ds.all (fun d => within d a b) = true → ∃ xs : List Int, ds = iL xs ∧ ∀ x ∈ xs, a ≤ x ∧ x ≤ b
  | [], _ => ⟨[], rfl, fun x h => by simp at h⟩
  | d :: ds, h => by
    rw [List.all_cons, Bool.and_eq_true] at h
    obtain ⟨xs, e, hx⟩ := within_ints h.2
    cases d with
    | int i =>
      have h1 := h.1
      rw [within_i, Bool.and_eq_true, decide_eq_true_eq, decide_eq_true_eq] at h1
      refine ⟨i :: xs, by rw [e]; rfl, fun x hm => ?_⟩
      rcases List.mem_cons.mp hm with z | z
      · rw [z]; exact h1
      · exact hx x z
    | _ => simp [within] at h
theorem toZ_ints (xs : List Int) : (iL xs).map toZ = xs := by
  rw [List.map_map]; exact List.map_id' xs
theorem judge_ints {many by' fixed : Int} {xs : List Int} (hl : (xs.length : Int) = many) (hx : ∀ x ∈ xs, 0 ≤ x ∧ x ≤ by' - 1) : judge many by' fixed (.tuple (iL xs)) = judgeI many by' fixed xs := by
  show (decide (((iL xs).length : Int) = many) && (iL xs).all (fun d => within d 0 (by' - 1)) && judgeI many by' fixed ((iL xs).map toZ)) = _
  rw [toZ_ints, decide_eq_true (by simpa using hl)]
  have : (iL xs).all (fun d => within d 0 (by' - 1)) = true := by
    rw [List.all_map]; exact all_within hx
  rw [this]; rfl
section
variable {many by' fixed : Int} (m1 : 2 ≤ many) (m2 : many ≤ 5) (b1 : many ≤ by') (b2 : by' ≤ 90) (f1 : 0 ≤ fixed) (f2 : fixed ≤ by' - 1)
include m1 m2 b1 b2 f1 f2
theorem are_best_s (d : PD) (st : Sto) : f_are_best [.d (.int many), .d (.int by'), .d (.int fixed), .d d] st = .ret (.d (.bool (judge many by' fixed d))) st := by
  unfold f_are_best m_are_best
  rw [ap_run]
  by_cases ht : tyName d = "tuple"
  · cases d with
    | tuple ds =>
      by_cases hl : (ds.length : Int) = many
      · simp [check_s m1 m2, check_s b1 b2, check_s f1 f2, is_tuple_s, hl]
        by_cases hw : ds.all (fun d => within d 0 (by' - 1)) = true
        · obtain ⟨xs, rfl, hx⟩ := within_ints hw
          have hxl : (xs.length : Int) = many := by simpa using hl
          rw [comp_on xs PyData.int (fun d => .bool (within (.int d) 0 (by' - 1))) (by simp) (by omega) (fun i hi => ⟨_, by simp [is_within_s] <;> rfl, by simp⟩) (by simp [Sl.isOwn])]
          simp [boolsOf_on, all_id, all_within hx, notin_tuple]
          rw [judge_ints hxl hx]
          unfold judgeI
          by_cases hf : fixed ∈ xs
          · have e1 : ∀ k : Nat, (1 + (k : Int) - 1) = (k : Int) := fun k => by omega
            have e2 : ∀ k : Nat, (1 + (k : Int)) = ((k + 1 : Nat) : Int) := fun k => by omega
            have e3 : (many - 1).toNat = xs.length - 1 := by omega
            rw [comp_on (List.range (xs.length - 1)) (fun k => PyData.int (1 + (k : Int))) (fun k => .bool (decide (xs.getD k 0 < xs.getD (k + 1) 0))) (by simp [rg2_s (show (-1000000000 : Int) ≤ 1 by omega) (by omega) (show -1000000000 ≤ many by omega) (by omega), e3, rgD]) (by simp; omega)
              (fun k hk => by
                have hk2 : k + 1 < xs.length := by simp at hk; omega
                have q1 := ix_ti (show k < xs.length by omega)
                have q2 : pyIx (.tuple (iL xs)) (.int (1 + (k : Int))) = some (.int (xs.getD (k + 1) 0)) := by rw [e2 k]; exact ix_ti hk2
                exact ⟨_, by simp [e1, q1, q2] <;> rfl, by simp⟩) (by simp [Sl.isOwn])]
            by_cases hp : xs.Pairwise (· < ·)
            · have ha : (List.range (xs.length - 1)).all (fun k => decide (xs.getD k 0 < xs.getD (k + 1) 0)) = true := by
                rw [List.all_eq_true]
                intro k hk
                exact decide_eq_true (pairwise_getD.mp hp k (k + 1) (by omega) (by simp at hk; omega))
              rw [decide_eq_true hf, decide_eq_true hp]
              simp only [hf, if_true, ap_Fz, th_ok, slD_own, ap_optS, ap_bnd, ap_Nil, ap_ret, all_l, boolsOf_on, Option.map_some, all_id, ha, truth_bool, Bool.not_true, Bool.false_eq_true, if_false, ap_Pass]
              simp [apart_s xs by' (by omega) (by omega) (by omega) (by omega) hx, fdiv_pos (show 0 < many by omega) (by omega)]
            · have ha : (List.range (xs.length - 1)).all (fun k => decide (xs.getD k 0 < xs.getD (k + 1) 0)) = false := by
                rw [Bool.eq_false_iff]
                intro h
                rw [List.all_eq_true] at h
                exact hp (pairwise_getD.mpr (asc_step fun k hk => of_decide_eq_true (h k (by simp; omega))))
              rw [decide_eq_false hp]
              simp only [hf, if_true, ap_Fz, th_ok, slD_own, ap_optS, ap_bnd, ap_Nil, ap_ret, all_l, boolsOf_on, Option.map_some, all_id, ha, truth_bool, Bool.not_false]
              simp
          · simp [hf]
        · rw [comp_on ds (fun d => d) (fun d => .bool (within d 0 (by' - 1))) (by simp) (by omega) (fun i hi => ⟨_, by simp [is_within_s] <;> rfl, by simp⟩) (by simp [Sl.isOwn])]
          simp [boolsOf_on, all_id, hw]
          simp only [judge, hw, Bool.and_false, Bool.false_and]
      · simp [check_s m1 m2, check_s b1 b2, check_s f1 f2, is_tuple_s, hl, judge]
    | _ => simp [tyName] at ht
  · simp [check_s m1 m2, check_s b1 b2, check_s f1 f2, is_tuple_n _ ht]
    cases d <;> first | rfl | simp [tyName] at ht
theorem law_best_s (d : PD) (st : Sto) : f__law_are_best [.d (.int many), .d (.int by'), .d (.int fixed), .d d] st = .ret (.d (.bool (judge many by' fixed d))) st := by
  unfold f__law_are_best m__law_are_best
  rw [ap_run]
  by_cases ht : tyName d = "tuple"
  · cases d with
    | tuple ds =>
      by_cases hl : (ds.length : Int) = many
      · by_cases hw : ds.all (fun d => within d 0 (by' - 1)) = true
        · obtain ⟨xs, rfl, hx⟩ := within_ints hw
          have hxl : (xs.length : Int) = many := by simpa using hl
          simp [isA, tyName, hxl]
          rw [comp_on xs PyData.int (fun d => .bool (within (.int d) 0 (by' - 1))) (by simp) (by omega) (fun i hi => ⟨_, by simp [law_is_int_s] <;> rfl, by simp⟩) (by simp [Sl.isOwn])]
          simp [boolsOf_on, all_id, all_within hx, notin_tuple, sortU_ints (show xs.length ≤ 60 by omega), ne_lists]
          rw [judge_ints hxl hx]
          unfold judgeI
          by_cases hp : xs.Pairwise (· < ·)
          · have hA : Asc xs by' := ⟨pairwise_getD.mp hp, fun i hi => (hx _ (getD_mem hi)).1, fun i hi => by have := (hx _ (getD_mem hi)).2; omega⟩
            rw [sortU_id.mpr hp, decide_eq_true hp]
            by_cases hf : fixed ∈ xs
            · simp [hf, law_apart_s xs by' (by omega) (by omega), apart_eq hA (by omega), fdiv_pos (show 0 < many by omega) (by omega)]
            · simp [hf]
          · have : ¬ xs = sortU xs := fun e => hp (sortU_id.mp e.symm)
            simp [this, hp]
        · simp [isA, tyName, hl]
          rw [comp_on ds (fun d => d) (fun d => .bool (within d 0 (by' - 1))) (by simp) (by omega) (fun i hi => ⟨_, by simp [law_is_int_s] <;> rfl, by simp⟩) (by simp [Sl.isOwn])]
          simp [boolsOf_on, all_id, hw]
          simp only [judge, hw, Bool.and_false, Bool.false_and]
      · simp [isA, tyName, hl, judge]
    | _ => simp [tyName] at ht
  · simp [isA, ht]
    cases d <;> first | rfl | simp [tyName] at ht
end
/-! ### best angles -/
def vals0 (m : Nat) (by' fixed gap : Int) : List Int := (List.range m).map fun (k : Nat) => (fixed + (k : Int) * gap) % by'
def valsE (m : Nat) (by' fixed gap : Int) (e : Nat) : List Int := (List.range m).map fun (k : Nat) => (fixed + (k : Int) * gap + (e : Int) * (if 0 < k then 1 else 0)) % by'
def rowsK (m : Nat) (by' fixed gap : Int) (n : Nat) : List (List Int) := sortZ (vals0 m by' fixed gap) :: (List.range n).map fun e => sortZ (valsE m by' fixed gap e)
theorem rowsK_succ (m : Nat) (by' fixed gap : Int) (n : Nat) : rowsK m by' fixed gap (n + 1) = rowsK m by' fixed gap n ++ [sortZ (valsE m by' fixed gap n)] := by
  unfold rowsK; simp [List.range_succ]
theorem row_facts {m : Nat} {by' fixed gap : Int} {n : Nat} (hb : 0 < by') (hm : 0 < m) (f1 : 0 ≤ fixed) (f2 : fixed < by') {r : List Int} (h : r ∈ rowsK m by' fixed gap n) : r.length = m ∧ (∀ x ∈ r, 0 ≤ x ∧ x ≤ by' - 1) ∧ fixed ∈ r ∧ r.Pairwise (· ≤ ·) := by
  have gen : ∀ f : Nat → Int, f 0 = fixed → ∃ r', r' = sortZ ((List.range m).map fun (k : Nat) => f k % by') ∧ r'.length = m ∧ (∀ x ∈ r', 0 ≤ x ∧ x ≤ by' - 1) ∧ fixed ∈ r' ∧ r'.Pairwise (· ≤ ·) := fun f h0 => by
    refine ⟨_, rfl, by rw [(sortZ_perm _).length_eq]; simp, fun x hx => ?_, ?_, sortZ_asc _⟩
    · obtain ⟨k, _, rfl⟩ := List.mem_map.mp ((sortZ_perm _).mem_iff.mp hx)
      have h1 := Int.emod_nonneg (f k) (show by' ≠ 0 by omega)
      have h2 := Int.emod_lt_of_pos (f k) hb
      omega
    · refine (sortZ_perm _).mem_iff.mpr (List.mem_map.mpr ⟨0, by simp; omega, ?_⟩)
      rw [h0]; exact Int.emod_eq_of_lt f1 f2
  rcases List.mem_cons.mp h with e | e
  · obtain ⟨r', e', a⟩ := gen (fun k => fixed + (k : Int) * gap) (by simp)
    rw [e]; unfold vals0; rw [← e']; exact a
  · obtain ⟨i, _, rfl⟩ := List.mem_map.mp e
    obtain ⟨r', e', a⟩ := gen (fun k => fixed + (k : Int) * gap + (i : Int) * (if 0 < k then 1 else 0)) (by simp)
    unfold valsE; rw [← e']; exact a
theorem pair_pos {by' g : Int} {xs : List Int} (h1 : 2 ≤ xs.length) (hg : 0 < g) (h : apartZ xs by' = g) (hs : xs.Pairwise (· ≤ ·)) : xs.Pairwise (· < ·) := by
  refine pairwise_getD.mpr (asc_step fun k hk => ?_)
  have h2 : xs.getD k 0 ≤ xs.getD (k + 1) 0 := by
    have := (List.pairwise_iff_getElem.mp hs) k (k + 1) (by omega) hk (by omega)
    rw [List.getD_eq_getElem?_getD, List.getD_eq_getElem?_getD, List.getElem?_eq_getElem hk, List.getElem?_eq_getElem (by omega : k < xs.length)]
    exact this
  rcases Int.lt_or_eq_of_le h2 with z | z
  · exact z
  · have hm : pairD by' (xs.getD (k + 1) 0) (xs.getD k 0) ∈ gapsK xs by' xs.length := (mem_gapsK xs by' _ xs.length (Nat.le_refl _)).mpr ⟨k + 1, k, by omega, hk, rfl⟩
    have := minZ_le hm
    have e : pairD by' (xs.getD (k + 1) 0) (xs.getD k 0) = 0 := by
      unfold pairD; rw [z]; simp
    rw [e] at this
    unfold apartZ at h
    omega
/-- the first row is as good as can be -/
theorem row0_good {m : Nat} {by' fixed : Int} (hm : 2 ≤ m) (hb : (m : Int) ≤ by') : apartZ (sortZ (vals0 m by' fixed (by' / m))) by' = by' / m := by
  have hb0 : 0 < by' := by omega
  obtain ⟨gap, hgap⟩ : ∃ gap, gap = by' / (m : Int) := ⟨_, rfl⟩
  rw [← hgap]
  have g1 : 1 ≤ gap := by rw [hgap]; exact (Int.le_ediv_iff_mul_le (by omega)).mpr (by omega)
  have g2 : gap * m ≤ by' := by rw [hgap]; exact Int.ediv_mul_le _ (by omega)
  have hlen : (sortZ (vals0 m by' fixed gap)).length = m := by rw [(sortZ_perm _).length_eq]; simp [vals0]
  -- two places
  have key : ∀ a b : Nat, b < a → a < m → pairD by' ((fixed + (a : Int) * gap) % by') ((fixed + (b : Int) * gap) % by') = min (((a : Int) - b) * gap) (by' - ((a : Int) - b) * gap) ∧ gap ≤ ((a : Int) - b) * gap ∧ ((a : Int) - b) * gap ≤ by' - gap := fun a b hba ha => by
    have d1 : gap ≤ ((a : Int) - b) * gap := by
      have : 1 * gap ≤ ((a : Int) - b) * gap := Int.mul_le_mul_of_nonneg_right (by omega) (by omega)
      omega
    have d2 : ((a : Int) - b) * gap ≤ ((m : Int) - 1) * gap := Int.mul_le_mul_of_nonneg_right (by omega) (by omega)
    have d3 : ((m : Int) - 1) * gap = gap * m - gap := by rw [Int.sub_mul, Int.one_mul, Int.mul_comm]
    have e1 : ((fixed + (a : Int) * gap) % by' - (fixed + (b : Int) * gap) % by') % by' = ((a : Int) - b) * gap := by
      rw [← Int.sub_emod]
      have : fixed + (a : Int) * gap - (fixed + (b : Int) * gap) = ((a : Int) - b) * gap := by rw [Int.sub_mul]; omega
      rw [this]
      exact Int.emod_eq_of_lt (by omega) (by omega)
    have e2 : ((fixed + (b : Int) * gap) % by' - (fixed + (a : Int) * gap) % by') % by' = by' - ((a : Int) - b) * gap := by
      rw [← Int.sub_emod]
      have : fixed + (b : Int) * gap - (fixed + (a : Int) * gap) = (by' - ((a : Int) - b) * gap) + by' * (-1) := by rw [Int.sub_mul]; omega
      rw [this, Int.add_mul_emod_self_left]
      exact Int.emod_eq_of_lt (by omega) (by omega)
    refine ⟨?_, d1, by omega⟩
    unfold pairD
    rw [e1, e2]
    split <;> omega
  have symm : ∀ x y, pairD by' x y = pairD by' y x := fun x y => by unfold pairD; split <;> split <;> omega
  have key2 : ∀ a b : Nat, a ≠ b → a < m → b < m → gap ≤ pairD by' ((fixed + (a : Int) * gap) % by') ((fixed + (b : Int) * gap) % by') := fun a b hne ha hb => by
    rcases Nat.lt_or_gt_of_ne hne with z | z
    · rw [symm]; obtain ⟨e, d1, d2⟩ := key b a z hb; rw [e]; omega
    · obtain ⟨e, d1, d2⟩ := key a b z ha; rw [e]; omega
  have k10 : pairD by' ((fixed + ((1 : Nat) : Int) * gap) % by') ((fixed + ((0 : Nat) : Int) * gap) % by') = gap := by
    obtain ⟨e, d1, d2⟩ := key 1 0 (by omega) (by omega)
    rw [e]
    have : (((1 : Nat) : Int) - ((0 : Nat) : Int)) * gap = gap := by simp
    rw [this] at d2 ⊢
    omega
  have nd : (vals0 m by' fixed gap).Nodup := by
    unfold vals0
    refine List.pairwise_iff_getElem.mpr fun i j hi hj hij => ?_
    have hj2 : j < m := by simpa using hj
    intro e
    simp only [List.getElem_map, List.getElem_range] at e
    have := key2 j i (by omega) hj2 (by omega)
    rw [e] at this
    unfold pairD at this
    simp at this
    omega
  have nd2 : (sortZ (vals0 m by' fixed gap)).Nodup := (sortZ_perm _).nodup_iff.mpr nd
  obtain ⟨ys, hys⟩ : ∃ ys, ys = sortZ (vals0 m by' fixed gap) := ⟨_, rfl⟩
  rw [← hys] at nd2 hlen ⊢
  have mem_at : ∀ i, i < m → ∃ a, a < m ∧ ys.getD i 0 = (fixed + (a : Int) * gap) % by' := fun i hi => by
    have : ys.getD i 0 ∈ ys := getD_mem (by omega)
    rw [hys] at this
    obtain ⟨a, ha, e⟩ := List.mem_map.mp ((sortZ_perm _).mem_iff.mp this)
    exact ⟨a, by simpa using ha, by rw [hys]; exact e.symm⟩
  have at_mem : ∀ a : Nat, a < m → ∃ i, i < m ∧ ys.getD i 0 = (fixed + (a : Int) * gap) % by' := fun a ha => by
    have : (fixed + (a : Int) * gap) % by' ∈ ys := by
      rw [hys]
      exact (sortZ_perm _).mem_iff.mpr (List.mem_map.mpr ⟨a, by simpa using ha, rfl⟩)
    obtain ⟨i, hi, e⟩ := getD_of_mem this
    exact ⟨i, by omega, e⟩
  have inj : ∀ i j, i < j → j < m → ys.getD i 0 ≠ ys.getD j 0 := fun i j hij hj e => by
    refine List.pairwise_iff_getElem.mp nd2 i j (by omega) (by omega) hij ?_
    rw [List.getD_eq_getElem?_getD, List.getD_eq_getElem?_getD, List.getElem?_eq_getElem (by omega : i < ys.length), List.getElem?_eq_getElem (by omega : j < ys.length)] at e
    simpa using e
  have a1 : gap ≤ apartZ ys by' := by
    obtain ⟨i, j, hji, hi, e⟩ := (mem_gapsK ys by' _ ys.length (Nat.le_refl _)).mp (minZ_mem (gapsK_ne ys by' ys.length (Nat.le_refl _) (by omega)))
    have e' : apartZ ys by' = pairD by' (ys.getD i 0) (ys.getD j 0) := e
    obtain ⟨a, ha, ea⟩ := mem_at i (by omega)
    obtain ⟨b, hb, eb⟩ := mem_at j (by omega)
    have hne : a ≠ b := fun z => by
      subst z
      exact inj j i hji (by omega) (by rw [ea, eb])
    rw [e', ea, eb]
    exact key2 a b hne ha hb
  have a2 : apartZ ys by' ≤ gap := by
    obtain ⟨i, hi, ei⟩ := at_mem 1 (by omega)
    obtain ⟨j, hj, ej⟩ := at_mem 0 (by omega)
    have hne : i ≠ j := fun z => by
      subst z
      have := key2 1 0 (by omega) (by omega) (by omega)
      rw [← ei, ← ej] at this
      unfold pairD at this
      simp at this
      omega
    rw [← ei, ← ej] at k10
    rcases Nat.lt_or_gt_of_ne hne with z | z
    · have := minZ_le ((mem_gapsK ys by' _ ys.length (Nat.le_refl _)).mpr ⟨j, i, z, by omega, rfl⟩)
      rw [symm, k10] at this
      exact this
    · have := minZ_le ((mem_gapsK ys by' _ ys.length (Nat.le_refl _)).mpr ⟨i, j, z, by omega, rfl⟩)
      rw [k10] at this
      exact this
  omega
end TL.Law

namespace TL.Law
open PySem PySem.Spec L2
open PyProof.Rows hiding St
theorem best_s {many by' fixed : Int} (m1 : 2 ≤ many) (m2 : many ≤ 5) (b1 : many ≤ by') (b2 : by' ≤ 90) (f1 : 0 ≤ fixed) (f2 : fixed ≤ by' - 1) (st : Sto) :
    ∃ T : List Int, f_best_angles [.d (.int many), .d (.int by'), .d (.int fixed)] st = .ret (.d (.tuple (iL T))) st ∧ (T.length : Int) = many ∧ (∀ x ∈ T, 0 ≤ x ∧ x ≤ by' - 1) ∧ fixed ∈ T ∧ T.Pairwise (· < ·) ∧ apartZ T by' = by' / many := by
  unfold f_best_angles m_best_angles
  rw [ap_run]
  obtain ⟨m, hm⟩ : ∃ m : Nat, many = m := ⟨many.toNat, by omega⟩
  have htn : many.toNat = m := by omega
  have hb0 : (0 : Int) < by' := by omega
  obtain ⟨gap, hgap⟩ : ∃ gap, gap = by' / many := ⟨_, rfl⟩
  have g1 : 1 ≤ gap := by rw [hgap]; exact (Int.le_ediv_iff_mul_le (by omega)).mpr (by omega)
  have g2 : gap * many ≤ by' := by rw [hgap]; exact Int.ediv_mul_le _ (by omega)
  have g3 : gap ≤ 90 := by
    have : gap * 1 ≤ gap * many := Int.mul_le_mul_of_nonneg_left (by omega) (by omega)
    omega
  have hdiv : pyFdiv (.int by') (.int many) = some (.int gap) := by rw [fdiv_pos (by omega) (by omega), hgap]
  have hrg : ∀ n : Nat, rgD 0 n = (List.range n).map fun (k : Nat) => PyData.int (k : Int) := fun n => by unfold rgD; simp
  have hm1 : ∀ k : Nat, k < m → pyMul (.int (k : Int)) (.int gap) = some (.int ((k : Int) * gap)) := fun k hk => mul_l (by omega) (by omega)
  simp [check_s m1 m2, check_s b1 b2, check_s f1 f2, hdiv]
  rw [comp_on (List.range m) (fun (k : Nat) => PyData.int (k : Int)) (fun k => .int ((fixed + (k : Int) * gap) % by')) (by simp [rg1_s (show -1000000000 ≤ many by omega) (by omega), hrg, htn]) (by simp; omega)
    (fun k hk => ⟨_, by simp [hm1 k (by simpa using hk), mod_pos hb0] <;> rfl, by simp⟩) (by simp [Sl.isOwn])]
  have e0 : (List.range m).map (fun (k : Nat) => PyData.int ((fixed + (k : Int) * gap) % by')) = iL (vals0 m by' fixed gap) := by unfold vals0; simp
  have l0 : (vals0 m by' fixed gap).length ≤ 1000000 := by simp [vals0]; omega
  have hmg : pyMul (.int many) (.int gap) = some (.int (many * gap)) := mul_l (by omega) (by omega)
  obtain ⟨n, hn⟩ : ∃ n : Nat, (n : Int) = by' - many * gap + 1 := ⟨(by' - many * gap + 1).toNat, by have : many * gap = gap * many := Int.mul_comm ..; omega⟩
  have hn2 : n ≤ 91 := by
    have : 0 ≤ many * gap := Int.mul_nonneg (by omega) (by omega)
    omega
  simp [e0, sort_ints l0, hmg, ← hn, rg1_s (show -1000000000 ≤ (n : Int) by omega) (by omega), hrg]
  have hl1 : ∀ k, (rowsK m by' fixed gap k).length = k + 1 := fun k => by simp [rowsK]
  have h0 : sortZ (vals0 m by' fixed gap) ∈ (rowsK m by' fixed gap n).filter fun r => decide (apartZ r by' = gap) := by
    refine List.mem_filter.mpr ⟨List.mem_cons_self .., decide_eq_true ?_⟩
    have := row0_good (m := m) (by' := by') (fixed := fixed) (by omega) (by omega)
    rw [← hm, ← hgap] at this
    exact this
  obtain ⟨T, hT, eT⟩ := min_tups (rs := (rowsK m by' fixed gap n).filter fun r => decide (apartZ r by' = gap)) (List.ne_nil_of_mem h0)
  have hT2 := List.mem_filter.mp hT
  have aT : apartZ T by' = gap := of_decide_eq_true hT2.2
  have rf : ∀ r, r ∈ rowsK m by' fixed gap n → r.length = m ∧ (∀ x ∈ r, 0 ≤ x ∧ x ≤ by' - 1) ∧ fixed ∈ r ∧ r.Pairwise (· ≤ ·) := fun r hr => row_facts hb0 (by omega) f1 (by omega) hr
  obtain ⟨t1, t2, t3, t4⟩ := rf T hT2.1
  refine ⟨T, (congrArg (fun r => endR (Res.th r _)) (for_pure n (fun k => PyData.int (k : Int)) (fun k => [.v (.int many), .v (.int by'), .v (.int fixed), .v (.int gap), .own (tL (rowsK m by' fixed gap k)), .un, .un, .un, .un]) (fun k hk => ?_))).trans ?_, by omega, t2, t3, pair_pos (by omega) (by omega) aT t4, by rw [aT]; exact hgap⟩
  · simp
    rw [comp_on (List.range m) (fun (k : Nat) => PyData.int (k : Int)) (fun j => .int ((fixed + (j : Int) * gap + (k : Int) * (if 0 < j then 1 else 0)) % by')) (by simp [rg1_s (show -1000000000 ≤ many by omega) (by omega), hrg, htn]) (by simp; omega)
      (fun j hj => by
        have hk2 : pyMul (.int (k : Int)) (.int (if 0 < j then 1 else 0)) = some (.int ((k : Int) * (if 0 < j then 1 else 0))) := mul_l (by omega) (by omega)
        exact ⟨_, by simp [hm1 j (by simpa using hj), mod_pos hb0, hk2] <;> rfl, by simp⟩) (by simp [Sl.isOwn])]
    have e1 : (List.range m).map (fun (j : Nat) => PyData.int ((fixed + (j : Int) * gap + (k : Int) * (if 0 < j then 1 else 0)) % by')) = iL (valsE m by' fixed gap k) := by unfold valsE; simp
    have l1 : (valsE m by' fixed gap k).length ≤ 1000000 := by simp [valsE]; omega
    have l2 : (rowsK m by' fixed gap k).length < 1000000 := by rw [hl1]; omega
    rw [e1]
    simp [sort_ints l1, fApp, l2]
    exact ⟨_, _, ⟨rfl, rfl⟩, .inl rfl, by simp [rowsK_succ]⟩
  · simp
    rw [comp_onFE (rowsK m by' fixed gap n) (fun r => .tuple (iL r)) (fun r => .tuple (iL r)) (fun r => decide (apartZ r by' = gap)) [.v (.int many), .v (.int by'), .v (.int fixed), .v (.int gap), .v (.list (tL (rowsK m by' fixed gap n))), .un, .un, .un, .un] (by simp) (by rw [hl1]; omega)
      (fun r hr => by
        obtain ⟨r1, r2, _, _⟩ := rf r hr
        by_cases hg : apartZ r by' = gap
        · exact ⟨_, by simp [apart_s r by' (by omega) (by omega) (by omega) (by omega) r2, hg] <;> rfl, by simp⟩
        · exact ⟨_, by simp [apart_s r by' (by omega) (by omega) (by omega) (by omega) r2, hg] <;> rfl, by simp⟩) (by simp [Sl.isOwn])]
    simp [eT]
end TL.Law

namespace TL.Law
open PySem PySem.Spec L2
open PyProof.Rows hiding St
/-- the places of the numbers below n, in some order -/
def below (n : Nat) : List Int := (List.range n).map fun (k : Nat) => (k : Int)
theorem rg_below (n : Nat) : rgD 0 n = iL (below n) := by
  unfold rgD below; simp
theorem nodup_below (n : Nat) : (below n).Nodup := by
  unfold below
  refine List.pairwise_iff_getElem.mpr fun i j hi hj hij => ?_
  simp only [List.getElem_map, List.getElem_range]
  omega
theorem mem_below {n : Nat} {x : Int} (h : x ∈ below n) : 0 ≤ x ∧ x ≤ (n : Int) - 1 := by
  obtain ⟨k, hk, rfl⟩ := List.mem_map.mp h
  simp at hk; omega
theorem asc_of {R : List Int} {by' : Int} (nd : R.Nodup) (hb : ∀ x ∈ R, 0 ≤ x ∧ x ≤ by' - 1) : Asc (sortZ R) by' := by
  have hp : (sortZ R).Perm R := sortZ_perm R
  have hb2 : ∀ x ∈ sortZ R, 0 ≤ x ∧ x ≤ by' - 1 := fun x hx => hb x (hp.mem_iff.mp hx)
  have nd2 : (sortZ R).Nodup := hp.nodup_iff.mpr nd
  have hs := sortZ_asc R
  refine ⟨fun i j hij hj => ?_, fun i hi => (hb2 _ (getD_mem hi)).1, fun i hi => by have := (hb2 _ (getD_mem hi)).2; omega⟩
  have h1 := List.pairwise_iff_getElem.mp hs i j (by omega) hj hij
  have h2 := List.pairwise_iff_getElem.mp nd2 i j (by omega) hj hij
  rw [List.getD_eq_getElem?_getD, List.getD_eq_getElem?_getD, List.getElem?_eq_getElem hj, List.getElem?_eq_getElem (by omega : i < (sortZ R).length)]
  simp only [Option.getD_some]
  omega
theorem er_map : ∀ (L : List Int) (k : Nat), (L.map PyData.int).eraseIdx k = (L.eraseIdx k).map PyData.int
  | [], _ => rfl
  | x :: L, 0 => rfl
  | x :: L, k + 1 => by
    show PyData.int x :: (L.map PyData.int).eraseIdx k = PyData.int x :: (L.eraseIdx k).map PyData.int
    rw [er_map L k]
theorem er_perm : ∀ (L : List Int) (k : Nat), k < L.length → (L.getD k 0 :: L.eraseIdx k).Perm L
  | [], _, h => by simp at h
  | x :: L, 0, _ => List.Perm.refl _
  | x :: L, k + 1, h => by
    have ih := er_perm L k (by simpa using h)
    show (L.getD k 0 :: x :: L.eraseIdx k).Perm (x :: L)
    exact (List.Perm.swap x (L.getD k 0) (L.eraseIdx k)).trans (List.Perm.cons x ih)
theorem pop_s {L : List Int} {r : Int} (h0 : 0 ≤ r) (h1 : r < L.length) (h2 : L.length ≤ 1000) : fPop (.int r) (iL L) = some (.int (L.getD r.toNat 0), iL (L.eraseIdx r.toNat)) := by
  obtain ⟨k, rfl⟩ : ∃ k : Nat, r = k := ⟨r.toNat, by omega⟩
  have hk : k < L.length := by omega
  have e1 : seqIndex? (k : Int) (iL L).length = some k := by
    unfold seqIndex?
    simp
    omega
  have e2 : (iL L)[k]? = some (.int (L.getD k 0)) := by
    rw [List.getElem?_map, List.getElem?_eq_getElem hk]; simp [hk]
  have e3 : (iL L).eraseIdx k = iL (L.eraseIdx k) := by
    show (L.map PyData.int).eraseIdx k = (L.eraseIdx k).map PyData.int
    exact er_map L k
  show (if small62 (k : Int) = true then (seqIndex? (k : Int) (iL L).length).bind fun j => ((iL L)[j]?).map fun d => (d, (iL L).eraseIdx j) else none) = _
  rw [if_pos (small_of (by omega) (by omega)), e1]
  show (((iL L)[k]?).map fun d => (d, (iL L).eraseIdx k)) = _
  rw [e2, e3]
  rfl
theorem law_true : ∀ ns : List Int, ns.length ≤ 63 → ∃ st, f_law [.raw (.scr ns)] [] = .ret (.d (.bool true)) st := by
  intro ns hns
  unfold f_law m_law
  rw [ap_run]
  obtain ⟨st0, e0, hh0⟩ := law_hand_s ns hns
  have q1 : ∀ st, f_apart [.d (.tuple [.int 0, .int 30, .int 75]), .d (.int 90)] st = .ret (.d (.int 15)) st := fun st => apart_s [0, 30, 75] 90 (by decide) (by decide) (by omega) (by omega) (by decide) st
  have q2 : ∀ st, f_apart [.d (.tuple [.int 0, .int 30, .int 60]), .d (.int 90)] st = .ret (.d (.int 30)) st := fun st => apart_s [0, 30, 60] 90 (by decide) (by decide) (by omega) (by omega) (by decide) st
  have q3 : ∀ st, f_apart [.d (.tuple [.int 5, .int 80]), .d (.int 90)] st = .ret (.d (.int 15)) st := fun st => apart_s [5, 80] 90 (by decide) (by decide) (by omega) (by omega) (by decide) st
  simp [e0, q1, q2, q3, rg1_s]
  generalize hF : mForL _ _ _ _ _ _ = F
  obtain ⟨env', st', rfl, hI⟩ : ∃ env' st', F = .ok .nx env' st' ∧ HandOk st' := by
    subst hF
    refine Exists.imp (fun env' h => Exists.imp (fun st' h => ⟨h.1, h.2.2⟩) h) (for_run (fun _ env st => env = [.raw (.scr ns), .mt 0, .un, .un, .un, .un, .un, .un, .un, .un, .un, .un, .un, .un, .un, .un] ∧ HandOk st) (fun x xs env st hI => ?_) _ _ _ ⟨rfl, hh0⟩)
    obtain ⟨rfl, hh⟩ := hI
    obtain ⟨r1, st1, e1, a1, a2, hh1⟩ := draw_s hh (m := 4) (by omega) (by omega)
    obtain ⟨many, hmany⟩ : ∃ many, 2 + r1 = many := ⟨_, rfl⟩
    obtain ⟨r2, st2, e2, a3, a4, hh2⟩ := draw_s hh1 (m := 91 - many) (by omega) (by omega)
    obtain ⟨by', hby⟩ : ∃ by', many + r2 = by' := ⟨_, rfl⟩
    obtain ⟨fixed, st3, e3, a5, a6, hh3⟩ := draw_s hh2 (m := by') (by omega) (by omega)
    have m1 : 2 ≤ many := by omega
    have m2 : many ≤ 5 := by omega
    have b1 : many ≤ by' := by omega
    have b2 : by' ≤ 90 := by omega
    obtain ⟨T, eT, t1, t2, t3, t4, t5⟩ := best_s m1 m2 b1 b2 a5 (by omega) st3
    have hj : judge many by' fixed (.tuple (iL T)) = true := by
      rw [judge_ints t1 t2]; unfold judgeI
      rw [decide_eq_true t3, decide_eq_true t4, decide_eq_true t5]; rfl
    have hLB := law_best_s m1 m2 b1 b2 a5 (show fixed ≤ by' - 1 by omega)
    have hAB := are_best_s m1 m2 b1 b2 a5 (show fixed ≤ by' - 1 by omega)
    have hap := apart_s T by' (by omega) (by omega) (by omega) (by omega) t2
    have hdv : pyFdiv (.int by') (.int many) = some (.int (by' / many)) := fdiv_pos (by omega) (by omega)
    have hro : rgO by' = some (.own (iL (below by'.toNat))) := by unfold rgO; rw [if_pos (by omega), rg_below]
    simp [e1, hmany, e2, hby, e3, eT, hLB, hj, hAB, hap, t5, hdv, hro, rg1_s (show -1000000000 ≤ many by omega) (by omega)]
    obtain ⟨bn, hbn⟩ : ∃ bn : Nat, by' = bn := ⟨by'.toNat, by omega⟩
    have hbn2 : by'.toNat = bn := by omega
    rw [hbn2]
    generalize hF : mForL _ _ _ _ _ _ = F
    obtain ⟨env', st4, rfl, R, L, rfl, hp, hlen, hh4⟩ := for_res hF (fun rem env st => ∃ R L, env = [.raw (.scr ns), .mt 0, .v x, .v (.int many), .v (.int by'), .v (.int fixed), .v (.tuple (iL T)), .own (iL R), .own (iL L), .un, .un, .un, .un, .un, .un, .un] ∧ (R ++ L).Perm (below bn) ∧ R.length + rem.length = many.toNat ∧ HandOk st)
      ⟨[], below bn, rfl, List.Perm.refl _, by simp [rgD], hh3⟩ (fun y ys env st hI => by
        obtain ⟨R, L, rfl, hp, hlen, hh⟩ := hI
        have hll := hp.length_eq
        simp [below] at hll hlen
        obtain ⟨r, st', e, h1, h2, h3⟩ := draw_s hh (m := L.length) (by omega) (by omega)
        have hpo := pop_s (L := L) h1 h2 (by omega)
        have hal : R.length < 1000000 := by omega
        have hk : r.toNat < L.length := by omega
        refine ⟨.nx, [.raw (.scr ns), .mt 0, .v x, .v (.int many), .v (.int by'), .v (.int fixed), .v (.tuple (iL T)), .own (iL (R ++ [L.getD r.toNat 0])), .own (iL (L.eraseIdx r.toNat)), .v y, .un, .un, .un, .un, .un, .un], st', by simp [e, hpo, fApp, hal], .inl rfl, R ++ [L.getD r.toNat 0], L.eraseIdx r.toNat, by simp, ?_, by simp; omega, h3⟩
        refine List.Perm.trans ?_ hp
        rw [List.append_assoc]
        refine List.Perm.append_left R ?_
        exact er_perm L r.toNat hk)
    have hlen : R.length = many.toNat := by simpa using hlen
    have hnd : (R ++ L).Nodup := hp.nodup_iff.mpr (nodup_below bn)
    have hRb : ∀ x ∈ R, 0 ≤ x ∧ x ≤ by' - 1 := fun x hx => by
      have := mem_below (hp.mem_iff.mp (List.mem_append_left L hx))
      omega
    have hA : Asc (sortZ R) by' := asc_of (List.nodup_append.mp hnd).1 hRb
    have hRl : (sortZ R).length = R.length := (sortZ_perm R).length_eq
    have hap2 := apart_s (sortZ R) by' (by omega) (by omega) (by omega) (by omega) (fun x hx => hRb x ((sortZ_perm R).mem_iff.mp hx))
    have hla := law_apart_s (sortZ R) by' (by omega) (by omega)
    have hae := apart_eq hA (by omega)
    obtain ⟨step, hstep⟩ : ∃ step, by' / many = step := ⟨_, rfl⟩
    obtain ⟨m, hm⟩ : ∃ m : Nat, many = m := ⟨many.toNat, by omega⟩
    have htn : many.toNat = m := by omega
    have s1 : 0 ≤ step := by rw [← hstep]; exact Int.ediv_nonneg (by omega) (by omega)
    have hb0 : 0 < by' := by omega
    have s2 : step ≤ 90 := by rw [← hstep]; have := Int.ediv_le_self many (show 0 ≤ by' by omega); omega
    rw [hstep] at hdv
    simp [sort_ints (show R.length ≤ 1000000 by omega), hap2, hla, hae, hdv]
    have hrg : ∀ n : Nat, rgD 0 n = (List.range n).map fun (k : Nat) => PyData.int (k : Int) := fun n => by unfold rgD; simp
    rw [comp_on (List.range m) (fun (k : Nat) => PyData.int (k : Int)) (fun k => .int ((fixed + (k : Int) * step) % by')) (by simp [rg1_s (show -1000000000 ≤ many by omega) (by omega), hrg, htn]) (by simp; omega)
      (fun k hk => by
        have hkm : pyMul (.int (k : Int)) (.int step) = some (.int ((k : Int) * step)) := mul_r (by omega) (by omega)
        exact ⟨_, by simp [hkm, mod_pos hb0] <;> rfl, by simp⟩) (by simp [Sl.isOwn])]
    have ev : (List.range m).map (fun (k : Nat) => PyData.int ((fixed + (k : Int) * step) % by')) = iL (vals0 m by' fixed step) := by unfold vals0; simp
    have lv : (vals0 m by' fixed step).length ≤ 1000000 := by simp [vals0]; omega
    have lv2 : (sortZ (vals0 m by' fixed step)).length = m := by rw [(sortZ_perm _).length_eq]; simp [vals0]
    rw [ev]
    obtain ⟨O, hO⟩ : ∃ O, O = sortZ (vals0 m by' fixed step) := ⟨_, rfl⟩
    rw [← hO] at lv2
    have hmt : pyMul (.tuple [.bool true]) (.int many) = some (.tuple (List.replicate many.toNat [PyData.bool true]).flatten) := if_pos ⟨by simp, by omega, by omega, by simp⟩
    simp [sort_ints lv, ← hO, pySl, hmt, add_tt (xs := iL O) (ys := [.int by']) (by simp; omega)]
    rw [comp_on O PyData.int (fun i => .int (i + 1)) (by simp) (by omega) (fun i hi => ⟨_, by simp <;> rfl, by simp⟩) (by simp [Sl.isOwn])]
    simp [hmt, rg1_s]
    generalize hF : mForL _ _ _ _ _ _ = F
    obtain ⟨env', st5, rfl, TH, hTH, rfl, hh5⟩ := for_res hF (fun rem env st => ∃ TH : List PD, TH.length = 12 ∧ env = [.raw (.scr ns), .mt 0, .v x, .v (.int many), .v (.int by'), .v (.int fixed), .v (.tuple (iL T)), .v (.tuple (iL (sortZ R))), .own (iL L), .un, .v (.int step), .v (.tuple (iL O)), .v (.list TH), .un, .un, .un] ∧ HandOk st)
      ⟨_, rfl, rfl, hh4⟩ (fun y ys env st hI => by
        obtain ⟨TH, hTH, rfl, hh⟩ := hI
        obtain ⟨d, sta, ea, _, hha⟩ := deep_s hh
        have had : pyAdd (.list TH) (.list [d]) = some (.list (TH ++ [d])) := add_ll (by simp; omega)
        obtain ⟨th, stb, eb, _, hhb⟩ := some_s hha (TH ++ [d]) (by simp) (by simp; omega)
        exact ⟨.nx, [.raw (.scr ns), .mt 0, .v x, .v (.int many), .v (.int by'), .v (.int fixed), .v (.tuple (iL T)), .v (.tuple (iL (sortZ R))), .own (iL L), .un, .v (.int step), .v (.tuple (iL O)), .v (.list TH), .v y, .v th, .un], stb, by simp [ea, had, eb, hAB, hLB], .inl rfl, TH, hTH, by simp, hhb⟩)
    simp
    exact ⟨_, _, _, ⟨rfl, rfl, rfl⟩, .inl rfl, by simp, hh5⟩
  simp
end TL.Law

set_option maxHeartbeats 4000000
namespace TL.Law
open PySem PySem.Spec L2
open PyProof.Rows hiding St
def topS (i : Nat) : Stmt := PySem.Challenge.pw_printyard_k99_whole_best_angles.main.body.getD i (.Pass ⟨0, 0, 0, 0⟩)
abbrev s__law_hand : Stmt := topS 15
theorem sc__law_hand : FnScope ["script", "cells_now", "cell"] ["script"] (defScope s__law_hand) := ⟨rfl, rfl, rfl, by decide +kernel, rfl, by decide +kernel, by decide +kernel⟩

abbrev s_is_integer : Stmt := topS 5
theorem sc_is_integer : FnScope ["thing"] ["thing"] (defScope s_is_integer) := ⟨rfl, rfl, rfl, by decide +kernel, rfl, by decide +kernel, by decide +kernel⟩

abbrev s_is_within : Stmt := topS 6
theorem sc_is_within : FnScope ["thing", "least", "most"] ["thing", "least", "most"] (defScope s_is_within) := ⟨rfl, rfl, rfl, by decide +kernel, rfl, by decide +kernel, by decide +kernel⟩

abbrev s_check_number : Stmt := topS 9
theorem sc_check_number : FnScope ["thing", "least", "most"] ["thing", "least", "most"] (defScope s_check_number) := ⟨rfl, rfl, rfl, by decide +kernel, rfl, by decide +kernel, by decide +kernel⟩

abbrev s_is_sized : Stmt := topS 8
theorem sc_is_sized : FnScope ["thing", "least", "most"] ["thing", "least", "most"] (defScope s_is_sized) := ⟨rfl, rfl, rfl, by decide +kernel, rfl, by decide +kernel, by decide +kernel⟩

abbrev s_apart : Stmt := topS 11
theorem sc_apart : FnScope ["angles", "by", "gaps", "at", "one", "other"] ["angles", "by"] (defScope s_apart) := ⟨rfl, rfl, rfl, by decide +kernel, rfl, by decide +kernel, by decide +kernel⟩

abbrev s__law_draw : Stmt := topS 16
theorem sc__law_draw : FnScope ["hand", "many", "cell", "digit", "number"] ["hand", "many"] (defScope s__law_draw) := ⟨rfl, rfl, rfl, by decide +kernel, rfl, by decide +kernel, by decide +kernel⟩

abbrev s_best_angles : Stmt := topS 12
theorem sc_best_angles : FnScope ["many", "by", "fixed", "gap", "rows", "extra", "good", "row", "at"] ["many", "by", "fixed"] (defScope s_best_angles) := ⟨rfl, rfl, rfl, by decide +kernel, rfl, by decide +kernel, by decide +kernel⟩

abbrev s__law_apart : Stmt := topS 20
theorem sc__law_apart : FnScope ["angles", "by", "row", "gaps", "one", "other"] ["angles", "by"] (defScope s__law_apart) := ⟨rfl, rfl, rfl, by decide +kernel, rfl, by decide +kernel, by decide +kernel⟩

abbrev s__law_is_int : Stmt := topS 18
theorem sc__law_is_int : FnScope ["thing", "least", "most"] ["thing", "least", "most"] (defScope s__law_is_int) := ⟨rfl, rfl, rfl, by decide +kernel, rfl, by decide +kernel, by decide +kernel⟩

abbrev s__law_are_best : Stmt := topS 21
theorem sc__law_are_best : FnScope ["many", "by", "fixed", "thing", "one"] ["many", "by", "fixed", "thing"] (defScope s__law_are_best) := ⟨rfl, rfl, rfl, by decide +kernel, rfl, by decide +kernel, by decide +kernel⟩

abbrev s_is_tuple : Stmt := topS 7
theorem sc_is_tuple : FnScope ["thing", "size"] ["thing", "size"] (defScope s_is_tuple) := ⟨rfl, rfl, rfl, by decide +kernel, rfl, by decide +kernel, by decide +kernel⟩

abbrev s_are_best : Stmt := topS 13
theorem sc_are_best : FnScope ["many", "by", "fixed", "thing", "one", "at"] ["many", "by", "fixed", "thing"] (defScope s_are_best) := ⟨rfl, rfl, rfl, by decide +kernel, rfl, by decide +kernel, by decide +kernel⟩

abbrev s__law_some : Stmt := topS 17
theorem sc__law_some : FnScope ["hand", "things"] ["hand", "things"] (defScope s__law_some) := ⟨rfl, rfl, rfl, by decide +kernel, rfl, by decide +kernel, by decide +kernel⟩

abbrev s__law_deep : Stmt := topS 19
theorem sc__law_deep : FnScope ["hand", "thing", "turn"] ["hand"] (defScope s__law_deep) := ⟨rfl, rfl, rfl, by decide +kernel, rfl, by decide +kernel, by decide +kernel⟩

abbrev s_law : Stmt := topS 22
theorem sc_law : FnScope ["script", "hand", "turn", "many", "by", "fixed", "told", "row", "left", "one", "step", "other", "things", "again", "thing", "at"] ["script"] (defScope s_law) := ⟨rfl, rfl, rfl, by decide +kernel, rfl, by decide +kernel, by decide +kernel⟩

theorem bt_abs : bootBuiltins "abs" = some (.builtin "abs") := by decide +kernel
theorem bt_all : bootBuiltins "all" = some (.builtin "all") := by decide +kernel
theorem bt_bool : bootBuiltins "bool" = some (.type "bool") := by decide +kernel
theorem bt_enumerate : bootBuiltins "enumerate" = some (.type "enumerate") := by decide +kernel
theorem bt_int : bootBuiltins "int" = some (.type "int") := by decide +kernel
theorem bt_isinstance : bootBuiltins "isinstance" = some (.builtin "isinstance") := by decide +kernel
theorem bt_len : bootBuiltins "len" = some (.builtin "len") := by decide +kernel
theorem bt_list : bootBuiltins "list" = some (.type "list") := by decide +kernel
theorem bt_min : bootBuiltins "min" = some (.builtin "min") := by decide +kernel
theorem bt_range : bootBuiltins "range" = some (.type "range") := by decide +kernel
theorem bt_set : bootBuiltins "set" = some (.type "set") := by decide +kernel
theorem bt_sorted : bootBuiltins "sorted" = some (.builtin "sorted") := by decide +kernel
theorem bt_tuple : bootBuiltins "tuple" = some (.type "tuple") := by decide +kernel
theorem bt_zip : bootBuiltins "zip" = some (.type "zip") := by decide +kernel
structure Gs (K : PySem.W.Frag) (mg : Str → Option Value) where
  a__law_hand : Addr
  d__law_hand : FuncData
  F__law_hand : Fun K "_law_hand" "_law_hand" s__law_hand a__law_hand d__law_hand
  g__law_hand : mg "_law_hand" = some (.ref a__law_hand)
  b__law_hand : Binds K d__law_hand ["script"] []
  a_is_integer : Addr
  d_is_integer : FuncData
  F_is_integer : Fun K "is_integer" "is_integer" s_is_integer a_is_integer d_is_integer
  g_is_integer : mg "is_integer" = some (.ref a_is_integer)
  b_is_integer : Binds K d_is_integer ["thing"] []
  a_is_within : Addr
  d_is_within : FuncData
  F_is_within : Fun K "is_within" "is_within" s_is_within a_is_within d_is_within
  g_is_within : mg "is_within" = some (.ref a_is_within)
  b_is_within : Binds K d_is_within ["thing", "least", "most"] []
  a_check_number : Addr
  d_check_number : FuncData
  F_check_number : Fun K "check_number" "check_number" s_check_number a_check_number d_check_number
  g_check_number : mg "check_number" = some (.ref a_check_number)
  b_check_number : Binds K d_check_number ["thing", "least", "most"] []
  a_is_sized : Addr
  d_is_sized : FuncData
  F_is_sized : Fun K "is_sized" "is_sized" s_is_sized a_is_sized d_is_sized
  g_is_sized : mg "is_sized" = some (.ref a_is_sized)
  b_is_sized : Binds K d_is_sized ["thing", "least", "most"] []
  a_apart : Addr
  d_apart : FuncData
  F_apart : Fun K "apart" "apart" s_apart a_apart d_apart
  g_apart : mg "apart" = some (.ref a_apart)
  b_apart : Binds K d_apart ["angles", "by"] []
  a__law_draw : Addr
  d__law_draw : FuncData
  F__law_draw : Fun K "_law_draw" "_law_draw" s__law_draw a__law_draw d__law_draw
  g__law_draw : mg "_law_draw" = some (.ref a__law_draw)
  b__law_draw : Binds K d__law_draw ["hand", "many"] []
  a_best_angles : Addr
  d_best_angles : FuncData
  F_best_angles : Fun K "best_angles" "best_angles" s_best_angles a_best_angles d_best_angles
  g_best_angles : mg "best_angles" = some (.ref a_best_angles)
  b_best_angles : Binds K d_best_angles ["many", "by", "fixed"] []
  a__law_apart : Addr
  d__law_apart : FuncData
  F__law_apart : Fun K "_law_apart" "_law_apart" s__law_apart a__law_apart d__law_apart
  g__law_apart : mg "_law_apart" = some (.ref a__law_apart)
  b__law_apart : Binds K d__law_apart ["angles", "by"] []
  a__law_is_int : Addr
  d__law_is_int : FuncData
  F__law_is_int : Fun K "_law_is_int" "_law_is_int" s__law_is_int a__law_is_int d__law_is_int
  g__law_is_int : mg "_law_is_int" = some (.ref a__law_is_int)
  b__law_is_int : Binds K d__law_is_int ["thing", "least", "most"] []
  a__law_are_best : Addr
  d__law_are_best : FuncData
  F__law_are_best : Fun K "_law_are_best" "_law_are_best" s__law_are_best a__law_are_best d__law_are_best
  g__law_are_best : mg "_law_are_best" = some (.ref a__law_are_best)
  b__law_are_best : Binds K d__law_are_best ["many", "by", "fixed", "thing"] []
  a_is_tuple : Addr
  d_is_tuple : FuncData
  F_is_tuple : Fun K "is_tuple" "is_tuple" s_is_tuple a_is_tuple d_is_tuple
  g_is_tuple : mg "is_tuple" = some (.ref a_is_tuple)
  b_is_tuple : Binds K d_is_tuple ["thing", "size"] []
  a_are_best : Addr
  d_are_best : FuncData
  F_are_best : Fun K "are_best" "are_best" s_are_best a_are_best d_are_best
  g_are_best : mg "are_best" = some (.ref a_are_best)
  b_are_best : Binds K d_are_best ["many", "by", "fixed", "thing"] []
  a__law_some : Addr
  d__law_some : FuncData
  F__law_some : Fun K "_law_some" "_law_some" s__law_some a__law_some d__law_some
  g__law_some : mg "_law_some" = some (.ref a__law_some)
  b__law_some : Binds K d__law_some ["hand", "things"] []
  a__law_deep : Addr
  d__law_deep : FuncData
  F__law_deep : Fun K "_law_deep" "_law_deep" s__law_deep a__law_deep d__law_deep
  g__law_deep : mg "_law_deep" = some (.ref a__law_deep)
  b__law_deep : Binds K d__law_deep ["hand"] []
  a_law : Addr
  d_law : FuncData
  F_law : Fun K "law" "law" s_law a_law d_law
  g_law : mg "law" = some (.ref a_law)
  b_law : Binds K d_law ["script"] []
  z_abs : mg "abs" = none
  z_all : mg "all" = none
  z_bool : mg "bool" = none
  z_enumerate : mg "enumerate" = none
  z_int : mg "int" = none
  z_isinstance : mg "isinstance" = none
  z_len : mg "len" = none
  z_list : mg "list" = none
  z_min : mg "min" = none
  z_range : mg "range" = none
  z_set : mg "set" = none
  z_sorted : mg "sorted" = none
  z_tuple : mg "tuple" = none
  z_zip : mg "zip" = none
theorem ok__law_hand {P : Program} {w : World} {K : PySem.W.Frag} {mg : Str → Option Value} {base : Heap} (G : Gs K mg) : FnOk P w K mg base (L2.CX P w) 1 G.a__law_hand G.d__law_hand ["script"] (spT K mg f__law_hand) :=
  fn_T (k := 0) G.F__law_hand sc__law_hand (by decide) fun cdv A outer s0 H E x =>
  (jss_cons (js_setLcF (i := 1) (own := [("cell", 2)]) x.o.calm sc__law_hand.nd rfl rfl (sw_true rfl rfl rfl (by decide +kernel)) (ji_of (je_slS (pe_var (i := 0) rfl (.inl (by rfl))) jp_none (jp_some (je_int)))) (blkOk_by (by rfl)) (by decide) (fun _ _ _ _ _ => (jt_name (i := 2) sc__law_hand.nd rfl (.inl (by rfl)))) (fun _ _ _ _ _ => jtt_nil) (fun _ _ _ _ _ => (je_callB c_abs (by rfl) G.z_abs bt_abs (jvs_one (jv_of (je_callTy c_int (by rfl) G.z_int bt_int (jvs_one (jv_var (pe_var (i := 2) rfl (.inl (by rfl)))))))))))
  (jss_one (js_retL (jds_cons (je_var (pe_var (i := 1) rfl (.inl (by rfl)))) (jds_cons (je_int) (jds_cons (je_int) (jds_cons (je_bin op_addD (je_int) (je_bin op_mulD (je_int) (je_callB c_len (by rfl) G.z_len bt_len (jvs_one (jv_var (pe_var (i := 1) rfl (.inl (by rfl)))))))) (jds_cons (je_int) jds_nil))))))))

theorem ok_is_integer {P : Program} {w : World} {K : PySem.W.Frag} {mg : Str → Option Value} {base : Heap} (G : Gs K mg) : FnOk P w K mg base (L2.CX P w) 1 G.a_is_integer G.d_is_integer ["thing"] (spT K mg f_is_integer) :=
  fn_T (k := 0) G.F_is_integer sc_is_integer (by decide) fun cdv A outer s0 H E x =>
  (jss_one (js_ret ((je_and (je_isA (Ts := "int") (by unfold isaT; simp) (by rfl) G.z_isinstance bt_isinstance (by rfl) G.z_int bt_int (je_var (pe_var (i := 0) rfl (.inl (by rfl))))) (je_one (je_not (je_isA (Ts := "bool") (by unfold isaT; simp) (by rfl) G.z_isinstance bt_isinstance (by rfl) G.z_bool bt_bool (je_var (pe_var (i := 0) rfl (.inl (by rfl)))))))))))

theorem ok_is_within {P : Program} {w : World} {K : PySem.W.Frag} {mg : Str → Option Value} {base : Heap} (G : Gs K mg) : FnOk P w K mg base (L2.CX P w) 2 G.a_is_within G.d_is_within ["thing", "least", "most"] (spT K mg f_is_within) :=
  fn_T (k := 1) G.F_is_within sc_is_within (by decide) fun cdv A outer s0 H E x =>
  (jss_one (js_ret ((je_and (je_of (jg_call (ok_is_integer G) x.tk (x.hr.mono (by decide)) (by rfl) G.g_is_integer G.F_is_integer.kp G.b_is_integer (jas_cons (jg_of (je_var (pe_var (i := 0) rfl (.inl (by rfl))))) jas_nil))) (je_one (je_chain (op_leT' x.o) (op_leT' x.o) (je_var (pe_var (i := 1) rfl (.inl (by rfl)))) (je_var (pe_var (i := 0) rfl (.inl (by rfl)))) (je_var (pe_var (i := 2) rfl (.inl (by rfl))))))))))

theorem ok_check_number {P : Program} {w : World} {K : PySem.W.Frag} {mg : Str → Option Value} {base : Heap} (G : Gs K mg) : FnOk P w K mg base (L2.CX P w) 3 G.a_check_number G.d_check_number ["thing", "least", "most"] (spT K mg f_check_number) :=
  fn_T (k := 2) G.F_check_number sc_check_number (by decide) fun cdv A outer s0 H E x =>
  (jss_one (js_if (jb_not (jb_truth (je_of (jg_call (ok_is_within G) x.tk (x.hr.mono (by decide)) (by rfl) G.g_is_within G.F_is_within.kp G.b_is_within (jas_cons (jg_of (je_var (pe_var (i := 0) rfl (.inl (by rfl))))) (jas_cons (jg_of (je_var (pe_var (i := 1) rfl (.inl (by rfl))))) (jas_cons (jg_of (je_var (pe_var (i := 2) rfl (.inl (by rfl))))) jas_nil)))))))
  (jss_one (js_never))
  jss_nil))

theorem ok_is_sized {P : Program} {w : World} {K : PySem.W.Frag} {mg : Str → Option Value} {base : Heap} (G : Gs K mg) : FnOk P w K mg base (L2.CX P w) 1 G.a_is_sized G.d_is_sized ["thing", "least", "most"] (spT K mg f_is_sized) :=
  fn_T (k := 0) G.F_is_sized sc_is_sized (by decide) fun cdv A outer s0 H E x =>
  (jss_one (js_ret ((je_and (je_isA (Ts := "tuple") (by unfold isaT; simp) (by rfl) G.z_isinstance bt_isinstance (by rfl) G.z_tuple bt_tuple (je_var (pe_var (i := 0) rfl (.inl (by rfl))))) (je_one (je_chain (op_leT' x.o) (op_leT' x.o) (je_var (pe_var (i := 1) rfl (.inl (by rfl)))) (je_callB c_len (by rfl) G.z_len bt_len (jvs_one (jv_var (pe_var (i := 0) rfl (.inl (by rfl)))))) (je_var (pe_var (i := 2) rfl (.inl (by rfl))))))))))

theorem ok_apart {P : Program} {w : World} {K : PySem.W.Frag} {mg : Str → Option Value} {base : Heap} (G : Gs K mg) : FnOk P w K mg base (L2.CX P w) 4 G.a_apart G.d_apart ["angles", "by"] (spT K mg f_apart) :=
  fn_T (k := 3) G.F_apart sc_apart (by decide) fun cdv A outer s0 H E x =>
  (jss_cons (js_drop (jg_call (ok_check_number G) x.tk (x.hr.mono (by decide)) (by rfl) G.g_check_number G.F_check_number.kp G.b_check_number (jas_cons (jg_of (je_var (pe_var (i := 1) rfl (.inr (.inl (by rfl)))))) (jas_cons (jg_of (je_int)) (jas_cons (jg_of (je_int)) jas_nil)))))
  (jss_cons (js_if (PW.pt (jw_or (jb_not (jb_truth (je_of (jg_call (ok_is_sized G) x.tk (x.hr.mono (by decide)) (by rfl) G.g_is_sized G.F_is_sized.kp G.b_is_sized (jas_cons (jg_of (je_var (pe_var (i := 0) rfl (.inl (by rfl))))) (jas_cons (jg_of (je_int)) (jas_cons (jg_of (je_int)) jas_nil))))))) (jw_or1 (jb_not (jb_truth (je_callB (c_all x.o.calm) (by rfl) G.z_all bt_all (jvs_one (jv_of (je_fz (jo_comp (own := [("one", 4)]) x.o.calm sc_apart.nd (ji_of (je_var (pe_var (i := 0) rfl (.inl (by rfl))))) (blkOk_by (by rfl)) (by decide) (fun _ _ _ _ _ => (jt_name (i := 4) sc_apart.nd rfl (.inl (by rfl)))) (fun _ _ _ _ _ => jtt_nil) (fun _ _ _ _ _ => (je_of (jg_call (ok_is_within G) x.bk.tk (x.bk.hr.mono (by decide)) (by rfl) G.g_is_within G.F_is_within.kp G.b_is_within (jas_cons (jg_of (je_var (pe_var (i := 4) rfl (.inl (by rfl))))) (jas_cons (jg_of (je_int)) (jas_cons (jg_of (je_bin op_subD (je_var (pe_var (i := 1) rfl (.inr (.inl (by rfl))))) (je_int))) jas_nil))))))))))))))))
  (jss_one (js_never))
  jss_nil)
  (jss_cons (js_setO (i := 2) (jo_lst jds_nil) sc_apart.nd rfl (.inl (by rfl)))
  (jss_cons (js_for [3, 4] x.hp x.o.calm (ji_enum (by rfl) G.z_enumerate (je_var (pe_var (i := 0) rfl (.inl (by rfl))))) (jt_tup x.o.calm (jts_cons (jt_name (i := 3) sc_apart.nd rfl (.inl (by rfl))) (jts_cons (jt_name (i := 4) sc_apart.nd rfl (.inr (by rfl))) jts_nil)))
  (jss_one (js_drop (jg_of (je_ext (pe_var (i := 2) rfl (.inl (by rfl))) (je_fz (jo_comp (own := [("other", 5)]) x.o.calm sc_apart.nd (ji_of (je_slV (pe_var (i := 0) rfl (.inl (by rfl))) jp_none (jp_some (je_var (pe_var (i := 3) rfl (.inl (by rfl))))))) (blkOk_by (by rfl)) (by decide) (fun _ _ _ _ _ => (jt_name (i := 5) sc_apart.nd rfl (.inl (by rfl)))) (fun _ _ _ _ _ => jtt_nil) (fun _ _ _ _ _ => (je_callB (c_min x.bk.o) (by rfl) G.z_min bt_min (jvs_cons (je_bin op_modD (je_bin op_subD (je_var (pe_var (i := 4) rfl (.inr (.inl (by rfl))))) (je_var (pe_var (i := 5) rfl (.inl (by rfl))))) (je_var (pe_var (i := 1) rfl (.inr (.inl (by rfl)))))) (jvs_one (jv_of (je_bin op_modD (je_bin op_subD (je_var (pe_var (i := 5) rfl (.inl (by rfl)))) (je_var (pe_var (i := 4) rfl (.inr (.inl (by rfl)))))) (je_var (pe_var (i := 1) rfl (.inr (.inl (by rfl))))))))))))))))))
  (jss_one (js_ret (je_callB (c_min x.o) (by rfl) G.z_min bt_min (jvs_one (jv_var (pe_var (i := 2) rfl (.inl (by rfl))))))))))))

theorem ok__law_draw {P : Program} {w : World} {K : PySem.W.Frag} {mg : Str → Option Value} {base : Heap} (G : Gs K mg) : FnOk P w K mg base (L2.CX P w) 1 G.a__law_draw G.d__law_draw ["hand", "many"] (spT K mg f__law_draw) :=
  fn_T (k := 0) G.F__law_draw sc__law_draw (by decide) fun cdv A outer s0 H E x =>
  (jss_cons (js_if (PW.pt (jw_and (jb_cmp (op_eqT x.o) (je_ixV (pe_var (i := 0) rfl (.inl (by rfl))) (je_int) (fun _ _ => rfl)) (je_int) (by rfl)) (jw_and1 (jb_cmp (op_ltT' x.o) (je_ixV (pe_var (i := 0) rfl (.inl (by rfl))) (je_int) (fun _ _ => rfl)) (je_callB c_len (by rfl) G.z_len bt_len (jvs_one (jv_of (je_ixV (pe_var (i := 0) rfl (.inl (by rfl))) (je_int) (fun _ _ => rfl))))) (by rfl)))))
  (jss_cons (js_set (i := 2) (je_ix (je_ixV (pe_var (i := 0) rfl (.inl (by rfl))) (je_int) (fun _ _ => rfl)) (je_ixV (pe_var (i := 0) rfl (.inl (by rfl))) (je_int) (fun _ _ => rfl)) (fun _ _ => rfl)) sc__law_draw.nd rfl (.inl (by rfl)))
  (jss_cons (js_store (pe_var (i := 0) rfl (.inl (by rfl))) (je_int) (je_bin op_addD (je_ixV (pe_var (i := 0) rfl (.inl (by rfl))) (je_int) (fun _ _ => rfl)) (je_int)))
  (jss_cons (js_store (pe_var (i := 0) rfl (.inl (by rfl))) (je_int) (je_bin op_modD (je_callTy c_int (by rfl) G.z_int bt_int (jvs_one (jv_of (je_bin op_addD (je_bin op_addD (je_bin op_mulD (je_ixV (pe_var (i := 0) rfl (.inl (by rfl))) (je_int) (fun _ _ => rfl)) (je_int)) (je_bin op_mulD (je_var (pe_var (i := 2) rfl (.inl (by rfl)))) (je_int))) (je_int))))) (je_int)))
  (jss_one (js_store (pe_var (i := 0) rfl (.inl (by rfl))) (je_int) (je_if (jb_cmp (op_geT' x.o) (je_var (pe_var (i := 2) rfl (.inl (by rfl)))) (je_bin op_powD (je_int) (je_int)) (by rfl)) (je_var (pe_var (i := 2) rfl (.inl (by rfl)))) (je_int)))))))
  jss_nil)
  (jss_cons (js_if (jb_cmp (op_gtT' x.o) (je_ixV (pe_var (i := 0) rfl (.inl (by rfl))) (je_int) (fun _ _ => rfl)) (je_int) (by rfl))
  (jss_cons (js_set (i := 3) (je_bin op_modD (je_callTy c_int (by rfl) G.z_int bt_int (jvs_one (jv_of (je_ixV (pe_var (i := 0) rfl (.inl (by rfl))) (je_int) (fun _ _ => rfl))))) (je_var (pe_var (i := 1) rfl (.inl (by rfl))))) sc__law_draw.nd rfl (.inl (by rfl)))
  (jss_cons (js_store (pe_var (i := 0) rfl (.inl (by rfl))) (je_int) (je_bin op_fdivD (je_ixV (pe_var (i := 0) rfl (.inl (by rfl))) (je_int) (fun _ _ => rfl)) (je_var (pe_var (i := 1) rfl (.inl (by rfl))))))
  (jss_one (js_ret (je_var (pe_var (i := 3) rfl (.inl (by rfl))))))))
  jss_nil)
  (jss_cons (js_store (pe_var (i := 0) rfl (.inl (by rfl))) (je_int) (je_bin op_addD (je_ixV (pe_var (i := 0) rfl (.inl (by rfl))) (je_int) (fun _ _ => rfl)) (je_int)))
  (jss_cons (js_set (i := 4) (je_bin op_modD (je_callTy c_int (by rfl) G.z_int bt_int (jvs_one (jv_of (je_bin op_mulD (je_callTy c_int (by rfl) G.z_int bt_int (jvs_one (jv_of (je_bin op_addD (je_ixV (pe_var (i := 0) rfl (.inl (by rfl))) (je_int) (fun _ _ => rfl)) (je_bin op_mulD (je_int) (je_ixV (pe_var (i := 0) rfl (.inl (by rfl))) (je_int) (fun _ _ => rfl))))))) (je_int))))) (je_int)) sc__law_draw.nd rfl (.inl (by rfl)))
  (jss_cons (js_set (i := 4) (je_bin op_modD (je_callTy c_int (by rfl) G.z_int bt_int (jvs_one (jv_of (je_bin op_mulD (je_var (pe_var (i := 4) rfl (.inl (by rfl)))) (je_bin op_addD (je_bin op_fdivD (je_var (pe_var (i := 4) rfl (.inl (by rfl)))) (je_int)) (je_int)))))) (je_int)) sc__law_draw.nd rfl (.inl (by rfl)))
  (jss_cons (js_set (i := 4) (je_bin op_modD (je_callTy c_int (by rfl) G.z_int bt_int (jvs_one (jv_of (je_bin op_mulD (je_var (pe_var (i := 4) rfl (.inl (by rfl)))) (je_bin op_addD (je_bin op_fdivD (je_var (pe_var (i := 4) rfl (.inl (by rfl)))) (je_int)) (je_int)))))) (je_int)) sc__law_draw.nd rfl (.inl (by rfl)))
  (jss_one (js_ret (je_bin op_modD (je_callTy c_int (by rfl) G.z_int bt_int (jvs_one (jv_of (je_bin op_fdivD (je_var (pe_var (i := 4) rfl (.inl (by rfl)))) (je_int))))) (je_var (pe_var (i := 1) rfl (.inl (by rfl)))))))))))))

theorem ok_best_angles {P : Program} {w : World} {K : PySem.W.Frag} {mg : Str → Option Value} {base : Heap} (G : Gs K mg) : FnOk P w K mg base (L2.CX P w) 5 G.a_best_angles G.d_best_angles ["many", "by", "fixed"] (spT K mg f_best_angles) :=
  fn_T (k := 4) G.F_best_angles sc_best_angles (by decide) fun cdv A outer s0 H E x =>
  (jss_cons (js_drop (jg_call (ok_check_number G) x.tk (x.hr.mono (by decide)) (by rfl) G.g_check_number G.F_check_number.kp G.b_check_number (jas_cons (jg_of (je_var (pe_var (i := 0) rfl (.inl (by rfl))))) (jas_cons (jg_of (je_int)) (jas_cons (jg_of (je_int)) jas_nil)))))
  (jss_cons (js_drop (jg_call (ok_check_number G) x.tk (x.hr.mono (by decide)) (by rfl) G.g_check_number G.F_check_number.kp G.b_check_number (jas_cons (jg_of (je_var (pe_var (i := 1) rfl (.inr (.inl (by rfl)))))) (jas_cons (jg_of (je_var (pe_var (i := 0) rfl (.inl (by rfl))))) (jas_cons (jg_of (je_int)) jas_nil)))))
  (jss_cons (js_drop (jg_call (ok_check_number G) x.tk (x.hr.mono (by decide)) (by rfl) G.g_check_number G.F_check_number.kp G.b_check_number (jas_cons (jg_of (je_var (pe_var (i := 2) rfl (.inr (.inl (by rfl)))))) (jas_cons (jg_of (je_int)) (jas_cons (jg_of (je_bin op_subD (je_var (pe_var (i := 1) rfl (.inr (.inl (by rfl))))) (je_int))) jas_nil)))))
  (jss_cons (js_set (i := 3) (je_bin op_fdivD (je_var (pe_var (i := 1) rfl (.inr (.inl (by rfl))))) (je_var (pe_var (i := 0) rfl (.inl (by rfl))))) sc_best_angles.nd rfl (.inr (by rfl)))
  (jss_cons (js_setO (i := 4) (jo_lst (jds_cons (je_callTy c_tuple (by rfl) G.z_tuple bt_tuple (jvs_one (jv_of (je_callB (c_sorted x.o) (by rfl) G.z_sorted bt_sorted (jvs_one (jv_of (je_fz (jo_comp (own := [("at", 8)]) x.o.calm sc_best_angles.nd (ji_rg1 (by rfl) G.z_range (jds_cons (je_var (pe_var (i := 0) rfl (.inl (by rfl)))) jds_nil)) (blkOk_by (by rfl)) (by decide) (fun _ _ _ _ _ => (jt_name (i := 8) sc_best_angles.nd rfl (.inl (by rfl)))) (fun _ _ _ _ _ => jtt_nil) (fun _ _ _ _ _ => (je_bin op_modD (je_bin op_addD (je_var (pe_var (i := 2) rfl (.inr (.inl (by rfl))))) (je_bin op_mulD (je_var (pe_var (i := 8) rfl (.inl (by rfl)))) (je_var (pe_var (i := 3) rfl (.inr (.inl (by rfl))))))) (je_var (pe_var (i := 1) rfl (.inr (.inl (by rfl))))))))))))))) jds_nil)) sc_best_angles.nd rfl (.inl (by rfl)))
  (jss_cons (js_for [5] x.hp x.o.calm (ji_rg1 (by rfl) G.z_range (jds_cons (je_bin op_addD (je_bin op_subD (je_var (pe_var (i := 1) rfl (.inr (.inl (by rfl))))) (je_bin op_mulD (je_var (pe_var (i := 0) rfl (.inl (by rfl)))) (je_var (pe_var (i := 3) rfl (.inr (.inl (by rfl))))))) (je_int)) jds_nil)) (jt_name (i := 5) sc_best_angles.nd rfl (.inr (by rfl)))
  (jss_one (js_drop (jg_of (je_app (pe_var (i := 4) rfl (.inl (by rfl))) (je_callTy c_tuple (by rfl) G.z_tuple bt_tuple (jvs_one (jv_of (je_callB (c_sorted x.o) (by rfl) G.z_sorted bt_sorted (jvs_one (jv_of (je_fz (jo_comp (own := [("at", 8)]) x.o.calm sc_best_angles.nd (ji_rg1 (by rfl) G.z_range (jds_cons (je_var (pe_var (i := 0) rfl (.inl (by rfl)))) jds_nil)) (blkOk_by (by rfl)) (by decide) (fun _ _ _ _ _ => (jt_name (i := 8) sc_best_angles.nd rfl (.inl (by rfl)))) (fun _ _ _ _ _ => jtt_nil) (fun _ _ _ _ _ => (je_bin op_modD (je_bin op_addD (je_bin op_addD (je_var (pe_var (i := 2) rfl (.inr (.inl (by rfl))))) (je_bin op_mulD (je_var (pe_var (i := 8) rfl (.inl (by rfl)))) (je_var (pe_var (i := 3) rfl (.inr (.inl (by rfl))))))) (je_bin op_mulD (je_var (pe_var (i := 5) rfl (.inr (.inl (by rfl))))) (je_callTy c_int (by rfl) G.z_int bt_int (jvs_one (jv_of (je_cmp (op_gtT' x.bk.o) (je_var (pe_var (i := 8) rfl (.inl (by rfl)))) (je_int) (by rfl))))))) (je_var (pe_var (i := 1) rfl (.inr (.inl (by rfl))))))))))))))))))))
  (jss_cons (js_setLcF (i := 6) (own := [("row", 7)]) x.o.calm sc_best_angles.nd rfl rfl (sw_true rfl rfl rfl (by decide +kernel)) (ji_of (je_var (pe_var (i := 4) rfl (.inl (by rfl))))) (blkOk_by (by rfl)) (by decide) (fun _ _ _ _ _ => (jt_name (i := 7) sc_best_angles.nd rfl (.inl (by rfl)))) (fun _ _ _ _ _ => (jtt_one (jb_cmp (op_eqT x.bk.o) (je_of (jg_call (ok_apart G) x.bk.tk (x.bk.hr.mono (by decide)) (by rfl) G.g_apart G.F_apart.kp G.b_apart (jas_cons (jg_of (je_var (pe_var (i := 7) rfl (.inl (by rfl))))) (jas_cons (jg_of (je_var (pe_var (i := 1) rfl (.inr (.inl (by rfl)))))) jas_nil)))) (je_var (pe_var (i := 3) rfl (.inr (.inl (by rfl))))) (by rfl)))) (fun _ _ _ _ _ => (je_var (pe_var (i := 7) rfl (.inl (by rfl))))))
  (jss_one (js_ret (je_callB (c_min x.o) (by rfl) G.z_min bt_min (jvs_one (jv_var (pe_var (i := 6) rfl (.inl (by rfl)))))))))))))))

theorem ok__law_apart {P : Program} {w : World} {K : PySem.W.Frag} {mg : Str → Option Value} {base : Heap} (G : Gs K mg) : FnOk P w K mg base (L2.CX P w) 1 G.a__law_apart G.d__law_apart ["angles", "by"] (spT K mg f__law_apart) :=
  fn_T (k := 0) G.F__law_apart sc__law_apart (by decide) fun cdv A outer s0 H E x =>
  (jss_cons (js_set (i := 2) (je_callB (c_sorted x.o) (by rfl) G.z_sorted bt_sorted (jvs_one (jv_var (pe_var (i := 0) rfl (.inl (by rfl)))))) sc__law_apart.nd rfl (.inl (by rfl)))
  (jss_cons (js_set (i := 3) (je_bin op_addD (je_fz (jo_comp (own := [("one", 4), ("other", 5)]) x.o.calm sc__law_apart.nd (ji_zip (by rfl) G.z_zip (je_var (pe_var (i := 2) rfl (.inl (by rfl)))) (je_slV (pe_var (i := 2) rfl (.inl (by rfl))) (jp_some (je_int)) jp_none)) (blkOk_by (by rfl)) (by decide) (fun _ _ _ _ _ => (jt_tup x.bk.o.calm (jts_cons (jt_name (i := 4) sc__law_apart.nd rfl (.inl (by rfl))) (jts_cons (jt_name (i := 5) sc__law_apart.nd rfl (.inl (by rfl))) jts_nil)))) (fun _ _ _ _ _ => jtt_nil) (fun _ _ _ _ _ => (je_bin op_subD (je_var (pe_var (i := 5) rfl (.inl (by rfl)))) (je_var (pe_var (i := 4) rfl (.inl (by rfl)))))))) (je_lst (jds_cons (je_bin op_subD (je_bin op_addD (je_ixV (pe_var (i := 2) rfl (.inl (by rfl))) (je_int) (fun _ _ => rfl)) (je_var (pe_var (i := 1) rfl (.inl (by rfl))))) (je_ixV (pe_var (i := 2) rfl (.inl (by rfl))) (je_neg (je_int)) (fun _ _ => rfl))) jds_nil))) sc__law_apart.nd rfl (.inl (by rfl)))
  (jss_one (js_ret (je_callB (c_min x.o) (by rfl) G.z_min bt_min (jvs_one (jv_var (pe_var (i := 3) rfl (.inl (by rfl))))))))))

theorem ok__law_is_int {P : Program} {w : World} {K : PySem.W.Frag} {mg : Str → Option Value} {base : Heap} (G : Gs K mg) : FnOk P w K mg base (L2.CX P w) 1 G.a__law_is_int G.d__law_is_int ["thing", "least", "most"] (spT K mg f__law_is_int) :=
  fn_T (k := 0) G.F__law_is_int sc__law_is_int (by decide) fun cdv A outer s0 H E x =>
  (jss_cons (js_if (jb_not (jb_truth (je_isA (Ts := "int") (by unfold isaT; simp) (by rfl) G.z_isinstance bt_isinstance (by rfl) G.z_int bt_int (je_var (pe_var (i := 0) rfl (.inl (by rfl)))))))
  (jss_one (js_ret (je_bl)))
  jss_nil)
  (jss_cons (js_if (jb_truth (je_isA (Ts := "bool") (by unfold isaT; simp) (by rfl) G.z_isinstance bt_isinstance (by rfl) G.z_bool bt_bool (je_var (pe_var (i := 0) rfl (.inl (by rfl))))))
  (jss_one (js_ret (je_bl)))
  jss_nil)
  (jss_one (js_ret (je_chain (op_leT' x.o) (op_leT' x.o) (je_var (pe_var (i := 1) rfl (.inl (by rfl)))) (je_var (pe_var (i := 0) rfl (.inl (by rfl)))) (je_var (pe_var (i := 2) rfl (.inl (by rfl)))))))))

theorem ok__law_are_best {P : Program} {w : World} {K : PySem.W.Frag} {mg : Str → Option Value} {base : Heap} (G : Gs K mg) : FnOk P w K mg base (L2.CX P w) 2 G.a__law_are_best G.d__law_are_best ["many", "by", "fixed", "thing"] (spT K mg f__law_are_best) :=
  fn_T (k := 1) G.F__law_are_best sc__law_are_best (by decide) fun cdv A outer s0 H E x =>
  (jss_cons (js_if (jb_not (jb_truth (je_isA (Ts := "tuple") (by unfold isaT; simp) (by rfl) G.z_isinstance bt_isinstance (by rfl) G.z_tuple bt_tuple (je_var (pe_var (i := 3) rfl (.inl (by rfl)))))))
  (jss_one (js_ret (je_bl)))
  jss_nil)
  (jss_cons (js_if (jb_cmp (op_neT x.o) (je_callB c_len (by rfl) G.z_len bt_len (jvs_one (jv_var (pe_var (i := 3) rfl (.inl (by rfl)))))) (je_var (pe_var (i := 0) rfl (.inl (by rfl)))) (by rfl))
  (jss_one (js_ret (je_bl)))
  jss_nil)
  (jss_cons (js_if (jb_not (jb_truth (je_callB (c_all x.o.calm) (by rfl) G.z_all bt_all (jvs_one (jv_of (je_fz (jo_comp (own := [("one", 4)]) x.o.calm sc__law_are_best.nd (ji_of (je_var (pe_var (i := 3) rfl (.inl (by rfl))))) (blkOk_by (by rfl)) (by decide) (fun _ _ _ _ _ => (jt_name (i := 4) sc__law_are_best.nd rfl (.inl (by rfl)))) (fun _ _ _ _ _ => jtt_nil) (fun _ _ _ _ _ => (je_of (jg_call (ok__law_is_int G) x.bk.tk (x.bk.hr.mono (by decide)) (by rfl) G.g__law_is_int G.F__law_is_int.kp G.b__law_is_int (jas_cons (jg_of (je_var (pe_var (i := 4) rfl (.inl (by rfl))))) (jas_cons (jg_of (je_int)) (jas_cons (jg_of (je_bin op_subD (je_var (pe_var (i := 1) rfl (.inr (.inl (by rfl))))) (je_int))) jas_nil)))))))))))))
  (jss_one (js_ret (je_bl)))
  jss_nil)
  (jss_cons (js_if (PW.pt (jw_or (jb_cmp (op_neT x.o) (je_callTy c_list (by rfl) G.z_list bt_list (jvs_one (jv_var (pe_var (i := 3) rfl (.inl (by rfl)))))) (je_sortSet x.o.calm (by rfl) G.z_sorted (by rfl) G.z_set bt_sorted bt_set (je_var (pe_var (i := 3) rfl (.inl (by rfl))))) (by rfl)) (jw_or1 (jb_cmp (op_notInT x.o) (je_var (pe_var (i := 2) rfl (.inl (by rfl)))) (je_var (pe_var (i := 3) rfl (.inl (by rfl)))) (by rfl)))))
  (jss_one (js_ret (je_bl)))
  jss_nil)
  (jss_one (js_ret (je_cmp (op_eqT x.o) (je_of (jg_call (ok__law_apart G) x.tk (x.hr.mono (by decide)) (by rfl) G.g__law_apart G.F__law_apart.kp G.b__law_apart (jas_cons (jg_of (je_var (pe_var (i := 3) rfl (.inl (by rfl))))) (jas_cons (jg_of (je_var (pe_var (i := 1) rfl (.inr (.inl (by rfl)))))) jas_nil)))) (je_bin op_fdivD (je_var (pe_var (i := 1) rfl (.inr (.inl (by rfl))))) (je_var (pe_var (i := 0) rfl (.inl (by rfl))))) (by rfl))))))))

theorem ok_is_tuple {P : Program} {w : World} {K : PySem.W.Frag} {mg : Str → Option Value} {base : Heap} (G : Gs K mg) : FnOk P w K mg base (L2.CX P w) 1 G.a_is_tuple G.d_is_tuple ["thing", "size"] (spT K mg f_is_tuple) :=
  fn_T (k := 0) G.F_is_tuple sc_is_tuple (by decide) fun cdv A outer s0 H E x =>
  (jss_one (js_ret ((je_and (je_isA (Ts := "tuple") (by unfold isaT; simp) (by rfl) G.z_isinstance bt_isinstance (by rfl) G.z_tuple bt_tuple (je_var (pe_var (i := 0) rfl (.inl (by rfl))))) (je_one (je_cmp (op_eqT x.o) (je_callB c_len (by rfl) G.z_len bt_len (jvs_one (jv_var (pe_var (i := 0) rfl (.inl (by rfl)))))) (je_var (pe_var (i := 1) rfl (.inl (by rfl)))) (by rfl)))))))

theorem ok_are_best {P : Program} {w : World} {K : PySem.W.Frag} {mg : Str → Option Value} {base : Heap} (G : Gs K mg) : FnOk P w K mg base (L2.CX P w) 5 G.a_are_best G.d_are_best ["many", "by", "fixed", "thing"] (spT K mg f_are_best) :=
  fn_T (k := 4) G.F_are_best sc_are_best (by decide) fun cdv A outer s0 H E x =>
  (jss_cons (js_drop (jg_call (ok_check_number G) x.tk (x.hr.mono (by decide)) (by rfl) G.g_check_number G.F_check_number.kp G.b_check_number (jas_cons (jg_of (je_var (pe_var (i := 0) rfl (.inl (by rfl))))) (jas_cons (jg_of (je_int)) (jas_cons (jg_of (je_int)) jas_nil)))))
  (jss_cons (js_drop (jg_call (ok_check_number G) x.tk (x.hr.mono (by decide)) (by rfl) G.g_check_number G.F_check_number.kp G.b_check_number (jas_cons (jg_of (je_var (pe_var (i := 1) rfl (.inr (.inl (by rfl)))))) (jas_cons (jg_of (je_var (pe_var (i := 0) rfl (.inl (by rfl))))) (jas_cons (jg_of (je_int)) jas_nil)))))
  (jss_cons (js_drop (jg_call (ok_check_number G) x.tk (x.hr.mono (by decide)) (by rfl) G.g_check_number G.F_check_number.kp G.b_check_number (jas_cons (jg_of (je_var (pe_var (i := 2) rfl (.inl (by rfl))))) (jas_cons (jg_of (je_int)) (jas_cons (jg_of (je_bin op_subD (je_var (pe_var (i := 1) rfl (.inr (.inl (by rfl))))) (je_int))) jas_nil)))))
  (jss_cons (js_if (PW.pt (jw_or (jb_not (jb_truth (je_of (jg_call (ok_is_tuple G) x.tk (x.hr.mono (by decide)) (by rfl) G.g_is_tuple G.F_is_tuple.kp G.b_is_tuple (jas_cons (jg_of (je_var (pe_var (i := 3) rfl (.inr (.inl (by rfl)))))) (jas_cons (jg_of (je_var (pe_var (i := 0) rfl (.inl (by rfl))))) jas_nil)))))) (jw_or1 (jb_not (jb_truth (je_callB (c_all x.o.calm) (by rfl) G.z_all bt_all (jvs_one (jv_of (je_fz (jo_comp (own := [("one", 4)]) x.o.calm sc_are_best.nd (ji_of (je_var (pe_var (i := 3) rfl (.inr (.inl (by rfl)))))) (blkOk_by (by rfl)) (by decide) (fun _ _ _ _ _ => (jt_name (i := 4) sc_are_best.nd rfl (.inl (by rfl)))) (fun _ _ _ _ _ => jtt_nil) (fun _ _ _ _ _ => (je_of (jg_call (ok_is_within G) x.bk.tk (x.bk.hr.mono (by decide)) (by rfl) G.g_is_within G.F_is_within.kp G.b_is_within (jas_cons (jg_of (je_var (pe_var (i := 4) rfl (.inl (by rfl))))) (jas_cons (jg_of (je_int)) (jas_cons (jg_of (je_bin op_subD (je_var (pe_var (i := 1) rfl (.inr (.inl (by rfl))))) (je_int))) jas_nil))))))))))))))))
  (jss_one (js_ret (je_bl)))
  jss_nil)
  (jss_cons (js_if (PW.pt (jw_or (jb_cmp (op_notInT x.o) (je_var (pe_var (i := 2) rfl (.inl (by rfl)))) (je_var (pe_var (i := 3) rfl (.inr (.inl (by rfl))))) (by rfl)) (jw_or1 (jb_not (jb_truth (je_callB (c_all x.o.calm) (by rfl) G.z_all bt_all (jvs_one (jv_of (je_fz (jo_comp (own := [("at", 5)]) x.o.calm sc_are_best.nd (ji_rg2 (by rfl) G.z_range (jds_cons (je_int) (jds_cons (je_var (pe_var (i := 0) rfl (.inl (by rfl)))) jds_nil))) (blkOk_by (by rfl)) (by decide) (fun _ _ _ _ _ => (jt_name (i := 5) sc_are_best.nd rfl (.inl (by rfl)))) (fun _ _ _ _ _ => jtt_nil) (fun _ _ _ _ _ => (je_cmp (op_ltT' x.bk.o) (je_ixV (pe_var (i := 3) rfl (.inr (.inl (by rfl)))) (je_bin op_subD (je_var (pe_var (i := 5) rfl (.inl (by rfl)))) (je_int)) (fun _ _ => rfl)) (je_ixV (pe_var (i := 3) rfl (.inr (.inl (by rfl)))) (je_var (pe_var (i := 5) rfl (.inl (by rfl)))) (fun _ _ => rfl)) (by rfl)))))))))))))
  (jss_one (js_ret (je_bl)))
  jss_nil)
  (jss_one (js_ret (je_cmp (op_eqT x.o) (je_of (jg_call (ok_apart G) x.tk (x.hr.mono (by decide)) (by rfl) G.g_apart G.F_apart.kp G.b_apart (jas_cons (jg_of (je_var (pe_var (i := 3) rfl (.inr (.inl (by rfl)))))) (jas_cons (jg_of (je_var (pe_var (i := 1) rfl (.inr (.inl (by rfl)))))) jas_nil)))) (je_bin op_fdivD (je_var (pe_var (i := 1) rfl (.inr (.inl (by rfl))))) (je_var (pe_var (i := 0) rfl (.inl (by rfl))))) (by rfl)))))))))

theorem ok__law_some {P : Program} {w : World} {K : PySem.W.Frag} {mg : Str → Option Value} {base : Heap} (G : Gs K mg) : FnOk P w K mg base (L2.CX P w) 2 G.a__law_some G.d__law_some ["hand", "things"] (spT K mg f__law_some) :=
  fn_T (k := 1) G.F__law_some sc__law_some (by decide) fun cdv A outer s0 H E x =>
  (jss_one (js_ret (je_ixV (pe_var (i := 1) rfl (.inl (by rfl))) (je_of (jg_call (ok__law_draw G) x.tk (x.hr.mono (by decide)) (by rfl) G.g__law_draw G.F__law_draw.kp G.b__law_draw (jas_cons (jg_name (pe_var (i := 0) rfl (.inl (by rfl)))) (jas_cons (jg_of (je_callB c_len (by rfl) G.z_len bt_len (jvs_one (jv_var (pe_var (i := 1) rfl (.inl (by rfl))))))) jas_nil)))) (fun _ _ => rfl))))

theorem ok__law_deep {P : Program} {w : World} {K : PySem.W.Frag} {mg : Str → Option Value} {base : Heap} (G : Gs K mg) : FnOk P w K mg base (L2.CX P w) 3 G.a__law_deep G.d__law_deep ["hand"] (spT K mg f__law_deep) :=
  fn_T (k := 2) G.F__law_deep sc__law_deep (by decide) fun cdv A outer s0 H E x =>
  (jss_cons (js_set (i := 1) (je_of (jg_call (ok__law_some G) x.tk (x.hr.mono (by decide)) (by rfl) G.g__law_some G.F__law_some.kp G.b__law_some (jas_cons (jg_name (pe_var (i := 0) rfl (.inl (by rfl)))) (jas_cons (jg_of (je_lst (jds_cons (je_non) (jds_cons (je_int) (jds_cons (je_str) jds_nil))))) jas_nil)))) sc__law_deep.nd rfl (.inl (by rfl)))
  (jss_cons (js_for [2] x.hp x.o.calm (ji_rg1 (by rfl) G.z_range (jds_cons (je_bin op_addD (je_int) (je_of (jg_call (ok__law_draw G) x.tk (x.hr.mono (by decide)) (by rfl) G.g__law_draw G.F__law_draw.kp G.b__law_draw (jas_cons (jg_name (pe_var (i := 0) rfl (.inl (by rfl)))) (jas_cons (jg_of (je_int)) jas_nil))))) jds_nil)) (jt_name (i := 2) sc__law_deep.nd rfl (.inl (by rfl)))
  (jss_one (js_set (i := 1) (je_of (jg_call (ok__law_some G) x.tk (x.hr.mono (by decide)) (by rfl) G.g__law_some G.F__law_some.kp G.b__law_some (jas_cons (jg_name (pe_var (i := 0) rfl (.inl (by rfl)))) (jas_cons (jg_of (je_lst (jds_cons (je_tup (jds_cons (je_var (pe_var (i := 1) rfl (.inl (by rfl)))) jds_nil)) (jds_cons (je_lst (jds_cons (je_var (pe_var (i := 1) rfl (.inl (by rfl)))) jds_nil)) (jds_cons (je_disp (je_int) (je_var (pe_var (i := 1) rfl (.inl (by rfl))))) jds_nil))))) jas_nil)))) sc__law_deep.nd rfl (.inl (by rfl)))))
  (jss_one (js_ret (je_var (pe_var (i := 1) rfl (.inl (by rfl))))))))

theorem ok_law {P : Program} {w : World} {K : PySem.W.Frag} {mg : Str → Option Value} {base : Heap} (G : Gs K mg) : FnOk P w K mg base (L2.CX P w) 6 G.a_law G.d_law ["script"] (spT K mg f_law) :=
  fn_T (k := 5) G.F_law sc_law (by decide) fun cdv A outer s0 H E x =>
  (jss_cons (js_setG (i := 1) (jg_call (ok__law_hand G) x.tk (x.hr.mono (by decide)) (by rfl) G.g__law_hand G.F__law_hand.kp G.b__law_hand (jas_cons (jg_name (pe_var (i := 0) rfl (.inl (by rfl)))) jas_nil)) sc_law.nd rfl (.inl (by rfl)))
  (jss_cons (js_if (jb_cmp (op_neT x.o) (je_of (jg_call (ok_apart G) x.tk (x.hr.mono (by decide)) (by rfl) G.g_apart G.F_apart.kp G.b_apart (jas_cons (jg_of (je_tup (jds_cons (je_int) (jds_cons (je_int) (jds_cons (je_int) jds_nil))))) (jas_cons (jg_of (je_int)) jas_nil)))) (je_int) (by rfl))
  (jss_one (js_ret (je_bl)))
  jss_nil)
  (jss_cons (js_if (jb_cmp (op_neT x.o) (je_of (jg_call (ok_apart G) x.tk (x.hr.mono (by decide)) (by rfl) G.g_apart G.F_apart.kp G.b_apart (jas_cons (jg_of (je_tup (jds_cons (je_int) (jds_cons (je_int) (jds_cons (je_int) jds_nil))))) (jas_cons (jg_of (je_int)) jas_nil)))) (je_int) (by rfl))
  (jss_one (js_ret (je_bl)))
  jss_nil)
  (jss_cons (js_if (jb_cmp (op_neT x.o) (je_of (jg_call (ok_apart G) x.tk (x.hr.mono (by decide)) (by rfl) G.g_apart G.F_apart.kp G.b_apart (jas_cons (jg_of (je_tup (jds_cons (je_int) (jds_cons (je_int) jds_nil)))) (jas_cons (jg_of (je_int)) jas_nil)))) (je_int) (by rfl))
  (jss_one (js_ret (je_bl)))
  jss_nil)
  (jss_cons (js_for [2, 3, 4, 5, 6, 7, 8, 9, 10, 11, 12, 13, 14] x.hp x.o.calm (ji_rg1 (by rfl) G.z_range (jds_cons (je_int) jds_nil)) (jt_name (i := 2) sc_law.nd rfl (.inl (by rfl)))
  (jss_cons (js_set (i := 3) (je_bin op_addD (je_int) (je_of (jg_call (ok__law_draw G) x.tk (x.hr.mono (by decide)) (by rfl) G.g__law_draw G.F__law_draw.kp G.b__law_draw (jas_cons (jg_name (pe_var (i := 1) rfl (.inl (by rfl)))) (jas_cons (jg_of (je_int)) jas_nil))))) sc_law.nd rfl (.inl (by rfl)))
  (jss_cons (js_set (i := 4) (je_bin op_addD (je_var (pe_var (i := 3) rfl (.inl (by rfl)))) (je_of (jg_call (ok__law_draw G) x.tk (x.hr.mono (by decide)) (by rfl) G.g__law_draw G.F__law_draw.kp G.b__law_draw (jas_cons (jg_name (pe_var (i := 1) rfl (.inl (by rfl)))) (jas_cons (jg_of (je_bin op_subD (je_int) (je_var (pe_var (i := 3) rfl (.inl (by rfl)))))) jas_nil))))) sc_law.nd rfl (.inr (by rfl)))
  (jss_cons (js_set (i := 5) (je_of (jg_call (ok__law_draw G) x.tk (x.hr.mono (by decide)) (by rfl) G.g__law_draw G.F__law_draw.kp G.b__law_draw (jas_cons (jg_name (pe_var (i := 1) rfl (.inl (by rfl)))) (jas_cons (jg_of (je_var (pe_var (i := 4) rfl (.inr (.inl (by rfl)))))) jas_nil)))) sc_law.nd rfl (.inr (by rfl)))
  (jss_cons (js_set (i := 6) (je_of (jg_call (ok_best_angles G) x.tk (x.hr.mono (by decide)) (by rfl) G.g_best_angles G.F_best_angles.kp G.b_best_angles (jas_cons (jg_of (je_var (pe_var (i := 3) rfl (.inl (by rfl))))) (jas_cons (jg_of (je_var (pe_var (i := 4) rfl (.inr (.inl (by rfl)))))) (jas_cons (jg_of (je_var (pe_var (i := 5) rfl (.inr (.inl (by rfl)))))) jas_nil))))) sc_law.nd rfl (.inl (by rfl)))
  (jss_cons (js_if (jb_not (jb_truth (je_of (jg_call (ok__law_are_best G) x.tk (x.hr.mono (by decide)) (by rfl) G.g__law_are_best G.F__law_are_best.kp G.b__law_are_best (jas_cons (jg_of (je_var (pe_var (i := 3) rfl (.inl (by rfl))))) (jas_cons (jg_of (je_var (pe_var (i := 4) rfl (.inr (.inl (by rfl)))))) (jas_cons (jg_of (je_var (pe_var (i := 5) rfl (.inr (.inl (by rfl)))))) (jas_cons (jg_of (je_callTy c_tuple (by rfl) G.z_tuple bt_tuple (jvs_one (jv_var (pe_var (i := 6) rfl (.inl (by rfl))))))) jas_nil))))))))
  (jss_one (js_ret (je_bl)))
  jss_nil)
  (jss_cons (js_if (jb_notB (je_of (jg_call (ok_are_best G) x.tk (x.hr.mono (by decide)) (by rfl) G.g_are_best G.F_are_best.kp G.b_are_best (jas_cons (jg_of (je_var (pe_var (i := 3) rfl (.inl (by rfl))))) (jas_cons (jg_of (je_var (pe_var (i := 4) rfl (.inr (.inl (by rfl)))))) (jas_cons (jg_of (je_var (pe_var (i := 5) rfl (.inr (.inl (by rfl)))))) (jas_cons (jg_of (je_callTy c_tuple (by rfl) G.z_tuple bt_tuple (jvs_one (jv_var (pe_var (i := 6) rfl (.inl (by rfl))))))) jas_nil)))))))
  (jss_one (js_ret (je_bl)))
  jss_nil)
  (jss_cons (js_if (jb_cmp (op_neT x.o) (je_of (jg_call (ok_apart G) x.tk (x.hr.mono (by decide)) (by rfl) G.g_apart G.F_apart.kp G.b_apart (jas_cons (jg_of (je_callTy c_tuple (by rfl) G.z_tuple bt_tuple (jvs_one (jv_var (pe_var (i := 6) rfl (.inl (by rfl))))))) (jas_cons (jg_of (je_var (pe_var (i := 4) rfl (.inr (.inl (by rfl)))))) jas_nil)))) (je_bin op_fdivD (je_var (pe_var (i := 4) rfl (.inr (.inl (by rfl))))) (je_var (pe_var (i := 3) rfl (.inl (by rfl))))) (by rfl))
  (jss_one (js_ret (je_bl)))
  jss_nil)
  (jss_cons (js_par (i := 7) (j := 8) x.o.calm sc_law.nd rfl rfl (by decide) rfl rfl (jx_o (jo_lst jds_nil)) (jx_o (jo_lrg x.o.calm (by rfl) G.z_list (by rfl) G.z_range (je_var (pe_var (i := 4) rfl (.inr (.inl (by rfl))))))) (by rfl))
  (jss_cons (js_for [9] x.hp x.o.calm (ji_rg1 (by rfl) G.z_range (jds_cons (je_var (pe_var (i := 3) rfl (.inl (by rfl)))) jds_nil)) (jt_name (i := 9) sc_law.nd rfl (.inl (by rfl)))
  (jss_one (js_drop (jg_of (je_app (pe_var (i := 7) rfl (.inl (by rfl))) (je_pop (pe_var (i := 8) rfl (.inl (by rfl))) (je_of (jg_call (ok__law_draw G) x.tk (x.hr.mono (by decide)) (by rfl) G.g__law_draw G.F__law_draw.kp G.b__law_draw (jas_cons (jg_name (pe_var (i := 1) rfl (.inl (by rfl)))) (jas_cons (jg_of (je_callB c_len (by rfl) G.z_len bt_len (jvs_one (jv_var (pe_var (i := 8) rfl (.inl (by rfl))))))) jas_nil))))))))))
  (jss_cons (js_set (i := 7) (je_callTy c_tuple (by rfl) G.z_tuple bt_tuple (jvs_one (jv_of (je_callB (c_sorted x.o) (by rfl) G.z_sorted bt_sorted (jvs_one (jv_var (pe_var (i := 7) rfl (.inl (by rfl))))))))) sc_law.nd rfl (.inl (by rfl)))
  (jss_cons (js_if (jb_cmp (op_neT x.o) (je_of (jg_call (ok_apart G) x.tk (x.hr.mono (by decide)) (by rfl) G.g_apart G.F_apart.kp G.b_apart (jas_cons (jg_of (je_var (pe_var (i := 7) rfl (.inl (by rfl))))) (jas_cons (jg_of (je_var (pe_var (i := 4) rfl (.inr (.inl (by rfl)))))) jas_nil)))) (je_of (jg_call (ok__law_apart G) x.tk (x.hr.mono (by decide)) (by rfl) G.g__law_apart G.F__law_apart.kp G.b__law_apart (jas_cons (jg_of (je_var (pe_var (i := 7) rfl (.inl (by rfl))))) (jas_cons (jg_of (je_var (pe_var (i := 4) rfl (.inr (.inl (by rfl)))))) jas_nil)))) (by rfl))
  (jss_one (js_ret (je_bl)))
  jss_nil)
  (jss_cons (js_set (i := 10) (je_bin op_fdivD (je_var (pe_var (i := 4) rfl (.inr (.inl (by rfl))))) (je_var (pe_var (i := 3) rfl (.inl (by rfl))))) sc_law.nd rfl (.inr (by rfl)))
  (jss_cons (js_set (i := 11) (je_callTy c_tuple (by rfl) G.z_tuple bt_tuple (jvs_one (jv_of (je_callB (c_sorted x.o) (by rfl) G.z_sorted bt_sorted (jvs_one (jv_of (je_fz (jo_comp (own := [("at", 15)]) x.o.calm sc_law.nd (ji_rg1 (by rfl) G.z_range (jds_cons (je_var (pe_var (i := 3) rfl (.inl (by rfl)))) jds_nil)) (blkOk_by (by rfl)) (by decide) (fun _ _ _ _ _ => (jt_name (i := 15) sc_law.nd rfl (.inl (by rfl)))) (fun _ _ _ _ _ => jtt_nil) (fun _ _ _ _ _ => (je_bin op_modD (je_callTy c_int (by rfl) G.z_int bt_int (jvs_one (jv_of (je_bin op_addD (je_var (pe_var (i := 5) rfl (.inr (.inl (by rfl))))) (je_bin op_mulD (je_var (pe_var (i := 15) rfl (.inl (by rfl)))) (je_var (pe_var (i := 10) rfl (.inr (.inl (by rfl)))))))))) (je_var (pe_var (i := 4) rfl (.inr (.inl (by rfl))))))))))))))) sc_law.nd rfl (.inl (by rfl)))
  (jss_cons (js_set (i := 12) (je_lst (jds_cons (je_callTy c_tuple (by rfl) G.z_tuple bt_tuple (jvs_one (jv_var (pe_var (i := 6) rfl (.inl (by rfl)))))) (jds_cons (je_var (pe_var (i := 11) rfl (.inl (by rfl)))) (jds_cons (je_var (pe_var (i := 7) rfl (.inl (by rfl)))) (jds_cons (je_slV (pe_var (i := 11) rfl (.inl (by rfl))) (jp_some (je_int)) jp_none) (jds_cons (je_bin op_addD (je_var (pe_var (i := 11) rfl (.inl (by rfl)))) (je_tup (jds_cons (je_var (pe_var (i := 4) rfl (.inr (.inl (by rfl))))) jds_nil))) (jds_cons (je_callTy c_list (by rfl) G.z_list bt_list (jvs_one (jv_var (pe_var (i := 11) rfl (.inl (by rfl)))))) (jds_cons (je_rev (je_var (pe_var (i := 11) rfl (.inl (by rfl))))) (jds_cons (je_callTy c_tuple (by rfl) G.z_tuple bt_tuple (jvs_one (jv_of (je_fz (jo_comp (own := [("one", 9)]) x.o.calm sc_law.nd (ji_of (je_var (pe_var (i := 11) rfl (.inl (by rfl))))) (blkOk_by (by rfl)) (by decide) (fun _ _ _ _ _ => (jt_name (i := 9) sc_law.nd rfl (.inl (by rfl)))) (fun _ _ _ _ _ => jtt_nil) (fun _ _ _ _ _ => (je_bin op_addD (je_var (pe_var (i := 9) rfl (.inl (by rfl)))) (je_int)))))))) (jds_cons (je_bin op_mulD (je_tup (jds_cons (je_bl) jds_nil)) (je_var (pe_var (i := 3) rfl (.inl (by rfl))))) (jds_cons (je_non) (jds_cons (je_tup jds_nil) (jds_cons (je_int) jds_nil))))))))))))) sc_law.nd rfl (.inl (by rfl)))
  (jss_one (js_for [13, 14] x.hp x.o.calm (ji_rg1 (by rfl) G.z_range (jds_cons (je_int) jds_nil)) (jt_name (i := 13) sc_law.nd rfl (.inl (by rfl)))
  (jss_cons (js_set (i := 14) (je_of (jg_call (ok__law_some G) x.tk (x.hr.mono (by decide)) (by rfl) G.g__law_some G.F__law_some.kp G.b__law_some (jas_cons (jg_name (pe_var (i := 1) rfl (.inl (by rfl)))) (jas_cons (jg_of (je_bin op_addD (je_var (pe_var (i := 12) rfl (.inl (by rfl)))) (je_lst (jds_cons (je_of (jg_call (ok__law_deep G) x.tk (x.hr.mono (by decide)) (by rfl) G.g__law_deep G.F__law_deep.kp G.b__law_deep (jas_cons (jg_name (pe_var (i := 1) rfl (.inl (by rfl)))) jas_nil))) jds_nil)))) jas_nil)))) sc_law.nd rfl (.inl (by rfl)))
  (jss_one (js_if (jb_cmp (op_neT x.o) (je_of (jg_call (ok_are_best G) x.tk (x.hr.mono (by decide)) (by rfl) G.g_are_best G.F_are_best.kp G.b_are_best (jas_cons (jg_of (je_var (pe_var (i := 3) rfl (.inl (by rfl))))) (jas_cons (jg_of (je_var (pe_var (i := 4) rfl (.inr (.inl (by rfl)))))) (jas_cons (jg_of (je_var (pe_var (i := 5) rfl (.inr (.inl (by rfl)))))) (jas_cons (jg_of (je_var (pe_var (i := 14) rfl (.inl (by rfl))))) jas_nil)))))) (je_of (jg_call (ok__law_are_best G) x.tk (x.hr.mono (by decide)) (by rfl) G.g__law_are_best G.F__law_are_best.kp G.b__law_are_best (jas_cons (jg_of (je_var (pe_var (i := 3) rfl (.inl (by rfl))))) (jas_cons (jg_of (je_var (pe_var (i := 4) rfl (.inr (.inl (by rfl)))))) (jas_cons (jg_of (je_var (pe_var (i := 5) rfl (.inr (.inl (by rfl)))))) (jas_cons (jg_of (je_var (pe_var (i := 14) rfl (.inl (by rfl))))) jas_nil)))))) (by rfl))
  (jss_one (js_ret (je_bl)))
  jss_nil))))))))))))))))))))
  (jss_one (js_ret (je_bl))))))))

end TL.Law

set_option maxHeartbeats 4000000
namespace TL.Law
open PySem PySem.Spec L2
open PyProof.Rows hiding St
theorem all_mk {l : PySem.W.OpenLaw} {w : World} {K : PySem.W.Frag} {h : Heap} {mg : Str → Option Value} {fa : Addr} (X : K.In h) (G : h.Ns mainGlobals mg) (hfa : mg "law" = some (.ref fa))
    {f0 : Addr} {od0 an0 : Option Addr} {sl0 : Array (Option Value)} {oc0 kV0 dc0 pm0 cd0 ct0 : Value}
    (a0 : PySem.W.nsIn K mainGlobals "_law_hand" = some (some (.ref f0))) (l0 : K.lookup f0 = some ⟨oc0, od0, .func (PySem.W.fnOf "_law_hand" "_law_hand" (defArgs s__law_hand) (defBody s__law_hand) (defScope s__law_hand) .none kV0 dc0 pm0 an0 cd0 ct0), sl0⟩) (c0 : PySem.W.codeIn K cd0 "_law_hand" = true) (k0 : PySem.W.keepIn K (.ref f0) = true)
    {f1 : Addr} {od1 an1 : Option Addr} {sl1 : Array (Option Value)} {oc1 kV1 dc1 pm1 cd1 ct1 : Value}
    (a1 : PySem.W.nsIn K mainGlobals "is_integer" = some (some (.ref f1))) (l1 : K.lookup f1 = some ⟨oc1, od1, .func (PySem.W.fnOf "is_integer" "is_integer" (defArgs s_is_integer) (defBody s_is_integer) (defScope s_is_integer) .none kV1 dc1 pm1 an1 cd1 ct1), sl1⟩) (c1 : PySem.W.codeIn K cd1 "is_integer" = true) (k1 : PySem.W.keepIn K (.ref f1) = true)
    {f2 : Addr} {od2 an2 : Option Addr} {sl2 : Array (Option Value)} {oc2 kV2 dc2 pm2 cd2 ct2 : Value}
    (a2 : PySem.W.nsIn K mainGlobals "is_within" = some (some (.ref f2))) (l2 : K.lookup f2 = some ⟨oc2, od2, .func (PySem.W.fnOf "is_within" "is_within" (defArgs s_is_within) (defBody s_is_within) (defScope s_is_within) .none kV2 dc2 pm2 an2 cd2 ct2), sl2⟩) (c2 : PySem.W.codeIn K cd2 "is_within" = true) (k2 : PySem.W.keepIn K (.ref f2) = true)
    {f3 : Addr} {od3 an3 : Option Addr} {sl3 : Array (Option Value)} {oc3 kV3 dc3 pm3 cd3 ct3 : Value}
    (a3 : PySem.W.nsIn K mainGlobals "check_number" = some (some (.ref f3))) (l3 : K.lookup f3 = some ⟨oc3, od3, .func (PySem.W.fnOf "check_number" "check_number" (defArgs s_check_number) (defBody s_check_number) (defScope s_check_number) .none kV3 dc3 pm3 an3 cd3 ct3), sl3⟩) (c3 : PySem.W.codeIn K cd3 "check_number" = true) (k3 : PySem.W.keepIn K (.ref f3) = true)
    {f4 : Addr} {od4 an4 : Option Addr} {sl4 : Array (Option Value)} {oc4 kV4 dc4 pm4 cd4 ct4 : Value}
    (a4 : PySem.W.nsIn K mainGlobals "is_sized" = some (some (.ref f4))) (l4 : K.lookup f4 = some ⟨oc4, od4, .func (PySem.W.fnOf "is_sized" "is_sized" (defArgs s_is_sized) (defBody s_is_sized) (defScope s_is_sized) .none kV4 dc4 pm4 an4 cd4 ct4), sl4⟩) (c4 : PySem.W.codeIn K cd4 "is_sized" = true) (k4 : PySem.W.keepIn K (.ref f4) = true)
    {f5 : Addr} {od5 an5 : Option Addr} {sl5 : Array (Option Value)} {oc5 kV5 dc5 pm5 cd5 ct5 : Value}
    (a5 : PySem.W.nsIn K mainGlobals "apart" = some (some (.ref f5))) (l5 : K.lookup f5 = some ⟨oc5, od5, .func (PySem.W.fnOf "apart" "apart" (defArgs s_apart) (defBody s_apart) (defScope s_apart) .none kV5 dc5 pm5 an5 cd5 ct5), sl5⟩) (c5 : PySem.W.codeIn K cd5 "apart" = true) (k5 : PySem.W.keepIn K (.ref f5) = true)
    {f6 : Addr} {od6 an6 : Option Addr} {sl6 : Array (Option Value)} {oc6 kV6 dc6 pm6 cd6 ct6 : Value}
    (a6 : PySem.W.nsIn K mainGlobals "_law_draw" = some (some (.ref f6))) (l6 : K.lookup f6 = some ⟨oc6, od6, .func (PySem.W.fnOf "_law_draw" "_law_draw" (defArgs s__law_draw) (defBody s__law_draw) (defScope s__law_draw) .none kV6 dc6 pm6 an6 cd6 ct6), sl6⟩) (c6 : PySem.W.codeIn K cd6 "_law_draw" = true) (k6 : PySem.W.keepIn K (.ref f6) = true)
    {f7 : Addr} {od7 an7 : Option Addr} {sl7 : Array (Option Value)} {oc7 kV7 dc7 pm7 cd7 ct7 : Value}
    (a7 : PySem.W.nsIn K mainGlobals "best_angles" = some (some (.ref f7))) (l7 : K.lookup f7 = some ⟨oc7, od7, .func (PySem.W.fnOf "best_angles" "best_angles" (defArgs s_best_angles) (defBody s_best_angles) (defScope s_best_angles) .none kV7 dc7 pm7 an7 cd7 ct7), sl7⟩) (c7 : PySem.W.codeIn K cd7 "best_angles" = true) (k7 : PySem.W.keepIn K (.ref f7) = true)
    {f8 : Addr} {od8 an8 : Option Addr} {sl8 : Array (Option Value)} {oc8 kV8 dc8 pm8 cd8 ct8 : Value}
    (a8 : PySem.W.nsIn K mainGlobals "_law_apart" = some (some (.ref f8))) (l8 : K.lookup f8 = some ⟨oc8, od8, .func (PySem.W.fnOf "_law_apart" "_law_apart" (defArgs s__law_apart) (defBody s__law_apart) (defScope s__law_apart) .none kV8 dc8 pm8 an8 cd8 ct8), sl8⟩) (c8 : PySem.W.codeIn K cd8 "_law_apart" = true) (k8 : PySem.W.keepIn K (.ref f8) = true)
    {f9 : Addr} {od9 an9 : Option Addr} {sl9 : Array (Option Value)} {oc9 kV9 dc9 pm9 cd9 ct9 : Value}
    (a9 : PySem.W.nsIn K mainGlobals "_law_is_int" = some (some (.ref f9))) (l9 : K.lookup f9 = some ⟨oc9, od9, .func (PySem.W.fnOf "_law_is_int" "_law_is_int" (defArgs s__law_is_int) (defBody s__law_is_int) (defScope s__law_is_int) .none kV9 dc9 pm9 an9 cd9 ct9), sl9⟩) (c9 : PySem.W.codeIn K cd9 "_law_is_int" = true) (k9 : PySem.W.keepIn K (.ref f9) = true)
    {f10 : Addr} {od10 an10 : Option Addr} {sl10 : Array (Option Value)} {oc10 kV10 dc10 pm10 cd10 ct10 : Value}
    (a10 : PySem.W.nsIn K mainGlobals "_law_are_best" = some (some (.ref f10))) (l10 : K.lookup f10 = some ⟨oc10, od10, .func (PySem.W.fnOf "_law_are_best" "_law_are_best" (defArgs s__law_are_best) (defBody s__law_are_best) (defScope s__law_are_best) .none kV10 dc10 pm10 an10 cd10 ct10), sl10⟩) (c10 : PySem.W.codeIn K cd10 "_law_are_best" = true) (k10 : PySem.W.keepIn K (.ref f10) = true)
    {f11 : Addr} {od11 an11 : Option Addr} {sl11 : Array (Option Value)} {oc11 kV11 dc11 pm11 cd11 ct11 : Value}
    (a11 : PySem.W.nsIn K mainGlobals "is_tuple" = some (some (.ref f11))) (l11 : K.lookup f11 = some ⟨oc11, od11, .func (PySem.W.fnOf "is_tuple" "is_tuple" (defArgs s_is_tuple) (defBody s_is_tuple) (defScope s_is_tuple) .none kV11 dc11 pm11 an11 cd11 ct11), sl11⟩) (c11 : PySem.W.codeIn K cd11 "is_tuple" = true) (k11 : PySem.W.keepIn K (.ref f11) = true)
    {f12 : Addr} {od12 an12 : Option Addr} {sl12 : Array (Option Value)} {oc12 kV12 dc12 pm12 cd12 ct12 : Value}
    (a12 : PySem.W.nsIn K mainGlobals "are_best" = some (some (.ref f12))) (l12 : K.lookup f12 = some ⟨oc12, od12, .func (PySem.W.fnOf "are_best" "are_best" (defArgs s_are_best) (defBody s_are_best) (defScope s_are_best) .none kV12 dc12 pm12 an12 cd12 ct12), sl12⟩) (c12 : PySem.W.codeIn K cd12 "are_best" = true) (k12 : PySem.W.keepIn K (.ref f12) = true)
    {f13 : Addr} {od13 an13 : Option Addr} {sl13 : Array (Option Value)} {oc13 kV13 dc13 pm13 cd13 ct13 : Value}
    (a13 : PySem.W.nsIn K mainGlobals "_law_some" = some (some (.ref f13))) (l13 : K.lookup f13 = some ⟨oc13, od13, .func (PySem.W.fnOf "_law_some" "_law_some" (defArgs s__law_some) (defBody s__law_some) (defScope s__law_some) .none kV13 dc13 pm13 an13 cd13 ct13), sl13⟩) (c13 : PySem.W.codeIn K cd13 "_law_some" = true) (k13 : PySem.W.keepIn K (.ref f13) = true)
    {f14 : Addr} {od14 an14 : Option Addr} {sl14 : Array (Option Value)} {oc14 kV14 dc14 pm14 cd14 ct14 : Value}
    (a14 : PySem.W.nsIn K mainGlobals "_law_deep" = some (some (.ref f14))) (l14 : K.lookup f14 = some ⟨oc14, od14, .func (PySem.W.fnOf "_law_deep" "_law_deep" (defArgs s__law_deep) (defBody s__law_deep) (defScope s__law_deep) .none kV14 dc14 pm14 an14 cd14 ct14), sl14⟩) (c14 : PySem.W.codeIn K cd14 "_law_deep" = true) (k14 : PySem.W.keepIn K (.ref f14) = true)
    {f15 : Addr} {od15 an15 : Option Addr} {sl15 : Array (Option Value)} {oc15 kV15 dc15 pm15 cd15 ct15 : Value}
    (a15 : PySem.W.nsIn K mainGlobals "law" = some (some (.ref f15))) (l15 : K.lookup f15 = some ⟨oc15, od15, .func (PySem.W.fnOf "law" "law" (defArgs s_law) (defBody s_law) (defScope s_law) .none kV15 dc15 pm15 an15 cd15 ct15), sl15⟩) (c15 : PySem.W.codeIn K cd15 "law" = true) (k15 : PySem.W.keepIn K (.ref f15) = true)
    (z_abs : PySem.W.nsIn K mainGlobals "abs" = some none) (z_all : PySem.W.nsIn K mainGlobals "all" = some none) (z_bool : PySem.W.nsIn K mainGlobals "bool" = some none) (z_enumerate : PySem.W.nsIn K mainGlobals "enumerate" = some none) (z_int : PySem.W.nsIn K mainGlobals "int" = some none) (z_isinstance : PySem.W.nsIn K mainGlobals "isinstance" = some none) (z_len : PySem.W.nsIn K mainGlobals "len" = some none) (z_list : PySem.W.nsIn K mainGlobals "list" = some none) (z_min : PySem.W.nsIn K mainGlobals "min" = some none) (z_range : PySem.W.nsIn K mainGlobals "range" = some none) (z_set : PySem.W.nsIn K mainGlobals "set" = some none) (z_sorted : PySem.W.nsIn K mainGlobals "sorted" = some none) (z_tuple : PySem.W.nsIn K mainGlobals "tuple" = some none) (z_zip : PySem.W.nsIn K mainGlobals "zip" = some none) (hh : ∀ ns : List Int, ns.length ≤ 63 → ∃ st, f_law [.raw (.scr ns)] [] = .ret (.d (.bool true)) st) :
    ∃ fd : FuncData, (∀ (s : Shared) (v : Value), BindsTo s fd ⟨[v], []⟩ [("script", v)]) ∧ ∀ base : Heap, K.In base → base.Ns mainGlobals mg → FnOk l.prog w K mg base (L2.CX l.prog w) 6 fa fd ["script"] (spLaw K) := by
  have e := hfa.symm.trans (PySem.W.mg_of X G a15)
  cases e
  have F0 := fun_mk (st := s__law_hand) l0 c0 k0
  have b0 : Binds K _ ["script"] [] := F0.binds (ps := ["script"]) fun _ _ _ _ _ _ us hl => match us, hl with | [_], _ => rfl
  have F1 := fun_mk (st := s_is_integer) l1 c1 k1
  have b1 : Binds K _ ["thing"] [] := F1.binds (ps := ["thing"]) fun _ _ _ _ _ _ us hl => match us, hl with | [_], _ => rfl
  have F2 := fun_mk (st := s_is_within) l2 c2 k2
  have b2 : Binds K _ ["thing", "least", "most"] [] := F2.binds (ps := ["thing", "least", "most"]) fun _ _ _ _ _ _ us hl => match us, hl with | [_, _, _], _ => rfl
  have F3 := fun_mk (st := s_check_number) l3 c3 k3
  have b3 : Binds K _ ["thing", "least", "most"] [] := F3.binds (ps := ["thing", "least", "most"]) fun _ _ _ _ _ _ us hl => match us, hl with | [_, _, _], _ => rfl
  have F4 := fun_mk (st := s_is_sized) l4 c4 k4
  have b4 : Binds K _ ["thing", "least", "most"] [] := F4.binds (ps := ["thing", "least", "most"]) fun _ _ _ _ _ _ us hl => match us, hl with | [_, _, _], _ => rfl
  have F5 := fun_mk (st := s_apart) l5 c5 k5
  have b5 : Binds K _ ["angles", "by"] [] := F5.binds (ps := ["angles", "by"]) fun _ _ _ _ _ _ us hl => match us, hl with | [_, _], _ => rfl
  have F6 := fun_mk (st := s__law_draw) l6 c6 k6
  have b6 : Binds K _ ["hand", "many"] [] := F6.binds (ps := ["hand", "many"]) fun _ _ _ _ _ _ us hl => match us, hl with | [_, _], _ => rfl
  have F7 := fun_mk (st := s_best_angles) l7 c7 k7
  have b7 : Binds K _ ["many", "by", "fixed"] [] := F7.binds (ps := ["many", "by", "fixed"]) fun _ _ _ _ _ _ us hl => match us, hl with | [_, _, _], _ => rfl
  have F8 := fun_mk (st := s__law_apart) l8 c8 k8
  have b8 : Binds K _ ["angles", "by"] [] := F8.binds (ps := ["angles", "by"]) fun _ _ _ _ _ _ us hl => match us, hl with | [_, _], _ => rfl
  have F9 := fun_mk (st := s__law_is_int) l9 c9 k9
  have b9 : Binds K _ ["thing", "least", "most"] [] := F9.binds (ps := ["thing", "least", "most"]) fun _ _ _ _ _ _ us hl => match us, hl with | [_, _, _], _ => rfl
  have F10 := fun_mk (st := s__law_are_best) l10 c10 k10
  have b10 : Binds K _ ["many", "by", "fixed", "thing"] [] := F10.binds (ps := ["many", "by", "fixed", "thing"]) fun _ _ _ _ _ _ us hl => match us, hl with | [_, _, _, _], _ => rfl
  have F11 := fun_mk (st := s_is_tuple) l11 c11 k11
  have b11 : Binds K _ ["thing", "size"] [] := F11.binds (ps := ["thing", "size"]) fun _ _ _ _ _ _ us hl => match us, hl with | [_, _], _ => rfl
  have F12 := fun_mk (st := s_are_best) l12 c12 k12
  have b12 : Binds K _ ["many", "by", "fixed", "thing"] [] := F12.binds (ps := ["many", "by", "fixed", "thing"]) fun _ _ _ _ _ _ us hl => match us, hl with | [_, _, _, _], _ => rfl
  have F13 := fun_mk (st := s__law_some) l13 c13 k13
  have b13 : Binds K _ ["hand", "things"] [] := F13.binds (ps := ["hand", "things"]) fun _ _ _ _ _ _ us hl => match us, hl with | [_, _], _ => rfl
  have F14 := fun_mk (st := s__law_deep) l14 c14 k14
  have b14 : Binds K _ ["hand"] [] := F14.binds (ps := ["hand"]) fun _ _ _ _ _ _ us hl => match us, hl with | [_], _ => rfl
  have F15 := fun_mk (st := s_law) l15 c15 k15
  have b15 : Binds K _ ["script"] [] := F15.binds (ps := ["script"]) fun _ _ _ _ _ _ us hl => match us, hl with | [_], _ => rfl
  exact ⟨_, fun s v => .of_eq rfl, fun base _ _ => law_of (ok_law (⟨_, _, F0, PySem.W.mg_of X G a0, b0, _, _, F1, PySem.W.mg_of X G a1, b1, _, _, F2, PySem.W.mg_of X G a2, b2, _, _, F3, PySem.W.mg_of X G a3, b3, _, _, F4, PySem.W.mg_of X G a4, b4, _, _, F5, PySem.W.mg_of X G a5, b5, _, _, F6, PySem.W.mg_of X G a6, b6, _, _, F7, PySem.W.mg_of X G a7, b7, _, _, F8, PySem.W.mg_of X G a8, b8, _, _, F9, PySem.W.mg_of X G a9, b9, _, _, F10, PySem.W.mg_of X G a10, b10, _, _, F11, PySem.W.mg_of X G a11, b11, _, _, F12, PySem.W.mg_of X G a12, b12, _, _, F13, PySem.W.mg_of X G a13, b13, _, _, F14, PySem.W.mg_of X G a14, b14, _, _, F15, PySem.W.mg_of X G a15, b15, PySem.W.mg_none_of X G z_abs, PySem.W.mg_none_of X G z_all, PySem.W.mg_none_of X G z_bool, PySem.W.mg_none_of X G z_enumerate, PySem.W.mg_none_of X G z_int, PySem.W.mg_none_of X G z_isinstance, PySem.W.mg_none_of X G z_len, PySem.W.mg_none_of X G z_list, PySem.W.mg_none_of X G z_min, PySem.W.mg_none_of X G z_range, PySem.W.mg_none_of X G z_set, PySem.W.mg_none_of X G z_sorted, PySem.W.mg_none_of X G z_tuple, PySem.W.mg_none_of X G z_zip⟩ : Gs K mg)) hh⟩
end TL.Law
open PySem PySem.W PyProof.Rows
set_option maxHeartbeats 0 in
theorem PySem.Challenge.cw_printyard_k99_whole_best_angles_holds : PySem.Challenge.rw_printyard_k99_whole_best_angles.Holds := by
  w_on; o_law; k_head; (case hw => w_witness2)
  k_fill
  refine L2.walk_of (l := PySem.Challenge.rw_printyard_k99_whole_best_angles) (n := 63) (k := 6) (x := "script") (CX := fun w => L2.CX PySem.Challenge.rw_printyard_k99_whole_best_angles.prog w) (sp := fun w => TL.spLaw _) rfl (by decide) rfl ⟨rfl, by decide, by decide⟩ (fun w h Y => PySem.W.kIn_of Y) ?F (fun _ _ a ns hl ho hS => ⟨a, ns, rfl, hS, hl, ho, fun _ => rfl⟩) (fun _ _ _ _ _ h => TL.cx_end h)
  case F =>
    intro w mg fa h KX G hmg
    refine' TL.Law.all_mk KX G hmg ?a0 ?l0 ?c0 ?k0 ?a1 ?l1 ?c1 ?k1 ?a2 ?l2 ?c2 ?k2 ?a3 ?l3 ?c3 ?k3 ?a4 ?l4 ?c4 ?k4 ?a5 ?l5 ?c5 ?k5 ?a6 ?l6 ?c6 ?k6 ?a7 ?l7 ?c7 ?k7 ?a8 ?l8 ?c8 ?k8 ?a9 ?l9 ?c9 ?k9 ?a10 ?l10 ?c10 ?k10 ?a11 ?l11 ?c11 ?k11 ?a12 ?l12 ?c12 ?k12 ?a13 ?l13 ?c13 ?k13 ?a14 ?l14 ?c14 ?k14 ?a15 ?l15 ?c15 ?k15 ?z_abs ?z_all ?z_bool ?z_enumerate ?z_int ?z_isinstance ?z_len ?z_list ?z_min ?z_range ?z_set ?z_sorted ?z_tuple ?z_zip TL.Law.law_true
    (case a0 => k_is); (case l0 => k_is); (case c0 => k_is); (case k0 => k_is); (case a1 => k_is); (case l1 => k_is); (case c1 => k_is); (case k1 => k_is); (case a2 => k_is); (case l2 => k_is); (case c2 => k_is); (case k2 => k_is); (case a3 => k_is); (case l3 => k_is); (case c3 => k_is); (case k3 => k_is); (case a4 => k_is); (case l4 => k_is); (case c4 => k_is); (case k4 => k_is); (case a5 => k_is); (case l5 => k_is); (case c5 => k_is); (case k5 => k_is); (case a6 => k_is); (case l6 => k_is); (case c6 => k_is); (case k6 => k_is); (case a7 => k_is); (case l7 => k_is); (case c7 => k_is); (case k7 => k_is); (case a8 => k_is); (case l8 => k_is); (case c8 => k_is); (case k8 => k_is); (case a9 => k_is); (case l9 => k_is); (case c9 => k_is); (case k9 => k_is); (case a10 => k_is); (case l10 => k_is); (case c10 => k_is); (case k10 => k_is); (case a11 => k_is); (case l11 => k_is); (case c11 => k_is); (case k11 => k_is); (case a12 => k_is); (case l12 => k_is); (case c12 => k_is); (case k12 => k_is); (case a13 => k_is); (case l13 => k_is); (case c13 => k_is); (case k13 => k_is); (case a14 => k_is); (case l14 => k_is); (case c14 => k_is); (case k14 => k_is); (case a15 => k_is); (case l15 => k_is); (case c15 => k_is); (case k15 => k_is); (case z_abs => k_is); (case z_all => k_is); (case z_bool => k_is); (case z_enumerate => k_is); (case z_int => k_is); (case z_isinstance => k_is); (case z_len => k_is); (case z_list => k_is); (case z_min => k_is); (case z_range => k_is); (case z_set => k_is); (case z_sorted => k_is); (case z_tuple => k_is); (case z_zip => k_is)

