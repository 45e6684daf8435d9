import PyProof.Rows.All
import Wide.All
import OpenK.AllK
import Wide.FinOn
import HandS.ForMost
import HandS.IsInst
import HandS.TupAny
import HandS.Deep
import HandS.TupMul
import HandS.Style
import HandS.SortInts
import HandS.SortRule
import HandS.TupLen
import HandS.Remove
import HandS.SetFor
import HandS.DictTup
import HandS.TupSets
import HandS.Zip
import KE.DataFind
import KE.KDictSum
import KE.KDictWalk
import HandS.More
import HandS.Conv
import HandS.Comp
import KE.KDictPairs
import PyProof.ReprRoads
import KE.GoesEnum
import PyProof.EnumMake
import HandS.Words
import HandS.Ends
import HandS.ForDict
import PySem.Challenge.RW_fewfilled_k64_papers_of_rings_by_any_han
set_option Elab.async false
set_option linter.all false
set_option maxRecDepth 100000
set_option maxHeartbeats 4000000
/-! Values as trees, the abstract heap of what may still change, and how both stand in the kit's heap. -/
namespace FF
open PySem PySem.Spec PyProof.Rows L2

/-- a value: what never changes any more is a tree; ref: an object that may still change -/
inductive W where
  | non | bl (b : Bool) | int (i : Int) | str (x : Str)
  | tup (ws : List W) | lst (ws : List W) | dct (t : Bool) (kvs : List (W × W)) | scr (ns : List Int) | ref (a : Addr)
  deriving Inhabited

/-- an object that may change -/
inductive O where
  | lst (ws : List W) | dct (t : Bool) (kvs : List (W × W))
abbrev Mu := Addr → Option O
abbrev Tau := List (Option W)

/-- the run: program, world, written part -/
structure Kx where
  P : Program
  w : World
  K : PySem.W.Frag
def keyW : Key → W
  | .inl i => .int i
  | .inr x => .str x

/-- the script -/
def Scr (K : Kx) (H : Hp) (mu : Mu) (a : Addr) (ns : List Int) : Prop :=
  (mu a = none ∧ Rd H a (.lst (ns.map V.int))) ∨
    ∃ (o : Obj) (its : Array Value) (n : Nat), K.K.lookup a = some o ∧ o.cls = .type "list" ∧ o.dict = none ∧ o.data = .seq its n ∧ its.size ≤ sizeLine ∧ Vals (ns.map V.int) its.toList

/-- a tuple, its object known: it has no dict of its own -/
def TX (H : Hp) (a : Addr) (vs : List V) : Prop := ∃ o : Obj, o.dict = none ∧ H a = some (.frz o (.tup vs))
theorem TX.sq {K : PySem.W.Frag} {H : Hp} {a : Addr} {vs : List V} (h : TX H a vs) : SqT K H a vs := let ⟨o, _, e⟩ := h; .inl (.inr ⟨o, e⟩)
/-- a dict whose keys are tuples: keys, their addresses, values -/
def DtIn (P : Program) (w : World) (a : Addr) (xs : List (List Key × Addr × V)) (h : Heap) : Prop :=
  (a == sysModules) = false ∧ xs.length ≤ sizeLine ∧ ∃ ys : List (List Key × Addr × Value), Paired (fun (p : List Key × Addr × V) (q : List Key × Addr × Value) => p.1 = q.1 ∧ p.2.1 = q.2.1 ∧ RelV p.2.2 q.2.2) xs ys ∧
    ∃ o es ep, h.get? a = some o ∧ o.ExactDict ∧ o.data = .dict es ep ∧ es.toList = ys.map (entryOfKey (tupleKind (mixKind P w))) ∧ (ys.map (·.1)).Nodup
def dTO (K : Kx) (a : Addr) (xs : List (List Key × Addr × V)) : HO := .ext (DtIn K.P K.w a xs)
theorem dTO_ok {P : Program} {w : World} {K : PySem.W.Frag} {H : Hp} {h : Heap} {a : Addr} {xs : List (List Key × Addr × V)} (d : DtIn P w a xs h) : ObjOk P w H h a (dTO ⟨P, w, K⟩ a xs) := by
  refine ⟨d, ?_, fun h1 h2 d1 k => ?_⟩
  · obtain ⟨_, _, _, _, o, _, _, e, _⟩ := d; exact ⟨o, e⟩
  · obtain ⟨q1, q2, ys, q3, o, es, ep, e, q4⟩ := d1
    exact ⟨q1, q2, ys, q3, o, es, ep, k o e, q4⟩

mutual
inductive Rp (K : Kx) (H : Hp) (mu : Mu) : W → V → Prop
  | non : Rp K H mu .non .non
  | bl (b : Bool) : Rp K H mu (.bl b) (.bl b)
  | int (i : Int) : Rp K H mu (.int i) (.int i)
  | str (x : Str) : Rp K H mu (.str x) (.str x)
  | tup {ws : List W} {a : Addr} {vs : List V} (h : TX H a vs) (r : Rps K H mu ws vs) : Rp K H mu (.tup ws) (.ref a)
  | lst {ws : List W} {a : Addr} {vs : List V} (h : H a = some (.lst vs)) (n : mu a = none) (r : Rps K H mu ws vs) : Rp K H mu (.lst ws) (.ref a)
  | dK {kvs : List (W × W)} {a : Addr} {ks : List (Key × V)} (h : Rd H a (.dK ks)) (n : mu a = none) (r : RKs K H mu kvs ks) : Rp K H mu (.dct false kvs) (.ref a)
  | dT {kvs : List (W × W)} {a : Addr} {ks : List (List Key × Addr × V)} (h : Rd H a (dTO K a ks)) (n : mu a = none) (r : RTs K H mu kvs ks) : Rp K H mu (.dct true kvs) (.ref a)
  | scr {ns : List Int} {a : Addr} (h : Scr K H mu a ns) : Rp K H mu (.scr ns) (.ref a)
  | ref (a : Addr) : Rp K H mu (.ref a) (.ref a)
inductive Rps (K : Kx) (H : Hp) (mu : Mu) : List W → List V → Prop
  | nil : Rps K H mu [] []
  | cons {w : W} {v : V} {ws : List W} {vs : List V} (r : Rp K H mu w v) (t : Rps K H mu ws vs) : Rps K H mu (w :: ws) (v :: vs)
inductive RKs (K : Kx) (H : Hp) (mu : Mu) : List (W × W) → List (Key × V) → Prop
  | nil : RKs K H mu [] []
  | cons {k : Key} {w : W} {v : V} {ws : List (W × W)} {vs : List (Key × V)} (r : Rp K H mu w v) (t : RKs K H mu ws vs) : RKs K H mu ((keyW k, w) :: ws) ((k, v) :: vs)
inductive RTs (K : Kx) (H : Hp) (mu : Mu) : List (W × W) → List (List Key × Addr × V) → Prop
  | nil : RTs K H mu [] []
  | cons {k : List Key} {b : Addr} {w : W} {v : V} {ws : List (W × W)} {vs : List (List Key × Addr × V)} (h : TX H b (k.map kV)) (r : Rp K H mu w v) (t : RTs K H mu ws vs) : RTs K H mu ((.tup (k.map keyW), w) :: ws) ((k, b, v) :: vs)
end

/-- a list, a tuple, a dict -/
def Pl : HO → Prop
  | .lst _ => True
  | .tup _ => True
  | .dK _ => True
  | .ext _ => True
  | _ => False
/-- what is not ours to change stays as it may be read -/
structure Frm (H : Hp) (mu : Mu) (H' : Hp) (mu' : Mu) : Prop where
  rd : ∀ a u, mu a = none → Pl u → Rd H a u → Rd H' a u
  ls : ∀ a vs, mu a = none → H a = some (.lst vs) → H' a = some (.lst vs)
  ts : ∀ a o u, H a = some (.frz o u) → H' a = some (.frz o u)
  nn : ∀ a, mu a = none → H a ≠ none → mu' a = none
  st : ∀ a, H a ≠ none → H' a ≠ none
theorem Frm.refl (H : Hp) (mu : Mu) : Frm H mu H mu := ⟨fun _ _ _ _ h => h, fun _ _ _ h => h, fun _ _ _ h => h, fun _ n _ => n, fun _ h => h⟩
theorem Frm.trans {H H1 H2 : Hp} {mu mu1 mu2 : Mu} (a : Frm H mu H1 mu1) (b : Frm H1 mu1 H2 mu2) : Frm H mu H2 mu2 :=
  have rn : ∀ {H : Hp} {c u}, Rd H c u → H c ≠ none := fun {H c u} h z => by
    rcases h with h | ⟨o, h⟩
    · rw [z] at h; cases h
    · rw [z] at h; cases h
  ⟨fun c u n p h => b.rd c u (a.nn c n (rn h)) p (a.rd c u n p h),
   fun c u n h => b.ls c u (a.nn c n (by rw [h]; exact fun z => nomatch z)) (a.ls c u n h),
   fun c o u h => b.ts c o u (a.ts c o u h),
   fun c n h => b.nn c (a.nn c n h) (a.st c h), fun c h => b.st c (a.st c h)⟩
theorem rdne {H : Hp} {c : Addr} {u : HO} (h : Rd H c u) : H c ≠ none := fun z => by
  rcases h with h | ⟨o, h⟩
  · rw [z] at h; cases h
  · rw [z] at h; cases h

section
variable {K : Kx} {H H' : Hp} {mu mu' : Mu}

/-- what is ours is a list or a dict -/
def OR (K : Kx) (H : Hp) (mu : Mu) (a : Addr) : O → Prop
  | .lst ws => ∃ vs, H a = some (.lst vs) ∧ Rps K H mu ws vs
  | .dct false kvs => ∃ ks, H a = some (.dK ks) ∧ RKs K H mu kvs ks
  | .dct true kvs => ∃ ks, H a = some (dTO K a ks) ∧ RTs K H mu kvs ks
def MRel (K : Kx) (H : Hp) (mu : Mu) : Prop := ∀ a o, mu a = some o → OR K H mu a o
theorem OR.there {a : Addr} {o : O} (h : OR K H mu a o) : ∃ u, H a = some u ∧ (∀ xs, u ≠ .tup xs) ∧ ∀ ob x, u ≠ .frz ob x := by
  cases o with
  | lst ws => obtain ⟨vs, e, _⟩ := h; exact ⟨_, e, (fun _ z => nomatch z), (fun _ _ z => nomatch z)⟩
  | dct t kvs =>
    cases t <;> obtain ⟨ks, e, _⟩ := h
    · exact ⟨_, e, (fun _ z => nomatch z), (fun _ _ z => nomatch z)⟩
    · exact ⟨_, e, (fun _ z => nomatch z), (fun _ _ z => nomatch z)⟩
theorem MRel.none_of (m : MRel K H mu) {a : Addr} (h : H a = none) : mu a = none := by
  cases e : mu a with
  | none => rfl
  | some o =>
    obtain ⟨u, e1, _⟩ := (m a o e).there
    rw [h] at e1; cases e1
theorem MRel.frz_none (m : MRel K H mu) {a : Addr} {o : Obj} {u : HO} (h : H a = some (.frz o u)) : mu a = none := by
  cases e : mu a with
  | none => rfl
  | some x =>
    obtain ⟨u, e1, e2, e3⟩ := (m a x e).there
    rw [e1] at h
    exact absurd (Option.some.inj h) (e3 _ _)
theorem TX.frm {a : Addr} {vs : List V} (f : Frm H mu H' mu') (h : TX H a vs) : TX H' a vs := let ⟨o, d, e⟩ := h; ⟨o, d, f.ts _ _ _ e⟩

mutual
theorem Rp.frm (m : MRel K H mu) (f : Frm H mu H' mu') : ∀ {w : W} {v : V}, Rp K H mu w v → Rp K H' mu' w v
  | _, _, .non => .non
  | _, _, .bl b => .bl b
  | _, _, .int i => .int i
  | _, _, .str x => .str x
  | _, _, .tup h r => .tup (h.frm f) (Rps.frm m f r)
  | _, _, .lst h n r => .lst (f.ls _ _ n h) (f.nn _ n (by rw [h]; exact fun z => nomatch z)) (Rps.frm m f r)
  | _, _, .dK h n r => .dK (f.rd _ _ n True.intro h) (f.nn _ n (rdne h)) (RKs.frm m f r)
  | _, _, .dT h n r => .dT (f.rd _ _ n True.intro h) (f.nn _ n (rdne h)) (RTs.frm m f r)
  | _, _, .scr h => .scr (h.elim (fun ⟨n, h⟩ => .inl ⟨f.nn _ n (rdne h), f.rd _ _ n True.intro h⟩) .inr)
  | _, _, .ref a => .ref a
theorem Rps.frm (m : MRel K H mu) (f : Frm H mu H' mu') : ∀ {w : List W} {v : List V}, Rps K H mu w v → Rps K H' mu' w v
  | _, _, .nil => .nil
  | _, _, .cons r t => .cons (Rp.frm m f r) (Rps.frm m f t)
theorem RKs.frm (m : MRel K H mu) (f : Frm H mu H' mu') : ∀ {w : List (W × W)} {v : List (Key × V)}, RKs K H mu w v → RKs K H' mu' w v
  | _, _, .nil => .nil
  | _, _, .cons r t => .cons (Rp.frm m f r) (RKs.frm m f t)
theorem RTs.frm (m : MRel K H mu) (f : Frm H mu H' mu') : ∀ {w : List (W × W)} {v : List (List Key × Addr × V)}, RTs K H mu w v → RTs K H' mu' w v
  | _, _, .nil => .nil
  | _, _, .cons h r t => .cons (h.frm f) (Rp.frm m f r) (RTs.frm m f t)
end

/-- slots -/
structure SR (K : Kx) (s : L2.St) (t : Tau) (H : Hp) (mu : Mu) : Prop where
  len : s.length = t.length
  get : ∀ (i : Nat) (w : W), t[i]? = some (some w) → ∃ v, s[i]? = some (some v) ∧ Rp K H mu w v
  m : MRel K H mu
theorem SR.step {s : L2.St} {t : Tau} (h : SR K s t H mu) (f : Frm H mu H' mu') (m' : MRel K H' mu') : SR K s t H' mu' :=
  ⟨h.len, fun i w e => let ⟨v, e1, r⟩ := h.get i w e; ⟨v, e1, r.frm h.m f⟩, m'⟩
theorem SR.set {s : L2.St} {t : Tau} {w : W} {v : V} (i : Nat) (h : SR K s t H mu) (r : Rp K H mu w v) : SR K (s.set i (some v)) (t.set i (some w)) H mu := by
  refine ⟨by rw [List.length_set, List.length_set]; exact h.len, fun j w' e => ?_, h.m⟩
  by_cases hj : i = j
  · subst hj
    by_cases hl : i < t.length
    · rw [List.getElem?_set_self hl] at e
      cases e
      exact ⟨v, by rw [List.getElem?_set_self (by rw [h.len]; exact hl)], r⟩
    · rw [List.getElem?_eq_none (by simpa using hl)] at e; cases e
  · rw [List.getElem?_set_ne hj] at e
    rw [List.getElem?_set_ne hj]
    exact h.get j w' e

/-! ### a fresh object -/
def sett (mu : Mu) (a : Addr) (o : O) : Mu := fun b => if b = a then some o else mu b
def dell (mu : Mu) (a : Addr) : Mu := fun b => if b = a then none else mu b
theorem sett_same {mu : Mu} {a : Addr} {o : O} : sett mu a o a = some o := if_pos rfl
theorem sett_ne {mu : Mu} {a b : Addr} {o : O} (h : b ≠ a) : sett mu a o b = mu b := if_neg h
/-- a new object that is not ours -/
theorem Frm.fresh {p : Addr} {u : HO} (hp : H p = none) : Frm H mu (upd H p u) mu := by
  have ne : ∀ {c}, H c ≠ none → c ≠ p := fun {c} h z => h (by rw [z]; exact hp)
  refine ⟨fun a x n pl h => ?_, fun a vs n h => ?_, fun a ob vs h => ?_, fun a n _ => n, fun a h => ?_⟩
  · have hn := ne (rdne h)
    rcases h with h | ⟨o, h⟩
    · exact .inl (by rw [upd_ne hn]; exact h)
    · exact .inr ⟨o, by rw [upd_ne hn]; exact h⟩
  · rw [upd_ne (ne (by rw [h]; exact fun z => nomatch z))]; exact h
  · rw [upd_ne (ne (by rw [h]; exact fun z => nomatch z))]; exact h
  · rw [upd_ne (ne h)]; exact h
theorem OR.frm {a : Addr} {o : O} (m : MRel K H mu) (f : Frm H mu H' mu') (h : OR K H mu a o) (e : ∀ u, H a = some u → H' a = some u) : OR K H' mu' a o := by
  cases o with
  | lst ws => obtain ⟨vs, e1, r⟩ := h; exact ⟨vs, e _ e1, r.frm m f⟩
  | dct t kvs =>
    cases t <;> obtain ⟨ks, e1, r⟩ := h
    · exact ⟨ks, e _ e1, r.frm m f⟩
    · exact ⟨ks, e _ e1, r.frm m f⟩
theorem MRel.fresh {p : Addr} {u : HO} (m : MRel K H mu) (hp : H p = none) : MRel K (upd H p u) mu := fun a o e =>
  (m a o e).frm m (Frm.fresh hp) fun x hx => by rw [upd_ne (ne_of_none hx hp)]; exact hx
theorem Frm.freshO {p : Addr} {u : HO} {o : O} (hp : H p = none) : Frm H mu (upd H p u) (sett mu p o) := by
  have f : Frm H mu (upd H p u) mu := Frm.fresh hp
  exact ⟨f.rd, f.ls, f.ts, fun a n h => by rw [sett_ne (fun z => h (by rw [z]; exact hp))]; exact n, f.st⟩
theorem MRel.freshO {p : Addr} {u : HO} {o : O} (m : MRel K H mu) (hp : H p = none) (h : OR K (upd H p u) (sett mu p o) p o) : MRel K (upd H p u) (sett mu p o) := fun a x e => by
  by_cases hb : a = p
  · subst hb; rw [sett_same] at e; cases e; exact h
  · rw [sett_ne hb] at e
    exact (m a x e).frm m (Frm.freshO hp) fun y hx => by rw [upd_ne hb]; exact hx
/-- an object of ours written -/
theorem Frm.write {p : Addr} {u : HO} {o : O} (m : MRel K H mu) (hp : mu p ≠ none) : Frm H mu (upd H p u) (sett mu p o) := by
  have ne : ∀ {c}, mu c = none → c ≠ p := fun {c} h z => hp (by rw [← z]; exact h)
  refine ⟨fun a x n pl h => ?_, fun a vs n h => ?_, fun a ob vs h => ?_, fun a n _ => by rw [sett_ne (ne n)]; exact n, fun a h => ?_⟩
  · rcases h with h | ⟨ob, h⟩
    · exact .inl (by rw [upd_ne (ne n)]; exact h)
    · exact .inr ⟨ob, by rw [upd_ne (ne n)]; exact h⟩
  · rw [upd_ne (ne n)]; exact h
  · rw [upd_ne (ne (m.frz_none h))]; exact h
  · by_cases e : a = p
    · subst e; rw [upd_same]; exact fun z => nomatch z
    · rw [upd_ne e]; exact h
theorem MRel.write {p : Addr} {u : HO} {o : O} (m : MRel K H mu) (hp : mu p ≠ none) (h : OR K (upd H p u) (sett mu p o) p o) : MRel K (upd H p u) (sett mu p o) := fun a x e => by
  by_cases hb : a = p
  · subst hb; rw [sett_same] at e; cases e; exact h
  · rw [sett_ne hb] at e
    exact (m a x e).frm m (Frm.write m hp) fun y hx => by rw [upd_ne hb]; exact hx

/-! ### lists of values -/
theorem Rps.length : ∀ {ws : List W} {vs : List V}, Rps K H mu ws vs → ws.length = vs.length
  | _, _, .nil => rfl
  | _, _, .cons _ t => congrArg (· + 1) (Rps.length t)
theorem Rps.get : ∀ {ws : List W} {vs : List V} {i : Nat} {w : W}, Rps K H mu ws vs → ws[i]? = some w → ∃ v, vs[i]? = some v ∧ Rp K H mu w v
  | _, _, _, _, .nil, e => by simp at e
  | _, _, 0, _, .cons r _, e => by simp at e; subst e; exact ⟨_, rfl, r⟩
  | _, _, i + 1, w, .cons _ t, e => by
    obtain ⟨u, h1, h2⟩ := Rps.get (i := i) (w := w) t (by simpa using e)
    exact ⟨u, by simpa using h1, h2⟩
theorem Rps.getV : ∀ {ws : List W} {vs : List V} {i : Nat} {v : V}, Rps K H mu ws vs → vs[i]? = some v → ∃ w, ws[i]? = some w ∧ Rp K H mu w v
  | _, _, _, _, .nil, e => by simp at e
  | _, _, 0, _, .cons r _, e => by simp at e; subst e; exact ⟨_, rfl, r⟩
  | _, _, i + 1, w, .cons _ t, e => by
    obtain ⟨u, h1, h2⟩ := Rps.getV (i := i) (v := w) t (by simpa using e)
    exact ⟨u, by simpa using h1, h2⟩
theorem Rps.set {w : W} {v : V} (r : Rp K H mu w v) : ∀ {ws : List W} {vs : List V} (i : Nat), Rps K H mu ws vs → Rps K H mu (ws.set i w) (vs.set i v)
  | _, _, _, .nil => .nil
  | _, _, 0, .cons _ t => .cons r t
  | _, _, i + 1, .cons q t => .cons q (Rps.set r i t)
theorem Rps.append : ∀ {ws ws' : List W} {vs vs' : List V}, Rps K H mu ws vs → Rps K H mu ws' vs' → Rps K H mu (ws ++ ws') (vs ++ vs')
  | _, _, _, _, .nil, s => s
  | _, _, _, _, .cons r t, s => .cons r (Rps.append t s)
theorem Rps.take : ∀ {ws : List W} {vs : List V} (n : Nat), Rps K H mu ws vs → Rps K H mu (ws.take n) (vs.take n)
  | _, _, 0, _ => .nil
  | _, _, _ + 1, .nil => .nil
  | _, _, n + 1, .cons r t => .cons r (Rps.take n t)
theorem Rps.drop : ∀ {ws : List W} {vs : List V} (n : Nat), Rps K H mu ws vs → Rps K H mu (ws.drop n) (vs.drop n)
  | _, _, 0, r => r
  | _, _, _ + 1, .nil => .nil
  | _, _, n + 1, .cons _ t => Rps.drop n t
theorem Rps.eraseIdx : ∀ {ws : List W} {vs : List V} (n : Nat), Rps K H mu ws vs → Rps K H mu (ws.eraseIdx n) (vs.eraseIdx n)
  | _, _, _, .nil => .nil
  | _, _, 0, .cons _ t => t
  | _, _, n + 1, .cons r t => .cons r (Rps.eraseIdx n t)
theorem Rps.reverse : ∀ {ws : List W} {vs : List V}, Rps K H mu ws vs → Rps K H mu ws.reverse vs.reverse
  | _, _, .nil => .nil
  | _, _, .cons r t => by
    rw [List.reverse_cons, List.reverse_cons]
    exact (Rps.reverse t).append (.cons r .nil)
theorem Rps.dropLast {ws : List W} {vs : List V} (r : Rps K H mu ws vs) : Rps K H mu ws.dropLast vs.dropLast := by
  rw [List.dropLast_eq_take, List.dropLast_eq_take, r.length]
  exact r.take _
theorem Rps.replicate {w : W} {v : V} (r : Rp K H mu w v) : ∀ n, Rps K H mu (List.replicate n w) (List.replicate n v)
  | 0 => .nil
  | n + 1 => .cons r (Rps.replicate r n)
theorem Rps.ints : ∀ (ns : List Int), Rps K H mu (ns.map W.int) (ns.map V.int)
  | [] => .nil
  | n :: ns => .cons (.int n) (Rps.ints ns)
theorem Rps.ints_inv : ∀ {ns : List Int} {vs : List V}, Rps K H mu (ns.map W.int) vs → vs = ns.map V.int
  | [], _, .nil => rfl
  | _ :: ns, _, .cons (.int i) t => by rw [Rps.ints_inv (ns := ns) t]; rfl
theorem Rps.bls_inv : ∀ {ns : List Bool} {vs : List V}, Rps K H mu (ns.map W.bl) vs → vs = ns.map V.bl
  | [], _, .nil => rfl
  | _ :: ns, _, .cons (.bl i) t => by rw [Rps.bls_inv (ns := ns) t]; rfl
end
end FF

/-! The small language, what it asks (wp), and how it is matched with the kit's syntax. -/
namespace FF
open PySem PySem.Spec PyProof.Rows L2

inductive Cn where
  | non | bl (b : Bool) | int (i : Int) | str (x : Str)
def Cn.w : Cn → W
  | .non => .non
  | .bl b => .bl b
  | .int i => .int i
  | .str x => .str x

/-- built-in functions of values -/
inductive Bf where
  | len | abs | max2 | min2 | int | rpr | str | sum | all | any | minL | maxL | sorted | tuple | lenset
  | isi (T : String)
  deriving DecidableEq
/-- methods -/
inductive Mt where
  | append | extend | pop | popAt | remove | count | get2 | popD
  deriving DecidableEq

def Mt.ty : Mt → String
  | .append => "list"
  | .extend => "list"
  | .pop => "list"
  | .popAt => "list"
  | .remove => "list"
  | .count => "tuple"
  | .get2 => "dict"
  | .popD => "dict"
mutual
inductive E where
  | var (i : Nat)
  | con (c : Cn)
  | glb (x : Str)
  | bin (op : Operator) (a b : E)
  | neg (a : E)
  | inv (a : E)
  | cmp (op : CmpOp) (a b : E)
  | chn (o1 o2 : CmpOp) (a b c : E)
  | ifx (c : C) (a b : E)
  | cnd (c : C)
  | tup (es : EL)
  | mk (own : Bool) (es : EL)
  | lof (own : Bool) (e : E)
  | lrg (own : Bool) (e : E)
  | trg (a b : E)
  | dnw (own : Bool) (t : Bool)
  | dc1 (own : Bool) (k v : E)
  | dcp (own t : Bool) (e : E)
  | cmp1 (own : Bool) (ss : List Nat) (t : T) (it : I) (c : CO) (el : E)
  | idx (a b : E)
  | sl (own : Bool) (a : E) (lo hi : EO)
  | sst (own : Bool) (a : E) (k : Int)
  | cal (f : Str) (es : EL)
  | bif (b : Bf) (es : EL)
  | isi (T : String) (e : E)
  | lns (e : E)
  | mth (m : Mt) (o : E) (es : EL)
inductive EL where
  | nil
  | cons (e : E) (r : EL)
inductive EO where
  | none
  | some (e : E)
inductive CO where
  | none
  | some (c : C)
inductive C where
  | val (e : E)
  | cmp (op : CmpOp) (a b : E)
  | chn (o1 o2 : CmpOp) (a b c : E)
  | and (a b : C)
  | or (a b : C)
  | not (a : C)
inductive T where
  | nam (i : Nat)
  | tup (ts : TL)
  | sub (o i : E)
inductive TL where
  | nil
  | cons (t : T) (r : TL)
inductive I where
  | of (e : E)
  | rg1 (e : E)
  | rg2 (a b : E)
  | enu (e : E)
  | zip (a b : E)
  | rev (e : E)
end
mutual
def T.nms : T → List Nat
  | .nam i => [i]
  | .tup ts => ts.nms
  | .sub _ _ => []
def TL.nms : TL → List Nat
  | .nil => []
  | .cons t r => t.nms ++ r.nms
end
def TL.len : TL → Nat
  | .nil => 0
  | .cons _ r => r.len + 1
mutual
inductive S where
  | asg (t : T) (e : E)
  | par (is : List Nat) (es : EL)
  | aug (i : Nat) (op : Operator) (e : E)
  | ex (e : E)
  | ret (e : E)
  | iff (c : C) (a b : SL)
  | for (t : T) (it : I) (b : SL)
  | whl (c : C) (b : SL)
  | brk
  | cnt
  | pas
  | nev
inductive SL where
  | nil
  | nev
  | cons (s : S) (r : SL)
end

/-! ### operations of values -/
abbrev QW := W → Mu → Prop
abbrev SpW := List W → Mu → QW → Prop

/-- what an object of ours looks like now -/
def vw (mu : Mu) : W → W
  | .ref a => match mu a with
    | some (.lst ws) => .lst ws
    | some (.dct t kvs) => .dct t kvs
    | none => .ref a
  | w => w
def newL (own : Bool) (ws : List W) (mu : Mu) (Q : QW) : Prop :=
  ws.length ≤ sizeLine ∧ if own = true then ∀ p, mu p = none → Q (.ref p) (sett mu p (.lst ws)) else Q (.lst ws) mu
def newD (own t : Bool) (kvs : List (W × W)) (mu : Mu) (Q : QW) : Prop :=
  if own = true then ∀ p, mu p = none → Q (.ref p) (sett mu p (.dct t kvs)) else Q (.dct t kvs) mu

def binR (op : Operator) (x y : W) (mu : Mu) (Q : QW) : Prop :=
  match op, x, y with
  | .Add, .int i, .int j => Q (.int (i + j)) mu
  | .Add, .str i, .str j => i.length + j.length ≤ sizeLine ∧ Q (.str (i ++ j)) mu
  | .Add, .tup xs, .tup ys => xs.length + ys.length ≤ sizeLine ∧ Q (.tup (xs ++ ys)) mu
  | .Add, .lst xs, .lst ys => xs.length + ys.length ≤ sizeLine ∧ Q (.lst (xs ++ ys)) mu
  | .Sub, .int i, .int j => Q (.int (i - j)) mu
  | .Mult, .int i, .int j => IntMulOk i j ∧ Q (.int (i * j)) mu
  | .FloorDiv, .int i, .int j => CDivN i j ∧ Q (.int (i.fdiv j)) mu
  | .Mod, .int i, .int j => j ≠ 0 ∧ Q (.int (i.fmod j)) mu
  | .Pow, .int i, .int j => CPow i j ∧ Q (.int (i ^ j.toNat)) mu
  | .LShift, .int i, .int j => CPow i j ∧ Q (.int (i * 2 ^ j.toNat)) mu
  | .RShift, .int i, .int j => 0 ≤ j ∧ Q (.int (i / 2 ^ j.toNat)) mu
  | .BitAnd, .int i, .int j => Q (.int (Builtin.bitAnd i j)) mu
  | .BitOr, .int i, .int j => Q (.int (Builtin.bitOr i j)) mu
  | .BitXor, .int i, .int j => Q (.int (Builtin.bitXor i j)) mu
  | _, _, _ => False

mutual
/-- as the kit's data, where it is plain -/
def toD : W → Option PyData
  | .non => some .none
  | .bl b => some (.bool b)
  | .int i => some (.int i)
  | .str x => some (.str x)
  | .tup ws => (toDs ws).map .tuple
  | .lst ws => (toDs ws).map .list
  | _ => none
def toDs : List W → Option (List PyData)
  | [] => some []
  | w :: ws => match toD w, toDs ws with
    | some d, some ds => some (d :: ds)
    | _, _ => none
end
def intsOf : List W → Option (List Int)
  | [] => some []
  | .int i :: ws => (intsOf ws).map (i :: ·)
  | _ :: _ => none
def blsOf : List W → Option (List Bool)
  | [] => some []
  | .bl i :: ws => (blsOf ws).map (i :: ·)
  | _ :: _ => none
/-- == -/
def eqR (x y : W) (Q : Bool → Prop) : Prop :=
  match x, y with
  | .int i, .int j => Q (decide (i = j))
  | .str i, .str j => Q (decide (i = j))
  | .bl i, .bl j => Q (decide (i = j))
  | .non, .int _ => Q false
  | .int _, .non => Q false
  | .non, .non => Q true
  | .int _, .str _ => Q false
  | .str _, .int _ => Q false
  | x, y => ∃ d e, toD x = some d ∧ toD y = some e ∧ SeqAt.shaped d = true ∧ SeqAt.shaped e = true ∧ Q (PyData.eqv d e)
/-- a key of a dict -/
def keyOf : W → Option Key
  | .int i => some (.inl i)
  | .str x => some (.inr x)
  | _ => none
def keysOf : List W → Option (List Key)
  | [] => some []
  | w :: ws => match keyOf w, keysOf ws with
    | some k, some ks => some (k :: ks)
    | _, _ => none
inductive DK where
  | k (k : Key) | t (ks : List Key)
  deriving DecidableEq
def dkOf : W → Option DK
  | .tup ws => (keysOf ws).map .t
  | w => (keyOf w).map .k
/-- the value at a key -/
def dget : List (W × W) → DK → Option W
  | [], _ => none
  | (a, w) :: r, k => if dkOf a = some k then some w else dget r k
def dput (kvs : List (W × W)) (k : DK) (kw v : W) : List (W × W) :=
  if (kvs.any fun p => decide (dkOf p.1 = some k)) = true then kvs.map (fun p => if dkOf p.1 = some k then (p.1, v) else p) else kvs ++ [(kw, v)]
def ddrop (kvs : List (W × W)) (k : DK) : List (W × W) := kvs.filter fun p => decide (dkOf p.1 ≠ some k)
/-- a dict's keys are of one kind -/
def dkK : DK → Bool
  | .k _ => false
  | .t _ => true
def flatW : W → Bool
  | .non => true
  | .bl _ => true
  | .int _ => true
  | .str _ => true
  | _ => false
/-- x in y -/
def inR (x y : W) (Q : Bool → Prop) : Prop :=
  match y with
  | .dct t kvs => ∃ k, dkOf x = some k ∧ dkK k = t ∧ Q (dget kvs k).isSome
  | .tup ws => ∃ d ds, toD x = some d ∧ toDs ws = some ds ∧ SeqAt.shaped d = true ∧ SeqAt.shaped (.list ds) = true ∧ Q (ds.any fun z => PyData.eqv z d)
  | .lst ws => ∃ d ds, toD x = some d ∧ toDs ws = some ds ∧ SeqAt.shaped d = true ∧ SeqAt.shaped (.list ds) = true ∧ Q (ds.any fun z => PyData.eqv z d)
  | _ => False
def cmpR (op : CmpOp) (x y : W) (mu : Mu) (Q : QW) : Prop :=
  match op with
  | .Eq => eqR (vw mu x) (vw mu y) fun b => Q (.bl b) mu
  | .NotEq => eqR (vw mu x) (vw mu y) fun b => Q (.bl (!b)) mu
  | .Lt => match x, y with
    | .int i, .int j => Q (.bl (decide (i < j))) mu
    | .tup xs, .tup ys => ∃ ns ms, intsOf xs = some ns ∧ intsOf ys = some ms ∧ Q (.bl (HT.lexLt ns ms)) mu
    | _, _ => False
  | .LtE => match x, y with
    | .int i, .int j => Q (.bl (decide (i ≤ j))) mu
    | _, _ => False
  | .Gt => match x, y with
    | .int i, .int j => Q (.bl (decide (j < i))) mu
    | _, _ => False
  | .GtE => match x, y with
    | .int i, .int j => Q (.bl (decide (j ≤ i))) mu
    | _, _ => False
  | .In => inR x (vw mu y) fun b => Q (.bl b) mu
  | .NotIn => inR x (vw mu y) fun b => Q (.bl (!b)) mu
  | .Is => match y with
    | .non => Q (.bl (match x with | .non => true | _ => false)) mu
    | .bl b => match x with
      | .bl c => Q (.bl (decide (c = b))) mu
      | _ => False
    | _ => False
  | .IsNot => match y with
    | .non => Q (.bl (match x with | .non => false | _ => true)) mu
    | .bl b => match x with
      | .bl c => Q (.bl (!decide (c = b))) mu
      | _ => False
    | _ => False

def optQ (o : Option W) (Q : W → Prop) : Prop := match o with
  | some w => Q w
  | none => False
def idxR (x y : W) (mu : Mu) (Q : QW) : Prop :=
  match vw mu x, y with
  | .tup ws, .int i => optQ (atI ws i) fun w => Q w mu
  | .lst ws, .int i => optQ (atI ws i) fun w => Q w mu
  | .dct t kvs, k => ∃ d, dkOf k = some d ∧ dkK d = t ∧ optQ (dget kvs d) fun w => Q w mu
  | _, _ => False
def cutW (xs : List W) (lo hi : Option Int) : List W := (xs.drop (HT.sIx xs.length 0 lo)).take (HT.sIx xs.length xs.length hi - HT.sIx xs.length 0 lo)
def slR (own : Bool) (x : W) (lo hi : Option Int) (mu : Mu) (Q : QW) : Prop :=
  match vw mu x with
  | .tup ws => Q (.tup (cutW ws lo hi)) mu
  | .lst ws => newL own (cutW ws lo hi) mu Q
  | .scr ns => newL own (cutW (ns.map W.int) lo hi) mu Q
  | _ => False
/-- every k-th one: k = -1 (from behind), 2 -/
def evry2 : List W → List W
  | [] => []
  | [a] => [a]
  | a :: _ :: r => a :: evry2 r
def stepW (k : Int) (ws : List W) : List W := if k = -1 then ws.reverse else evry2 ws
def sstR (own : Bool) (x : W) (k : Int) (mu : Mu) (Q : QW) : Prop :=
  (k = -1 ∨ k = 2) ∧ match vw mu x with
  | .tup ws => Q (.tup (stepW k ws)) mu
  | .lst ws => k = -1 ∧ newL own (stepW k ws) mu Q
  | _ => False
def itemsOf (mu : Mu) (x : W) : Option (List W) := match vw mu x with
  | .tup ws => some ws
  | .lst ws => some ws
  | _ => none

def lenR (x : W) (mu : Mu) (Q : QW) : Prop :=
  match vw mu x with
  | .tup ws => Q (.int ws.length) mu
  | .lst ws => Q (.int ws.length) mu
  | .dct _ kvs => Q (.int kvs.length) mu
  | .str z => z.length ≤ sizeLine ∧ Q (.int z.length) mu
  | _ => False
def tyW : W → Option String
  | .non => some "NoneType"
  | .bl _ => some "bool"
  | .int _ => some "int"
  | .str _ => some "str"
  | .tup _ => some "tuple"
  | .lst _ => some "list"
  | .dct _ _ => some "dict"
  | _ => none
def lstOf (mu : Mu) (x : W) : Option (List W) := match vw mu x with
  | .lst ws => some ws
  | _ => none
/-- rising -/
def srtI (ns : List Int) : List Int := ns.mergeSort fun a b => decide (a ≤ b)
def pairsOf : List W → Option (List (Int × Int))
  | [] => some []
  | .tup [.int i, .int j] :: ws => (pairsOf ws).map ((i, j) :: ·)
  | _ :: _ => none
def leP (a b : Int × Int) : Bool := decide (a.1 < b.1) || (decide (a.1 = b.1) && decide (a.2 ≤ b.2))
def srtP (ns : List (Int × Int)) : List (Int × Int) := ns.mergeSort leP
def pairW (p : Int × Int) : W := .tup [.int p.1, .int p.2]
def sortR (x : W) (mu : Mu) (Q : QW) : Prop :=
  match vw mu x with
  | .tup ws => (∃ ns, intsOf ws = some ns ∧ Q (.lst ((srtI ns).map W.int)) mu) ∨ (∃ ps, pairsOf ws = some ps ∧ Q (.lst ((srtP ps).map pairW)) mu)
  | .lst ws => (∃ ns, intsOf ws = some ns ∧ Q (.lst ((srtI ns).map W.int)) mu) ∨ (∃ ps, pairsOf ws = some ps ∧ Q (.lst ((srtP ps).map pairW)) mu)
  | .dct _ kvs => (∃ ns, intsOf (kvs.map (·.1)) = some ns ∧ Q (.lst ((srtI ns).map W.int)) mu) ∨ (∃ ps, pairsOf (kvs.map (·.1)) = some ps ∧ Q (.lst ((srtP ps).map pairW)) mu)
  | _ => False
/-- dict(..) of pairs -/
def dctOf : List W → Option (List (W × W))
  | [] => some []
  | .tup [k, v] :: ws => (dctOf ws).map ((k, v) :: ·)
  | _ :: _ => none
def dmerge (kvs : List (W × W)) (more : List (W × W)) : List (W × W) :=
  more.foldl (fun acc p => match dkOf p.1 with | some k => dput acc k p.1 p.2 | none => acc) kvs
/-- dict(xs), xs a list of pairs whose keys are tuples -/
def dcpR (own : Bool) (x : W) (mu : Mu) (Q : QW) : Prop := ∃ ws ps, lstOf mu x = some ws ∧ dctOf ws = some ps ∧ (∀ p ∈ ps, ∃ k, dkOf p.1 = some (.t k)) ∧ newD own true (dmerge [] ps) mu Q
def rngW (lo : Int) (n : Nat) : List W := (List.range n).map fun (k : Nat) => W.int (lo + k)
inductive Src where
  | free
  | own (a : Addr) (ws : List W)
def stays : Src → Mu → Prop
  | .free, _ => True
  | .own a ws, mu => mu a = some (.lst ws)
def srcOf (mu : Mu) : W → Src
  | .ref a => match mu a with
    | some (.lst ws) => .own a ws
    | _ => .free
  | _ => .free
def dell' (mu : Mu) : W → Mu
  | .ref a => dell mu a
  | _ => mu
/-- what a loop walks: a list, a tuple, the tuple keys of a dict (which is not written any more) -/
def iterR (x : W) (mu : Mu) (Q : List W → Src → Mu → Prop) : Prop :=
  match vw mu x with
  | .tup ws => Q ws .free mu
  | .lst ws => Q ws (srcOf mu x) mu
  | .dct true kvs => Q (kvs.map (·.1)) .free (dell' mu x)
  | _ => False
/-- tuple(range(i, j)) -/
def trgR (x y : W) (mu : Mu) (Q : QW) : Prop := ∃ i j : Int, x = .int i ∧ y = .int j ∧ (-1000000 ≤ i ∧ i ≤ 1000000 ∧ -1000000 ≤ j ∧ j ≤ 1000000) ∧ Q (.tup (rngW i (j - i).toNat)) mu
def bifR (b : Bf) (vs : List W) (mu : Mu) (Q : QW) : Prop :=
  match b, vs with
  | .len, [x] => lenR x mu Q
  | .abs, [.int i] => Q (.int (if i < 0 then -i else i)) mu
  | .max2, [.int i, .int j] => Q (.int (if j > i then j else i)) mu
  | .min2, [.int i, .int j] => Q (.int (if j < i then j else i)) mu
  | .int, [.int i] => Q (.int i) mu
  | .int, [.bl k] => Q (.int (if k then 1 else 0)) mu
  | .rpr, [x] => ∃ d, toD x = some d ∧ PyData.showable d = true ∧ d.depth ≤ 60 ∧ (PyData.shown d).length ≤ sizeLine ∧ Q (.str (PyData.shown d)) mu
  | .str, [.int i] => i.natAbs.log2 < 1920 ∧ Q (.str (toString i)) mu
  | .str, [.str z] => Q (.str z) mu
  | .str, [x] => ∃ d, toD x = some d ∧ PyData.showable d = true ∧ d.depth ≤ 60 ∧ (PyData.shown d).length ≤ sizeLine ∧ Q (.str (PyData.shown d)) mu
  | .sum, [x] => ∃ ws ns, lstOf mu x = some ws ∧ intsOf ws = some ns ∧ Q (.int ns.sum) mu
  | .all, [x] => ∃ ws bs, lstOf mu x = some ws ∧ blsOf ws = some bs ∧ Q (.bl (bs.all id)) mu
  | .any, [x] => ∃ ws bs, lstOf mu x = some ws ∧ blsOf ws = some bs ∧ Q (.bl (bs.any id)) mu
  | .minL, [x] => ∃ ws ns m, lstOf mu x = some ws ∧ intsOf ws = some ns ∧ m ∈ ns ∧ (∀ y ∈ ns, m ≤ y) ∧ Q (.int m) mu
  | .maxL, [x] => ∃ ws ns m, lstOf mu x = some ws ∧ intsOf ws = some ns ∧ m ∈ ns ∧ (∀ y ∈ ns, y ≤ m) ∧ Q (.int m) mu
  | .sorted, [x] => sortR x mu Q
  | .tuple, [x] => optQ ((itemsOf mu x).map W.tup) fun w => Q w mu
  | .isi T, [x] => ∃ a b, tyW (vw mu x) = some a ∧ kitB a T = some b ∧ Q (.bl b) mu
  | .lenset, [x] => ∃ ws ns ds, vw mu x = .tup ws ∧ intsOf ws = some ns ∧ ns.length < 4000 ∧ List.Nodup ds ∧ (∀ k, k ∈ ds ↔ k ∈ ns) ∧ Q (.int (ds.length : Nat)) mu
  | _, _ => False
def mthR (m : Mt) (o : W) (vs : List W) (mu : Mu) (Q : QW) : Prop :=
  match m, o, vs with
  | .append, .ref a, [y] => ∃ ws, mu a = some (.lst ws) ∧ ws.length < sizeLine ∧ Q .non (sett mu a (.lst (ws ++ [y])))
  | .extend, .ref a, [y] => ∃ ws zs, mu a = some (.lst ws) ∧ vw mu y = .lst zs ∧ ws.length + zs.length ≤ sizeLine ∧ Q .non (sett mu a (.lst (ws ++ zs)))
  | .pop, .ref a, [] => ∃ ws w, mu a = some (.lst (ws ++ [w])) ∧ Q w (sett mu a (.lst ws))
  | .popAt, .ref a, [.int i] => ∃ ws w, mu a = some (.lst ws) ∧ 0 ≤ i ∧ i < 2 ^ 62 ∧ ws[i.toNat]? = some w ∧ Q w (sett mu a (.lst (ws.eraseIdx i.toNat)))
  | .remove, .ref a, [.int k] => ∃ ns : List Int, mu a = some (.lst (ns.map W.int)) ∧ k ∈ ns ∧ Q .non (sett mu a (.lst ((ns.erase k).map W.int)))
  | .count, .tup ws, [.int k] => ∃ ns : List Int, intsOf ws = some ns ∧ Q (.int (ns.count k : Nat)) mu
  | .get2, d, [k, z] => ∃ t kvs dk, vw mu d = .dct t kvs ∧ dkOf k = some dk ∧ dkK dk = t ∧ Q ((dget kvs dk).getD z) mu
  | .popD, .ref a, [k, z] => ∃ t kvs dk, mu a = some (.dct t kvs) ∧ dkOf k = some dk ∧ dkK dk = t ∧
      (match dget kvs dk with | some w => Q w (sett mu a (.dct t (ddrop kvs dk))) | none => Q z mu)
  | _, _, _ => False
def setR (x y w : W) (mu : Mu) (Q : Mu → Prop) : Prop :=
  match x with
  | .ref a => match mu a with
    | some (.lst ws) => match y with
      | .int k => ∃ j, ixN ws.length k = some j ∧ Q (sett mu a (.lst (ws.set j w)))
      | _ => False
    | some (.dct t kvs) => ∃ d, dkOf y = some d ∧ dkK d = t ∧ kvs.length < sizeLine ∧ Q (sett mu a (.dct t (dput kvs d y w)))
    | none => False
  | _ => False
def wipeW (t : Tau) : List Nat → Tau
  | [] => t
  | v :: vs => (wipeW t vs).set v none

/-- what is wanted behind a statement -/
structure EndW where
  nx : Tau → Mu → Prop
  rt : W → Mu → Prop
  bk : Tau → Mu → Prop := fun _ _ => False
  ct : Tau → Mu → Prop := fun _ _ => False
/-- a comprehension's turns; its new list stands at p -/
def compW (bind : W → Tau → Mu → (Tau → Mu → Prop) → Prop) (cd : Tau → Mu → (Bool → Mu → Prop) → Prop) (el : Tau → Mu → QW → Prop) (ss : List Nat) (src : Src) (t : Tau) (p : Addr) (K : List W → Mu → Prop) : List W → List W → Mu → Prop
  | [], acc, mu => stays src mu ∧ mu p = some (.lst acc) ∧ K acc mu
  | w :: ws, acc, mu => stays src mu ∧ bind w (wipeW t ss) mu fun t2 mu2 => cd t2 mu2 fun b mu3 =>
      if b = true then el t2 mu3 fun y mu4 => mu4 p = some (.lst acc) ∧ acc.length < sizeLine ∧ compW bind cd el ss src t p K ws (acc ++ [y]) (sett mu4 p (.lst (acc ++ [y]))) else compW bind cd el ss src t p K ws acc mu3
/-- a for's turns -/
def forW (bind : W → Tau → Mu → (Tau → Mu → Prop) → Prop) (body : EndW → Tau → Mu → Prop) (src : Src) (P : EndW) : List W → Tau → Mu → Prop
  | [], t, mu => stays src mu ∧ P.nx t mu
  | w :: ws, t, mu => stays src mu ∧ bind w t mu fun t2 mu2 => body { nx := forW bind body src P ws, ct := forW bind body src P ws, bk := P.nx, rt := P.rt } t2 mu2
def getS (t : Tau) (i : Nat) (Q : W → Prop) : Prop := match t[i]? with
  | some (some w) => Q w
  | _ => False
def enuW : Nat → List W → List W
  | _, [] => []
  | k, w :: ws => .tup [.int k, w] :: enuW (k + 1) ws
def zipW : List W → List W → List W
  | a :: as, b :: bs => .tup [a, b] :: zipW as bs
  | _, _ => []

/-- x op= y -/
def augR (op : Operator) (x y : W) (Q : W → Prop) : Prop := match op, x, y with
  | .Add, .int i, .int j => Q (.int (i + j))
  | .Sub, .int i, .int j => Q (.int (i - j))
  | _, _, _ => False
/-- what the module's names stand for: its defs by what they promise, its constants -/
structure Fe where
  fn : Str → SpW
  cs : Str → Option W
section
variable (F : Fe)
mutual
def E.wp : E → Tau → Mu → QW → Prop
  | .var i, t, mu, Q => getS t i fun w => Q w mu
  | .con c, _, mu, Q => Q c.w mu
  | .glb x, _, mu, Q => optQ (F.cs x) fun w => Q w mu
  | .bin op a b, t, mu, Q => a.wp t mu fun x mu1 => b.wp t mu1 fun y mu2 => binR op x y mu2 Q
  | .neg a, t, mu, Q => a.wp t mu fun x mu1 => match x with | .int i => Q (.int (-i)) mu1 | _ => False
  | .inv a, t, mu, Q => a.wp t mu fun x mu1 => match x with | .int i => Q (.int (Builtin.bitNot i)) mu1 | _ => False
  | .cmp op a b, t, mu, Q => a.wp t mu fun x mu1 => b.wp t mu1 fun y mu2 => cmpR op x y mu2 Q
  | .chn o1 o2 a b c, t, mu, Q => a.wp t mu fun x mu1 => b.wp t mu1 fun y mu2 => cmpR o1 x y mu2 fun r mu3 =>
      ∃ k, r = .bl k ∧ if k = true then c.wp t mu3 fun z mu4 => cmpR o2 y z mu4 Q else Q (.bl false) mu3
  | .ifx c a b, t, mu, Q => c.wp t mu fun k mu1 => if k = true then a.wp t mu1 Q else b.wp t mu1 Q
  | .cnd c, t, mu, Q => c.wp t mu fun k mu1 => Q (.bl k) mu1
  | .tup es, t, mu, Q => es.wp t mu fun ws mu1 => ws.length ≤ sizeLine ∧ Q (.tup ws) mu1
  | .mk own es, t, mu, Q => es.wp t mu fun ws mu1 => newL own ws mu1 Q
  | .lof own e, t, mu, Q => e.wp t mu fun x mu1 => ∃ ws, itemsOf mu1 x = some ws ∧ newL own ws mu1 Q
  | .lrg own e, t, mu, Q => e.wp t mu fun x mu1 => ∃ j : Int, x = .int j ∧ (-1000000 ≤ j ∧ j ≤ 1000000) ∧ newL own (rngW 0 j.toNat) mu1 Q
  | .trg a b, t, mu, Q => a.wp t mu fun x mu1 => b.wp t mu1 fun y mu2 => trgR x y mu2 Q
  | .dnw own t, _, mu, Q => newD own t [] mu Q
  | .dc1 _ _ _, _, _, _ => False
  | .dcp own _ e, t, mu, Q => e.wp t mu fun x mu1 => dcpR own x mu1 Q
  | .cmp1 own ss tg it c el, t, mu, Q => it.wp t mu fun ws src mu1 => ∀ p, mu1 p = none →
      compW (fun w t mu K => tg.wp w t mu K) (fun t mu K => c.wp t mu K) (fun t mu K => el.wp t mu K) ss src t p (fun acc mu2 => if own = true then Q (.ref p) mu2 else Q (.lst acc) (dell mu2 p)) ws [] (sett mu1 p (.lst []))
  | .idx a b, t, mu, Q => a.wp t mu fun x mu1 => b.wp t mu1 fun y mu2 => idxR x y mu2 Q
  | .sl own a lo hi, t, mu, Q => a.wp t mu fun x mu1 => lo.wp t mu1 fun l mu2 => hi.wp t mu2 fun h mu3 => slR own x l h mu3 Q
  | .sst own a k, t, mu, Q => a.wp t mu fun x mu1 => sstR own x k mu1 Q
  | .cal f es, t, mu, Q => es.wp t mu fun ws mu1 => F.fn f ws mu1 Q
  | .bif b es, t, mu, Q => es.wp t mu fun ws mu1 => bifR b ws mu1 Q
  | .isi T e, t, mu, Q => e.wp t mu fun x mu1 => bifR (.isi T) [x] mu1 Q
  | .lns e, t, mu, Q => e.wp t mu fun x mu1 => bifR .lenset [x] mu1 Q
  | .mth m o es, t, mu, Q => o.wp t mu fun x mu1 => tyW (vw mu1 x) = some m.ty ∧ es.wp t mu1 fun ws mu2 => mthR m x ws mu2 Q
def EL.wp : EL → Tau → Mu → (List W → Mu → Prop) → Prop
  | .nil, _, mu, Q => Q [] mu
  | .cons e r, t, mu, Q => e.wp t mu fun w mu1 => r.wp t mu1 fun ws mu2 => Q (w :: ws) mu2
def EO.wp : EO → Tau → Mu → (Option Int → Mu → Prop) → Prop
  | .none, _, mu, Q => Q none mu
  | .some e, t, mu, Q => e.wp t mu fun w mu1 => match w with | .int i => Q (some i) mu1 | _ => False
def CO.wp : CO → Tau → Mu → (Bool → Mu → Prop) → Prop
  | .none, _, mu, Q => Q true mu
  | .some c, t, mu, Q => c.wp t mu Q
def C.wp : C → Tau → Mu → (Bool → Mu → Prop) → Prop
  | .val e, t, mu, Q => e.wp t mu fun w mu1 => match w with | .bl b => Q b mu1 | _ => False
  | .cmp op a b, t, mu, Q => a.wp t mu fun x mu1 => b.wp t mu1 fun y mu2 => cmpR op x y mu2 fun w mu3 => match w with | .bl b => Q b mu3 | _ => False
  | .chn o1 o2 a b c, t, mu, Q => a.wp t mu fun x mu1 => b.wp t mu1 fun y mu2 => cmpR o1 x y mu2 fun r mu3 =>
      ∃ k, r = .bl k ∧ if k = true then c.wp t mu3 fun z mu4 => cmpR o2 y z mu4 (fun w mu3 => match w with | .bl b => Q b mu3 | _ => False) else Q false mu3
  | .and a b, t, mu, Q => a.wp t mu fun k mu1 => if k = true then b.wp t mu1 Q else Q false mu1
  | .or a b, t, mu, Q => a.wp t mu fun k mu1 => if k = true then Q true mu1 else b.wp t mu1 Q
  | .not a, t, mu, Q => a.wp t mu fun k mu1 => Q (!k) mu1
def T.wp : T → W → Tau → Mu → (Tau → Mu → Prop) → Prop
  | .nam i, w, t, mu, Q => Q (t.set i (some w)) mu
  | .tup ts, w, t, mu, Q => match w with | .tup ws => ws.length = ts.len ∧ ts.wp ws t mu Q | _ => False
  | .sub o i, w, t, mu, Q => o.wp t mu fun x mu1 => i.wp t mu1 fun y mu2 => setR x y w mu2 fun mu3 => Q t mu3
def TL.wp : TL → List W → Tau → Mu → (Tau → Mu → Prop) → Prop
  | .nil, ws, t, mu, Q => match ws with | [] => Q t mu | _ :: _ => False
  | .cons a r, ws, t, mu, Q => match ws with | w :: ws => a.wp w t mu fun t1 mu1 => r.wp ws t1 mu1 Q | [] => False
def I.wp : I → Tau → Mu → (List W → Src → Mu → Prop) → Prop
  | .of e, t, mu, Q => e.wp t mu fun x mu1 => iterR x mu1 Q
  | .rg1 e, t, mu, Q => e.wp t mu fun x mu1 => ∃ j : Int, x = .int j ∧ (-(2 ^ 62) ≤ j ∧ j < 2 ^ 62) ∧ Q (rngW 0 j.toNat) .free mu1
  | .rg2 a b, t, mu, Q => a.wp t mu fun x mu1 => b.wp t mu1 fun y mu2 => ∃ i j : Int, x = .int i ∧ y = .int j ∧ (-(2 ^ 62) ≤ i ∧ i < 2 ^ 62 ∧ -(2 ^ 62) ≤ j ∧ j < 2 ^ 62) ∧ Q (rngW i (j - i).toNat) .free mu2
  | .enu e, t, mu, Q => e.wp t mu fun x mu1 => ∃ ws, itemsOf mu1 x = some ws ∧ Q (enuW 0 ws) (srcOf mu1 x) mu1
  | .zip a b, t, mu, Q => a.wp t mu fun x mu1 => b.wp t mu1 fun y mu2 => ∃ ws zs, itemsOf mu2 x = some ws ∧ itemsOf mu2 y = some zs ∧ srcOf mu2 x = .free ∧ srcOf mu2 y = .free ∧ Q (zipW ws zs) .free mu2
  | .rev e, t, mu, Q => e.wp t mu fun x mu1 => ∃ ws, itemsOf mu1 x = some ws ∧ Q ws.reverse (srcOf mu1 x) mu1
end
def parT : List Nat → List W → Tau → Option Tau
  | [], [], t => some t
  | i :: is, w :: ws, t => parT is ws (t.set i (some w))
  | _, _, _ => none
mutual
def S.wp : S → EndW → Tau → Mu → Prop
  | .asg tg e, P, t, mu => e.wp F t mu fun w mu1 => tg.wp F w t mu1 P.nx
  | .par is es, P, t, mu => es.wp F t mu fun ws mu1 => match parT is ws t with | some t1 => P.nx t1 mu1 | none => False
  | .aug i op e, P, t, mu => getS t i fun x => e.wp F t mu fun y mu1 => augR op x y fun w => P.nx (t.set i (some w)) mu1
  | .ex e, P, t, mu => e.wp F t mu fun _ mu1 => P.nx t mu1
  | .ret e, P, t, mu => e.wp F t mu P.rt
  | .iff c a b, P, t, mu => c.wp F t mu fun k mu1 => if k = true then a.wp P t mu1 else b.wp P t mu1
  | .for tg it b, P, t, mu => it.wp F t mu fun ws src mu1 => forW (fun w t mu K => tg.wp F w t mu K) (fun P t mu => b.wp P t mu) src P ws t mu1
  | .whl c b, P, t, mu => ∃ Z : Nat → Tau → Mu → Prop, (∃ m, Z m t mu) ∧ ∀ m t mu, Z m t mu → c.wp F t mu fun k mu1 =>
      if k = true then b.wp { nx := fun t' mu' => ∃ m', m' < m ∧ Z m' t' mu', ct := fun t' mu' => ∃ m', m' < m ∧ Z m' t' mu', bk := P.nx, rt := P.rt } t mu1 else P.nx t mu1
  | .brk, P, t, mu => P.bk t mu
  | .cnt, P, t, mu => P.ct t mu
  | .pas, P, t, mu => P.nx t mu
  | .nev, _, _, _ => False
def SL.wp : SL → EndW → Tau → Mu → Prop
  | .nev, _, _, _ => False
  | .nil, P, t, mu => P.nx t mu
  | .cons s r, P, t, mu => s.wp { P with nx := fun t1 mu1 => r.wp P t1 mu1 } t mu
end
end

/-! ### the kit's syntax -/
structure Gm where
  N : List Str
  sc : Scope
  fn : Str → Bool
  /-- the defs that have a promise -/
  fns : Str → Bool
  /-- repr of data is known here -/
  rp : Bool
def Gm.vis (g : Gm) (x : Str) : Bool := match g.sc.names.lookup x with
  | some .local => true
  | some .cell => true
  | some .free => true
  | _ => false
def Gm.loc (g : Gm) (x : Str) : Bool := match g.sc.names.lookup x with
  | some .local => true
  | some .cell => g.fn x
  | _ => false
def Gm.ll (g : Gm) (x : Str) : Bool := match g.sc.names.lookup x with
  | some .local => true
  | _ => false
def Gm.gl (g : Gm) (x : Str) : Bool := (match g.sc.names.lookup x with
  | some .globalImplicit => true
  | _ => false) && decide (x ≠ "__debug__") && decide (x ≠ "__name__")
/-- a name that holds a slot -/
def Gm.at (g : Gm) (i : Nat) (x : Str) : Bool := decide (g.N[i]? = some x)
def Gm.bn (g : Gm) (x y : Str) : Bool := decide (x = y) && g.gl x
def Bf.nm : Bf → Str
  | .len => "len"
  | .abs => "abs"
  | .max2 => "max"
  | .min2 => "min"
  | .int => "int"
  | .rpr => "repr"
  | .str => "str"
  | .sum => "sum"
  | .all => "all"
  | .any => "any"
  | .minL => "min"
  | .maxL => "max"
  | .sorted => "sorted"
  | .tuple => "tuple"
  | .lenset => "len"
  | .isi _ => "isinstance"
/-- called by its name alone -/
def Bf.plain (rp : Bool) : Bf → Bool
  | .isi _ => false
  | .lenset => false
  | .rpr => rp
  | .str => false
  | _ => true
def Mt.nm : Mt → Str
  | .append => "append"
  | .extend => "extend"
  | .pop => "pop"
  | .popAt => "pop"
  | .remove => "remove"
  | .count => "count"
  | .get2 => "get"
  | .popD => "pop"
def isT (T : String) : Bool := decide (T = "int") || decide (T = "bool") || decide (T = "tuple") || decide (T = "str") || decide (T = "list") || decide (T = "dict")
def matC : Cn → Const → Bool
  | .non, k => match k with | .none => true | _ => false
  | .bl b, k => match k with | .bool c => b == c | _ => false
  | .int i, k => match k with | .int j => i == j | _ => false
  | .str x, k => match k with | .str y => decide (x = y) | _ => false
/-- an expression that may stand ahead of a dot -/
def isObjE : Expr → Bool
  | .Name _ _ => true
  | .Subscript _ _ _ => true
  | .Attribute _ _ _ => true
  | _ => false
def ownOf (N : List Str) : List Nat → List (Str × Nat)
  | [] => []
  | i :: is => (N.getD i "", i) :: ownOf N is
def Gm.blk (g : Gm) (scope : Scope) : Gm := { g with sc := relS scope g.sc, fn := fun x => scope.names.lookup x == some .cell }
mutual
def E.mat : E → Gm → Expr → Bool
  | .var i, g, e => match e with | .Name x _ => g.at i x && g.vis x && decide (x ≠ "__debug__") && decide (x ≠ "__classdict__") | _ => false
  | .con c, _, e => match e with | .Constant k _ _ => matC c k | _ => false
  | .glb x, g, e => match e with | .Name y _ => g.bn y x | _ => false
  | .bin op a b, g, e => match e with | .BinOp l o r _ => decide (op = o) && a.mat g l && b.mat g r | _ => false
  | .neg a, g, e => match e with | .UnaryOp o r _ => decide (o = .USub) && a.mat g r | _ => false
  | .inv a, g, e => match e with | .UnaryOp o r _ => decide (o = .Invert) && a.mat g r | _ => false
  | .cmp op a b, g, e => match e with | .Compare l [o] [r] _ => decide (op = o) && a.mat g l && b.mat g r | _ => false
  | .chn o1 o2 a b c, g, e => match e with | .Compare l [p1, p2] [m, r] _ => decide (o1 = p1) && decide (o2 = p2) && a.mat g l && b.mat g m && c.mat g r | _ => false
  | .ifx c a b, g, e => match e with | .IfExp t x y _ => c.mat g t && a.mat g x && b.mat g y | _ => false
  | .cnd c, g, e => c.matV g e
  | .tup es, g, e => match e with | .Tuple xs _ _ => es.mat g xs | _ => false
  | .mk _ es, g, e => match e with | .List xs _ => es.mat g xs | _ => false
  | .lof _ a, g, e => match e with | .Call (.Name f _) [x] [] _ => g.bn f "list" && a.mat g x | _ => false
  | .lrg _ a, g, e => match e with | .Call (.Name f _) [.Call (.Name h _) [x] [] _] [] _ => g.bn f "list" && g.bn h "range" && a.mat g x | _ => false
  | .trg a b, g, e => match e with | .Call (.Name f _) [.Call (.Name h _) [x, y] [] _] [] _ => g.bn f "tuple" && g.bn h "range" && a.mat g x && b.mat g y | _ => false
  | .dnw _ _, _, e => match e with | .Dict [] [] _ => true | _ => false
  | .dc1 _ k v, g, e => match e with | .Dict [some x] [y] _ => k.mat g x && v.mat g y | _ => false
  | .dcp _ _ a, g, e => match e with | .Call (.Name f _) [x] [] _ => g.bn f "dict" && a.mat g x | _ => false
  | .cmp1 _ ss tg it c el, g, e => match e with
    | .ListComp elt [⟨t, i, ifs, z⟩] scope _ => decide (z = 0) && (tg.nms.all fun k => ss.contains k) && blkC g.N g.sc scope (ownOf g.N ss) && it.mat g t i && tg.mat (g.blk scope) t && c.mat (g.blk scope) ifs && el.mat (g.blk scope) elt
    | _ => false
  | .idx a b, g, e => match e with | .Subscript x y _ => a.mat g x && b.mat g y | _ => false
  | .sl _ a lo hi, g, e => match e with | .Subscript x (.Slice l h none _) _ => a.mat g x && lo.mat g l && hi.mat g h | _ => false
  | .sst _ a k, g, e => match e with
    | .Subscript x (.Slice none none (some (.UnaryOp .USub (.Constant (.int j) _ _) _)) _) _ => decide (k = -1) && decide (j = 1) && a.mat g x
    | .Subscript x (.Slice none none (some (.Constant (.int j) _ _)) _) _ => decide (k = j) && a.mat g x
    | _ => false
  | .cal f es, g, e => match e with | .Call (.Name x _) (y :: ys) [] _ => g.bn x f && g.fns f && es.mat g (y :: ys) | _ => false
  | .bif b es, g, e => match e with | .Call (.Name f _) (y :: ys) [] _ => b.plain g.rp && g.bn f b.nm && es.mat g (y :: ys) | _ => false
  | .isi T a, g, e => match e with | .Call (.Name f _) [x, .Name y _] [] _ => g.bn f "isinstance" && g.bn y (Str.ofString T) && isT T && a.mat g x | _ => false
  | .lns a, g, e => match e with | .Call (.Name f _) [.Call (.Name h _) [x] [] _] [] _ => g.bn f "len" && g.bn h "set" && a.mat g x | _ => false
  | .mth m o es, g, e => match e with | .Call (.Attribute x a p) ys [] q => decide (ys.length < 25) && isObjE x && decide (a = m.nm) && (p.endLine == q.line) && o.mat g x && es.mat g ys | _ => false
def EL.mat : EL → Gm → List Expr → Bool
  | .nil, _, es => match es with | [] => true | _ => false
  | .cons e r, g, es => match es with | x :: xs => e.mat g x && r.mat g xs | [] => false
def EO.mat : EO → Gm → Option Expr → Bool
  | .none, _, o => match o with | none => true | _ => false
  | .some e, g, o => match o with | some x => e.mat g x | none => false
def CO.mat : CO → Gm → List Expr → Bool
  | .none, _, o => match o with | [] => true | _ => false
  | .some c, g, o => match o with | [x] => c.mat g x | _ => false
/-- as a test -/
def C.mat : C → Gm → Expr → Bool
  | .val a, g, e => (match e with | .BoolOp _ _ _ => false | .UnaryOp .Not _ _ => false | .IfExp _ _ _ _ => false | .Compare _ _ _ _ => false | _ => true) && a.mat g e
  | .cmp op a b, g, e => match e with | .Compare l [o] [r] _ => decide (op = o) && a.mat g l && b.mat g r | _ => false
  | .chn o1 o2 a b c, g, e => match e with | .Compare l [p1, p2] [m, r] _ => decide (o1 = p1) && decide (o2 = p2) && a.mat g l && b.mat g m && c.mat g r | _ => false
  | .and a b, g, e => match e with | .BoolOp .And (x :: y :: r) _ => a.mat g x && b.matA g (y :: r) | _ => false
  | .or a b, g, e => match e with | .BoolOp .Or (x :: y :: r) _ => a.mat g x && b.matO g (y :: r) | _ => false
  | .not a, g, e => match e with | .UnaryOp .Not x _ => a.mat g x | _ => false
/-- the rest of a row of ands -/
def C.matA : C → Gm → List Expr → Bool
  | .and a b, g, es => match es with | x :: y :: r => a.mat g x && b.matA g (y :: r) | [x] => (match x with | .BoolOp .And (u :: v :: r) _ => a.mat g u && b.matA g (v :: r) | _ => false) | [] => false
  | .val a, g, es => match es with | [x] => (match x with | .BoolOp _ _ _ => false | .UnaryOp .Not _ _ => false | .IfExp _ _ _ _ => false | .Compare _ _ _ _ => false | _ => true) && a.mat g x | _ => false
  | .cmp op a b, g, es => match es with | [.Compare l [o] [r] _] => decide (op = o) && a.mat g l && b.mat g r | _ => false
  | .chn o1 o2 a b c, g, es => match es with | [.Compare l [p1, p2] [m, r] _] => decide (o1 = p1) && decide (o2 = p2) && a.mat g l && b.mat g m && c.mat g r | _ => false
  | .or a b, g, es => match es with | [.BoolOp .Or (x :: y :: r) _] => a.mat g x && b.matO g (y :: r) | _ => false
  | .not a, g, es => match es with | [.UnaryOp .Not x _] => a.mat g x | _ => false
/-- the rest of a row of ors -/
def C.matO : C → Gm → List Expr → Bool
  | .or a b, g, es => match es with | x :: y :: r => a.mat g x && b.matO g (y :: r) | [x] => (match x with | .BoolOp .Or (u :: v :: r) _ => a.mat g u && b.matO g (v :: r) | _ => false) | [] => false
  | .val a, g, es => match es with | [x] => (match x with | .BoolOp _ _ _ => false | .UnaryOp .Not _ _ => false | .IfExp _ _ _ _ => false | .Compare _ _ _ _ => false | _ => true) && a.mat g x | _ => false
  | .cmp op a b, g, es => match es with | [.Compare l [o] [r] _] => decide (op = o) && a.mat g l && b.mat g r | _ => false
  | .chn o1 o2 a b c, g, es => match es with | [.Compare l [p1, p2] [m, r] _] => decide (o1 = p1) && decide (o2 = p2) && a.mat g l && b.mat g m && c.mat g r | _ => false
  | .and a b, g, es => match es with | [.BoolOp .And (x :: y :: r) _] => a.mat g x && b.matA g (y :: r) | _ => false
  | .not a, g, es => match es with | [.UnaryOp .Not x _] => a.mat g x | _ => false
/-- as a value that is a truth -/
def C.matV : C → Gm → Expr → Bool
  | .val a, g, e => a.mat g e
  | .cmp _ _ _, _, _ => false
  | .chn _ _ _ _ _, _, _ => false
  | .and a b, g, e => match e with
    | .BoolOp .And [x, y] _ => a.matV g x && b.matV g y
    | _ => false
  | .or a b, g, e => match e with
    | .BoolOp .Or [x, y] _ => a.matV g x && b.matV g y
    | _ => false
  | .not a, g, e => match e with | .UnaryOp .Not x _ => a.matV g x | _ => false
def T.mat : T → Gm → Expr → Bool
  | .nam i, g, e => match e with | .Name x _ => g.at i x && g.loc x | _ => false
  | .tup ts, g, e => match e with | .Tuple xs _ _ => ts.mat g xs | _ => false
  | .sub o i, g, e => match e with | .Subscript x y _ => o.mat g x && i.mat g y | _ => false
def TL.mat : TL → Gm → List Expr → Bool
  | .nil, _, es => match es with | [] => true | _ => false
  | .cons e r, g, es => match es with | x :: xs => e.mat g x && r.mat g xs | [] => false
def I.mat : I → Gm → Expr → Expr → Bool
  | .of a, g, _, e => a.mat g e
  | .rg1 a, g, _, e => match e with | .Call (.Name f _) [x] [] _ => g.bn f "range" && a.mat g x | _ => false
  | .rg2 a b, g, _, e => match e with | .Call (.Name f _) [x, y] [] _ => g.bn f "range" && a.mat g x && b.mat g y | _ => false
  | .enu a, g, t, e => match e with | .Call (.Name f _) [x] [] _ => (match t with | .Tuple [_, _] _ _ => true | _ => false) && g.bn f "enumerate" && a.mat g x | _ => false
  | .zip _ _, _, _, _ => false
  | .rev _, _, _, _ => false
end
/-- the names of a parallel assignment, where the stores are swapped; none: it can't be told -/
def swS (ll : Str → Bool) (ts vs : List Expr) : Option (Option (List Str)) :=
  if (!(ts.length == 2 || ts.length == 3) || vs.length != ts.length) = true then some none else
  let line := (ts.head?.map (·.pos.line)).getD 0
  let names := ts.filterMap fun
    | .Name id pos => if (ll id && pos.line == line) = true then some id else none
    | _ => none
  if (names.length != ts.length || names.eraseDups.length != names.length) = true then some none else
  if vs.all (foldedForSure 8) = true then some none else
  if vs.all (constantsAlone 8) = true then none else some (some names)
def noPar (ll : Str → Bool) (t v : Expr) : Bool := match t, v with
  | .Tuple ts _ _, .Tuple vs _ _ => (match swS ll ts vs with | some none => true | _ => false)
  | .List _ _, _ => false
  | _, _ => true
def parM (g : Gm) : List Nat → List Expr → Bool
  | [], es => match es with | [] => true | _ => false
  | i :: is, es => match es with | .Name x _ :: r => g.at i x && g.ll x && parM g is r | _ => false
def E.isLcE : E → Bool
  | .cmp1 _ _ _ _ _ _ => true
  | _ => false
def isLc : Expr → Bool
  | .ListComp _ _ _ _ => true
  | _ => false
mutual
def S.mat : S → Gm → Stmt → Bool
  | .asg tg e, g, s => match s with | .Assign [t] v _ => tg.mat g t && e.mat g v && noPar g.ll t v && (!isLc v || e.isLcE) | _ => false
  | .par is es, g, s => match s with | .Assign [.Tuple ts _ _] (.Tuple vs _ _) _ => decide is.Nodup && parM g is ts && es.mat g vs && (match swS g.ll ts vs with | some (some _) => true | _ => false) | _ => false
  | .aug i op e, g, s => match s with | .AugAssign (.Name x _) o v _ => decide (o = op) && (match op with | .Add => true | .Sub => true | _ => false) && g.at i x && g.ll x && e.mat g v | _ => false
  | .ex e, g, s => match s with | .Expr v _ => e.mat g v && !isLc v | _ => false
  | .ret e, g, s => match s with | .Return (some v) _ => e.mat g v | _ => false
  | .iff c a b, g, s => match s with | .If t x y _ => c.mat g t && a.mat g x && b.mat g y | _ => false
  | .for tg it b, g, s => match s with | .For t i x [] _ => tg.mat g t && it.mat g t i && b.mat g x | _ => false
  | .whl c b, g, s => match s with | .While t x [] _ => c.mat g t && b.mat g x | _ => false
  | .brk, _, s => match s with | .Break _ => true | _ => false
  | .cnt, _, s => match s with | .Continue _ => true | _ => false
  | .pas, _, s => match s with | .Pass _ => true | _ => false
  | .nev, _, _ => true
def SL.mat : SL → Gm → List Stmt → Bool
  | .nil, _, ss => match ss with | [] => true | _ => false
  | .nev, _, _ => true
  | .cons s r, g, ss => match ss with | x :: xs => s.mat g x && r.mat g xs | [] => false
end
end FF

/-! Operations of values: what wp says is what the kit's rules ask. -/
namespace FF
open PySem PySem.Spec PyProof.Rows L2

abbrev _root_.L2.Cx.kx (X : Cx) : Kx := ⟨X.prog, X.w, X.K⟩
section
variable {K : Kx} {H H' : Hp} {mu mu' : Mu}
/-- what is wanted of a value and the heap behind, from what is wanted of trees -/
def Fin (K : Kx) (H : Hp) (mu : Mu) (P : QW) (Q : VK) : Prop := ∀ w mu' v H', P w mu' → Rp K H' mu' w v → MRel K H' mu' → Frm H mu H' mu' → Q v H'
def up (K : Kx) (t : Tau → Mu → QW → Prop) : TE := fun s H Q => ∃ ta mu P, SR K s ta H mu ∧ t ta mu P ∧ Fin K H mu P Q
def up2 (K : Kx) (r : W → W → Mu → QW → Prop) : R2 := fun x y H Q => ∃ a b mu P, Rp K H mu a x ∧ Rp K H mu b y ∧ MRel K H mu ∧ r a b mu P ∧ Fin K H mu P Q
def upN (K : Kx) (r : List W → Mu → QW → Prop) : List V → Hp → VK → Prop := fun vs H Q => ∃ ws mu P, Rps K H mu ws vs ∧ MRel K H mu ∧ r ws mu P ∧ Fin K H mu P Q
def upA (K : Kx) (t : Tau → Mu → (List W → Mu → Prop) → Prop) : TA := fun s H Q => ∃ ta mu P, SR K s ta H mu ∧ t ta mu P ∧ ∀ ws mu' vs H', P ws mu' → Rps K H' mu' ws vs → MRel K H' mu' → Frm H mu H' mu' → Q vs H'
def upT (K : Kx) (t : Tau → Mu → (Bool → Mu → Prop) → Prop) : TT := fun s H Q => ∃ ta mu P, SR K s ta H mu ∧ t ta mu P ∧ ∀ b mu' H', P b mu' → MRel K H' mu' → Frm H mu H' mu' → Q b H'

theorem Fin.same {P : QW} {Q : VK} {w : W} {v : V} (k : Fin K H mu P Q) (m : MRel K H mu) (h : P w mu) (r : Rp K H mu w v) : Q v H := k w mu v H h r m (Frm.refl _ _)
theorem Fin.tup {P : QW} {Q : VK} {ws : List W} {vs : List V} {p : Addr} {o : Obj} (k : Fin K H mu P Q) (m : MRel K H mu) (hp : H p = none) (d : o.dict = none) (h : P (.tup ws) mu) (r : Rps K H mu ws vs) : Q (.ref p) (upd H p (.frz o (.tup vs))) :=
  k _ _ _ _ h (.tup ⟨o, d, upd_same⟩ (r.frm m (Frm.fresh hp))) (m.fresh hp) (Frm.fresh hp)
theorem Fin.lst {P : QW} {Q : VK} {ws : List W} {vs : List V} {p : Addr} (k : Fin K H mu P Q) (m : MRel K H mu) (hp : H p = none) (h : P (.lst ws) mu) (r : Rps K H mu ws vs) : Q (.ref p) (upd H p (.lst vs)) :=
  k _ _ _ _ h (.lst upd_same (m.none_of hp) (r.frm m (Frm.fresh hp))) (m.fresh hp) (Frm.fresh hp)
/-- a new list, ours or not -/
theorem Fin.nL {own : Bool} {P : QW} {Q : VK} {ws : List W} {vs : List V} {p : Addr} (k : Fin K H mu P Q) (m : MRel K H mu) (hp : H p = none) (h : newL own ws mu P) (r : Rps K H mu ws vs) : Q (.ref p) (upd H p (.lst vs)) := by
  obtain ⟨_, h⟩ := h
  cases own with
  | false => exact k.lst m hp h r
  | true =>
    have h := h p (m.none_of hp)
    have f : Frm H mu (upd H p (.lst vs)) (sett mu p (.lst ws)) := Frm.freshO hp
    have r' := r.frm m f
    exact k _ _ _ _ h (.ref p) (m.freshO hp ⟨vs, upd_same, r'⟩) f
theorem Fin.nD {own : Bool} {P : QW} {Q : VK} {kvs : List (W × W)} {ks : List (Key × V)} {p : Addr} (k : Fin K H mu P Q) (m : MRel K H mu) (hp : H p = none) (h : newD own false kvs mu P) (r : RKs K H mu kvs ks) : Q (.ref p) (upd H p (.dK ks)) := by
  cases own with
  | false => exact k _ _ _ _ h (.dK (.inl upd_same) (m.none_of hp) (r.frm m (Frm.fresh hp))) (m.fresh hp) (Frm.fresh hp)
  | true =>
    have h := h p (m.none_of hp)
    have f : Frm H mu (upd H p (.dK ks)) (sett mu p (.dct false kvs)) := Frm.freshO hp
    exact k _ _ _ _ h (.ref p) (m.freshO hp ⟨ks, upd_same, r.frm m f⟩) f
theorem Fin.nT {own : Bool} {P : QW} {Q : VK} {kvs : List (W × W)} {ks : List (List Key × Addr × V)} {p : Addr} (k : Fin K H mu P Q) (m : MRel K H mu) (hp : H p = none) (h : newD own true kvs mu P) (r : RTs K H mu kvs ks) : Q (.ref p) (upd H p (dTO K p ks)) := by
  cases own with
  | false => exact k _ _ _ _ h (.dT (.inl upd_same) (m.none_of hp) (r.frm m (Frm.fresh hp))) (m.fresh hp) (Frm.fresh hp)
  | true =>
    have h := h p (m.none_of hp)
    have f : Frm H mu (upd H p (dTO K p ks)) (sett mu p (.dct true kvs)) := Frm.freshO hp
    exact k _ _ _ _ h (.ref p) (m.freshO hp ⟨ks, upd_same, r.frm m f⟩) f

/-- a value as it looks now -/
inductive Vw (K : Kx) (H : Hp) (mu : Mu) : W → V → Prop
  | flat {w : W} {v : V} (r : Rp K H mu w v) (n : ∀ a, w ≠ .ref a) : Vw K H mu w v
  | lst {ws : List W} {a : Addr} {vs : List V} (h : H a = some (.lst vs)) (r : Rps K H mu ws vs) : Vw K H mu (.lst ws) (.ref a)
  | dK {kvs : List (W × W)} {a : Addr} {ks : List (Key × V)} (h : Rd H a (.dK ks)) (r : RKs K H mu kvs ks) : Vw K H mu (.dct false kvs) (.ref a)
  | dT {kvs : List (W × W)} {a : Addr} {ks : List (List Key × Addr × V)} (h : Rd H a (dTO K a ks)) (r : RTs K H mu kvs ks) : Vw K H mu (.dct true kvs) (.ref a)
  | ref (a : Addr) : Vw K H mu (.ref a) (.ref a)
theorem vw_ok (m : MRel K H mu) {w : W} {v : V} (r : Rp K H mu w v) : Vw K H mu (vw mu w) v := by
  cases r with
  | ref a =>
    cases e : mu a with
    | none =>
      have z : vw mu (.ref a) = .ref a := by unfold vw; simp only [e]
      rw [z]; exact .ref a
    | some o =>
      have q := m a o e
      cases o with
      | lst ws =>
        have z : vw mu (.ref a) = .lst ws := by unfold vw; simp only [e]
        rw [z]
        obtain ⟨vs, e1, r⟩ := q; exact .lst e1 r
      | dct t kvs =>
        have z : vw mu (.ref a) = .dct t kvs := by unfold vw; simp only [e]
        rw [z]
        cases t <;> obtain ⟨ks, e1, r⟩ := q
        · exact .dK (.inl e1) r
        · exact .dT (.inl e1) r
  | non => exact .flat .non (fun _ z => nomatch z)
  | bl b => exact .flat (.bl b) (fun _ z => nomatch z)
  | int i => exact .flat (.int i) (fun _ z => nomatch z)
  | str x => exact .flat (.str x) (fun _ z => nomatch z)
  | tup h r => exact .flat (.tup h r) (fun _ z => nomatch z)
  | lst h n r => exact .flat (.lst h n r) (fun _ z => nomatch z)
  | dK h n r => exact .flat (.dK h n r) (fun _ z => nomatch z)
  | dT h n r => exact .flat (.dT h n r) (fun _ z => nomatch z)
  | scr h => exact .flat (.scr h) (fun _ z => nomatch z)
theorem Vw.tupE {ws : List W} {v : V} (h : Vw K H mu (.tup ws) v) : ∃ a vs, v = .ref a ∧ TX H a vs ∧ Rps K H mu ws vs := by
  cases h with
  | flat r n => cases r with | tup h r => exact ⟨_, _, rfl, h, r⟩
theorem Vw.lstE {ws : List W} {v : V} (h : Vw K H mu (.lst ws) v) : ∃ a vs, v = .ref a ∧ H a = some (.lst vs) ∧ Rps K H mu ws vs := by
  cases h with
  | flat r n => cases r with | lst h _ r => exact ⟨_, _, rfl, h, r⟩
  | lst h r => exact ⟨_, _, rfl, h, r⟩
theorem Vw.dKE {kvs : List (W × W)} {v : V} (h : Vw K H mu (.dct false kvs) v) : ∃ a ks, v = .ref a ∧ Rd H a (.dK ks) ∧ RKs K H mu kvs ks := by
  cases h with
  | flat r n => cases r with | dK h _ r => exact ⟨_, _, rfl, h, r⟩
  | dK h r => exact ⟨_, _, rfl, h, r⟩
theorem Vw.dTE {kvs : List (W × W)} {v : V} (h : Vw K H mu (.dct true kvs) v) : ∃ a ks, v = .ref a ∧ Rd H a (dTO K a ks) ∧ RTs K H mu kvs ks := by
  cases h with
  | flat r n => cases r with | dT h _ r => exact ⟨_, _, rfl, h, r⟩
  | dT h r => exact ⟨_, _, rfl, h, r⟩
theorem Vw.scrE {ns : List Int} {v : V} (h : Vw K H mu (.scr ns) v) : ∃ a, v = .ref a ∧ SqL K.K H a (ns.map V.int) := by
  cases h with
  | flat r n =>
    cases r with
    | scr h =>
      refine ⟨_, rfl, ?_⟩
      rcases h with ⟨_, h⟩ | h
      · exact .inl h
      · exact .inr h

/-! ### plain data -/
theorem toD_tup {ws : List W} {d : PyData} (h : toD (.tup ws) = some d) : ∃ ds, toDs ws = some ds ∧ d = .tuple ds := by
  unfold toD at h
  obtain ⟨ds, h1, h2⟩ := Option.map_eq_some_iff.mp h
  exact ⟨ds, h1, h2.symm⟩
theorem toD_lst {ws : List W} {d : PyData} (h : toD (.lst ws) = some d) : ∃ ds, toDs ws = some ds ∧ d = .list ds := by
  unfold toD at h
  obtain ⟨ds, h1, h2⟩ := Option.map_eq_some_iff.mp h
  exact ⟨ds, h1, h2.symm⟩
theorem toDs_cons {w : W} {ws : List W} {ds : List PyData} (h : toDs (w :: ws) = some ds) : ∃ d r, toD w = some d ∧ toDs ws = some r ∧ ds = d :: r := by
  unfold toDs at h
  split at h
  · rename_i d r h1 h2
    exact ⟨d, r, h1, h2, (Option.some.inj h).symm⟩
  · cases h
mutual
theorem Rp.dp : ∀ {w : W} {v : V} {d : PyData}, Rp K H mu w v → toD w = some d → Dp K.K H v d
  | _, _, _, .non, h => by unfold toD at h; cases h; exact .non
  | _, _, _, .bl b, h => by unfold toD at h; cases h; exact .bl b
  | _, _, _, .int b, h => by unfold toD at h; cases h; exact .int b
  | _, _, _, .str b, h => by unfold toD at h; cases h; exact .str b
  | _, _, _, .tup h r, e => by obtain ⟨ds, e1, rfl⟩ := toD_tup e; exact .tup h.sq (Rps.dp r e1)
  | _, _, _, .lst h _ r, e => by obtain ⟨ds, e1, rfl⟩ := toD_lst e; exact .lst (SqL.of h) (Rps.dp r e1)
  | _, _, _, .dK _ _ _, e => by unfold toD at e; cases e
  | _, _, _, .dT _ _ _, e => by unfold toD at e; cases e
  | _, _, _, .scr _, e => by unfold toD at e; cases e
  | _, _, _, .ref _, e => by unfold toD at e; cases e
theorem Rps.dp : ∀ {w : List W} {v : List V} {d : List PyData}, Rps K H mu w v → toDs w = some d → DpAll K.K H v d
  | _, _, _, .nil, h => by unfold toDs at h; cases h; exact .nil
  | _, _, _, .cons r t, h => by obtain ⟨d, ds, e1, e2, rfl⟩ := toDs_cons h; exact .cons (Rp.dp r e1) (Rps.dp t e2)
end
theorem Vw.dp {w : W} {v : V} {d : PyData} (h : Vw K H mu w v) (e : toD w = some d) : Dp K.K H v d := by
  cases h with
  | flat r _ => exact r.dp e
  | lst h r => obtain ⟨ds, e1, rfl⟩ := toD_lst e; exact .lst (SqL.of h) (r.dp e1)
  | dK _ _ => unfold toD at e; cases e
  | dT _ _ => unfold toD at e; cases e
  | ref _ => unfold toD at e; cases e
end

section
variable {X : Cx}
/-- a new tuple, its object known -/
theorem ep_tup {pins : List (Addr × Obj)} {st : L2.St} {H : Hp} {s : Shared} {h' : Heap} {tk : Nat} {vs : List V} {us : List Value} {Q : VK} (I : Inv X pins st H s) (kp : ∀ b u, s.heap.get? b = some u → h'.get? b = some u) (r : Vals vs us) (z : vs.length ≤ sizeLine)
    (q : ∀ p o, H p = none → o.dict = none → Q (.ref p) (upd H p (.frz o (.tup vs)))) : EP X pins st Q (.ref h'.objs.size) { s with heap := h'.push { cls := .type "tuple", data := .seq us.toArray }, toks := tk } := by
  have e : (h'.push { cls := .type "tuple", data := .seq us.toArray }).get? h'.objs.size = some { cls := .type "tuple", data := .seq us.toArray } := Heap.get?_push_size _ rfl
  have I1 : Inv X pins st H { s with heap := h', toks := tk } := I.kept kp
  refine ⟨.ref h'.objs.size, _, I1.laid (t' := tk) (a := h'.objs.size) (o := .frz { cls := .type "tuple", data := .seq us.toArray } (.tup vs)) (fun b u h => Heap.get?_push_of_some _ h) (Nat.le_refl _) ⟨e, z, us, r, ⟨_, e, rfl, _, rfl⟩⟩, rfl, q _ _ (I1.hok.fresh (Nat.le_refl _)) rfl⟩
theorem catX {pins : List (Addr × Obj)} {st : L2.St} {H : Hp} {s : Shared} {a b : Addr} {v u : Value} {xs ys : List V} {Q : VK} (I : Inv X pins st H s) (rx : RelV (.ref a) v) (ry : RelV (.ref b) u) (ha : SqT X.K H a xs) (hb : SqT X.K H b ys) (hz : xs.length + ys.length ≤ sizeLine)
    (q0 : xs = [] → Q (.ref b) H) (q1 : xs ≠ [] → ys = [] → Q (.ref a) H) (q2 : xs ≠ [] → ys ≠ [] → ∀ p o, H p = none → o.dict = none → Q (.ref p) (upd H p (.frz o (.tup (xs ++ ys))))) :
    wpAny (model X.prog X.w) X.A (binaryOp .Add v u) (EP X pins st Q) X.xe s := by
  cases rx; cases ry
  obtain ⟨its, r1, p1, _⟩ := I.tuple ha
  obtain ⟨its2, r2, p2, _⟩ := I.tuple hb
  by_cases hx : xs = []
  · subst hx
    cases r1
    exact cat_tup0 p1 p2 ⟨.ref b, H, I, rfl, q0 rfl⟩
  · refine HT.cat_tup p1 p2 (fun z => hx (r1.nil_iff.mp z)) (fun z => ⟨.ref a, H, I, rfl, q1 hx (r2.nil_iff.mp z)⟩) (fun z => ?_) (by rw [← r1.length, ← r2.length]; exact hz)
    exact ep_tup (tk := s.toks) I (fun _ _ h => h) (r1.append r2) (by rw [List.length_append]; exact hz) (q2 hx fun e => z (r2.nil_iff.mpr e))
theorem bin_ok (op : Operator) : OpR X (binaryOp op) (up2 X.kx (binR op)) := by
  intro pins s st H x y v u Q I rx ry h
  obtain ⟨a, b, mu, P, ra, rb, m, hb, k⟩ := h
  unfold binR at hb
  split at hb
  · cases ra; cases rb
    exact op_add pins s st H _ _ v u Q I rx ry ⟨_, _, rfl, rfl, k.same m hb (.int _)⟩
  · cases ra; cases rb
    exact op_add_str pins s st H _ _ v u Q I rx ry ⟨_, _, rfl, rfl, hb.1, k.same m hb.2 (.str _)⟩
  · rename_i xs ys
    obtain ⟨hz, hb⟩ := hb
    cases ra with
    | tup h1 r1 => cases rb with
      | tup h2 r2 =>
        exact catX I rx ry h1.sq h2.sq (by rw [← r1.length, ← r2.length]; exact hz) (fun e => by
          subst e; cases r1; exact k.same m hb (.tup h2 r2)) (fun e1 e2 => by
          subst e2; cases r2; rw [List.append_nil] at hb; exact k.same m hb (.tup h1 r1)) fun _ _ p o hp hd => k.tup m hp hd hb (r1.append r2)
  · rename_i xs ys
    obtain ⟨hz, hb⟩ := hb
    cases ra with
    | lst h1 _ r1 => cases rb with
      | lst h2 _ r2 =>
        exact op_cat pins s st H _ _ v u Q I rx ry ⟨_, _, _, _, rfl, rfl, h1, h2, by rw [← r1.length, ← r2.length]; exact hz, fun p hp => k.lst m hp hb (r1.append r2)⟩
  · cases ra; cases rb
    exact op_sub pins s st H _ _ v u Q I rx ry ⟨_, _, rfl, rfl, k.same m hb (.int _)⟩
  · cases ra; cases rb
    obtain ⟨t, rfl⟩ := rx
    obtain ⟨t', rfl⟩ := ry
    exact PyProof.Rows.mul_int ⟨.int _, H, I.tok _, ⟨_, rfl⟩, k.same m hb.2 (.int _)⟩ hb.1
  · cases ra; cases rb
    exact op_fdivN pins s st H _ _ v u Q I rx ry ⟨_, _, rfl, rfl, hb.1, k.same m hb.2 (.int _)⟩
  · cases ra; cases rb
    exact op_modN pins s st H _ _ v u Q I rx ry ⟨_, _, rfl, rfl, hb.1, k.same m hb.2 (.int _)⟩
  · cases ra; cases rb
    exact op_pow pins s st H _ _ v u Q I rx ry ⟨_, _, rfl, rfl, hb.1, k.same m hb.2 (.int _)⟩
  · cases ra; cases rb
    exact op_shl pins s st H _ _ v u Q I rx ry ⟨_, _, rfl, rfl, hb.1, k.same m hb.2 (.int _)⟩
  · cases ra; cases rb
    exact op_shr pins s st H _ _ v u Q I rx ry ⟨_, _, rfl, rfl, hb.1, k.same m hb.2 (.int _)⟩
  · cases ra; cases rb
    exact op_and pins s st H _ _ v u Q I rx ry ⟨_, _, rfl, rfl, k.same m hb (.int _)⟩
  · cases ra; cases rb
    exact op_or pins s st H _ _ v u Q I rx ry ⟨_, _, rfl, rfl, k.same m hb (.int _)⟩
  · cases ra; cases rb
    exact op_xor pins s st H _ _ v u Q I rx ry ⟨_, _, rfl, rfl, k.same m hb (.int _)⟩
  · exact hb.elim

/-! ### == -/
theorem eq_ok (hu : X.A.units + 64 < cLine) {pins : List (Addr × Obj)} {s : Shared} {st : L2.St} {H : Hp} {mu : Mu} {x y : V} {v u : Value} {a b : W} {R : Bool → Prop} {Q : VK} (I : Inv X pins st H s) (rx : RelV x v) (ry : RelV y u) (ra : Vw X.kx H mu a x) (rb : Vw X.kx H mu b y)
    (h : eqR a b R) (k : ∀ c, R c → Q (.bl c) H) : wpAny (model X.prog X.w) X.A (compareOp .Eq v u) (EP X pins st Q) X.xe s := by
  have go : ∀ {x y : V} {c : Bool}, RelV x v → RelV y u → scal x y = true → R c → c = decide (x = y) → wpAny (model X.prog X.w) X.A (compareOp .Eq v u) (EP X pins st Q) X.xe s := fun {x y c} r1 r2 sc hr e =>
    op_eq pins s st H x y v u Q I r1 r2 ⟨sc, by rw [← e]; exact k _ hr⟩
  unfold eqR at h
  split at h
  · cases ra with | flat r _ => cases r; cases rb with | flat r _ => cases r; exact go rx ry rfl h (by simp)
  · cases ra with | flat r _ => cases r; cases rb with | flat r _ => cases r; exact go rx ry rfl h (by simp)
  · cases ra with | flat r _ => cases r; cases rb with | flat r _ => cases r; exact go rx ry rfl h (by simp)
  · cases ra with | flat r _ => cases r; cases rb with | flat r _ => cases r; exact go rx ry rfl h (by simp)
  · cases ra with | flat r _ => cases r; cases rb with | flat r _ => cases r; exact go rx ry rfl h (by simp)
  · cases ra with | flat r _ => cases r; cases rb with | flat r _ => cases r; exact go rx ry rfl h (by simp)
  · cases ra with | flat r _ => cases r; cases rb with | flat r _ => cases r; exact go rx ry rfl h (by simp)
  · cases ra with | flat r _ => cases r; cases rb with | flat r _ => cases r; exact go rx ry rfl h (by simp)
  · obtain ⟨d, e, h1, h2, s1, s2, hr⟩ := h
    exact op_eqD hu pins s st H x y v u Q I rx ry ⟨d, e, ra.dp h1, rb.dp h2, s1, s2, k _ hr⟩
theorem ne_ok (hu : X.A.units + 64 < cLine) {pins : List (Addr × Obj)} {s : Shared} {st : L2.St} {H : Hp} {mu : Mu} {x y : V} {v u : Value} {a b : W} {R : Bool → Prop} {Q : VK} (I : Inv X pins st H s) (rx : RelV x v) (ry : RelV y u) (ra : Vw X.kx H mu a x) (rb : Vw X.kx H mu b y)
    (h : eqR a b R) (k : ∀ c, R c → Q (.bl (!c)) H) : wpAny (model X.prog X.w) X.A (compareOp .NotEq v u) (EP X pins st Q) X.xe s := by
  have go : ∀ {x y : V} {c : Bool}, RelV x v → RelV y u → scal x y = true → R c → c = decide (x = y) → wpAny (model X.prog X.w) X.A (compareOp .NotEq v u) (EP X pins st Q) X.xe s := fun {x y c} r1 r2 sc hr e =>
    op_ne pins s st H x y v u Q I r1 r2 ⟨sc, by rw [← e]; exact k _ hr⟩
  unfold eqR at h
  split at h
  · cases ra with | flat r _ => cases r; cases rb with | flat r _ => cases r; exact go rx ry rfl h (by simp)
  · cases ra with | flat r _ => cases r; cases rb with | flat r _ => cases r; exact go rx ry rfl h (by simp)
  · cases ra with | flat r _ => cases r; cases rb with | flat r _ => cases r; exact go rx ry rfl h (by simp)
  · cases ra with | flat r _ => cases r; cases rb with | flat r _ => cases r; exact go rx ry rfl h (by simp)
  · cases ra with | flat r _ => cases r; cases rb with | flat r _ => cases r; exact go rx ry rfl h (by simp)
  · cases ra with | flat r _ => cases r; cases rb with | flat r _ => cases r; exact go rx ry rfl h (by simp)
  · cases ra with | flat r _ => cases r; cases rb with | flat r _ => cases r; exact go rx ry rfl h (by simp)
  · cases ra with | flat r _ => cases r; cases rb with | flat r _ => cases r; exact go rx ry rfl h (by simp)
  · obtain ⟨d, e, h1, h2, s1, s2, hr⟩ := h
    exact op_neD hu pins s st H x y v u Q I rx ry ⟨d, e, ra.dp h1, rb.dp h2, s1, s2, k _ hr⟩

/-! ### keys -/
end
section
variable {K : Kx} {H H' : Hp} {mu mu' : Mu}
theorem keyOf_keyW (k : Key) : keyOf (keyW k) = some k := by cases k <;> rfl
theorem keysOf_map : ∀ ks : List Key, keysOf (ks.map keyW) = some ks
  | [] => rfl
  | k :: ks => by
    rw [List.map_cons]
    unfold keysOf
    rw [keyOf_keyW, keysOf_map ks]
theorem dkOf_keyW (k : Key) : dkOf (keyW k) = some (.k k) := by cases k <;> rfl
theorem dkOf_tup (ks : List Key) : dkOf (.tup (ks.map keyW)) = some (.t ks) := by
  show Option.map DK.t (keysOf (ks.map keyW)) = _
  rw [keysOf_map]
  all_goals rfl
theorem keyOf_rp {w : W} {v : V} {k : Key} (r : Rp K H mu w v) (e : keyOf w = some k) : v = kV k := by
  cases r <;> unfold keyOf at e <;> first
    | (cases e; rfl)
    | cases e
theorem keysOf_rp : ∀ {ws : List W} {vs : List V} {ks : List Key}, Rps K H mu ws vs → keysOf ws = some ks → vs = ks.map kV
  | _, _, _, .nil, e => by unfold keysOf at e; cases e; rfl
  | _, _, _, .cons r t, e => by
    unfold keysOf at e
    split at e
    · rename_i k ks e1 e2
      cases e
      rw [List.map_cons, keyOf_rp r e1, keysOf_rp t e2]
    · cases e
theorem dkOf_k {w : W} {v : V} {k : Key} (r : Rp K H mu w v) (e : dkOf w = some (.k k)) : v = kV k := by
  unfold dkOf at e
  split at e
  · obtain ⟨_, _, z⟩ := Option.map_eq_some_iff.mp e
    cases z
  · obtain ⟨_, e1, z⟩ := Option.map_eq_some_iff.mp e
    cases z
    exact keyOf_rp r e1
theorem dkOf_t {w : W} {v : V} {ks : List Key} (r : Rp K H mu w v) (e : dkOf w = some (.t ks)) : ∃ b, v = .ref b ∧ TX H b (ks.map kV) := by
  unfold dkOf at e
  split at e
  · obtain ⟨_, e1, z⟩ := Option.map_eq_some_iff.mp e
    cases z
    cases r with
    | tup h r => exact ⟨_, rfl, by rw [← keysOf_rp r e1]; exact h⟩
  · obtain ⟨_, _, z⟩ := Option.map_eq_some_iff.mp e
    cases z
/-- what a dict says of a key, both ways -/
inductive OptR (K : Kx) (H : Hp) (mu : Mu) : Option W → Option V → Prop
  | none : OptR K H mu none none
  | some {w : W} {v : V} (r : Rp K H mu w v) : OptR K H mu (some w) (some v)
theorem OptR.isSome {a : Option W} {b : Option V} (h : OptR K H mu a b) : a.isSome = b.isSome := by cases h <;> rfl
theorem OptR.getD {a : Option W} {b : Option V} {w : W} {v : V} (h : OptR K H mu a b) (r : Rp K H mu w v) : Rp K H mu (a.getD w) (b.getD v) := by
  cases h with
  | none => exact r
  | some q => exact q
theorem OptR.someE {w : W} {b : Option V} (h : OptR K H mu (Option.some w) b) : ∃ v, b = Option.some v ∧ Rp K H mu w v := by
  cases h with | some r => exact ⟨_, rfl, r⟩
/-- lists of keys, their addresses, values -/
def vlT (xs : List (List Key × Addr × V)) (k : List Key) : Option V := (xs.find? fun x => decide (x.1 = k)).map (·.2.2)
def putT (xs : List (List Key × Addr × V)) (k : List Key) (b : Addr) (v : V) : List (List Key × Addr × V) :=
  if (xs.any fun x => decide (x.1 = k)) = true then xs.map (fun p => if p.1 = k then (p.1, p.2.1, v) else p) else xs ++ [(k, b, v)]
def dropT (xs : List (List Key × Addr × V)) (k : List Key) : List (List Key × Addr × V) := xs.filter fun x => decide (x.1 ≠ k)
theorem vlT_pos {p : List Key × Addr × V} {r : List (List Key × Addr × V)} {k : List Key} (e : p.1 = k) : vlT (p :: r) k = some p.2.2 := by simp [vlT, List.find?_cons, e]
theorem vlT_neg {p : List Key × Addr × V} {r : List (List Key × Addr × V)} {k : List Key} (e : ¬ p.1 = k) : vlT (p :: r) k = vlT r k := by simp [vlT, List.find?_cons, e]
theorem vlT_any (k : List Key) : ∀ xs : List (List Key × Addr × V), (xs.any fun x => decide (x.1 = k)) = (vlT xs k).isSome
  | [] => rfl
  | p :: r => by
    rw [List.any_cons]
    by_cases e : p.1 = k
    · rw [vlT_pos e]; simp [e]
    · rw [vlT_neg e, ← vlT_any k r]; simp [e]
theorem length_putT (xs : List (List Key × Addr × V)) (k : List Key) (b : Addr) (v : V) : (putT xs k b v).length ≤ xs.length + 1 := by
  unfold putT
  split
  · rw [List.length_map]; omega
  · rw [List.length_append]; exact Nat.le_refl _
theorem RKs.val : ∀ {kvs : List (W × W)} {ks : List (Key × V)} (k : Key), RKs K H mu kvs ks → OptR K H mu (dget kvs (.k k)) (valV ks k)
  | _, _, _, .nil => .none
  | _, _, k, .cons (k := k') r t => by
    unfold dget
    rw [dkOf_keyW]
    by_cases e : k' = k
    · subst e
      rw [if_pos rfl, valV_pos rfl]
      exact .some r
    · rw [if_neg (fun z => e (DK.k.inj (Option.some.inj z))), valV_neg e]
      exact RKs.val k t
theorem RTs.val : ∀ {kvs : List (W × W)} {ks : List (List Key × Addr × V)} (k : List Key), RTs K H mu kvs ks → OptR K H mu (dget kvs (.t k)) (vlT ks k)
  | _, _, _, .nil => .none
  | _, _, k, .cons (k := k') _ r t => by
    unfold dget
    rw [dkOf_tup]
    by_cases e : k' = k
    · subst e
      rw [if_pos rfl, vlT_pos rfl]
      exact .some r
    · rw [if_neg (fun z => e (DK.t.inj (Option.some.inj z))), vlT_neg e]
      exact RTs.val k t
theorem RKs.length : ∀ {ws : List (W × W)} {vs : List (Key × V)}, RKs K H mu ws vs → ws.length = vs.length
  | _, _, .nil => rfl
  | _, _, .cons _ t => congrArg (· + 1) (RKs.length t)
theorem RTs.length : ∀ {ws : List (W × W)} {vs : List (List Key × Addr × V)}, RTs K H mu ws vs → ws.length = vs.length
  | _, _, .nil => rfl
  | _, _, .cons _ _ t => congrArg (· + 1) (RTs.length t)
theorem keyOf_eq {w : W} {k : Key} (e : keyOf w = some k) : w = keyW k := by
  cases w <;> unfold keyOf at e <;> first
    | (cases e; rfl)
    | cases e
theorem keysOf_eq : ∀ {ws : List W} {ks : List Key}, keysOf ws = some ks → ws = ks.map keyW
  | [], _, e => by unfold keysOf at e; cases e; rfl
  | w :: ws, _, e => by
    unfold keysOf at e
    split at e
    · rename_i k ks e1 e2
      cases e
      rw [List.map_cons, keyOf_eq e1, keysOf_eq e2]
    · cases e
theorem dkOf_k_eq {w : W} {k : Key} (e : dkOf w = some (.k k)) : w = keyW k := by
  unfold dkOf at e
  split at e
  · obtain ⟨_, _, z⟩ := Option.map_eq_some_iff.mp e
    cases z
  · obtain ⟨_, e1, z⟩ := Option.map_eq_some_iff.mp e
    cases z
    exact keyOf_eq e1
theorem dkOf_t_eq {w : W} {ks : List Key} (e : dkOf w = some (.t ks)) : w = .tup (ks.map keyW) := by
  unfold dkOf at e
  split at e
  · obtain ⟨_, e1, z⟩ := Option.map_eq_some_iff.mp e
    cases z
    rw [keysOf_eq e1]
  · obtain ⟨_, _, z⟩ := Option.map_eq_some_iff.mp e
    cases z
/-- d[k] = v -/
theorem RKs.any (k : Key) : ∀ {kvs : List (W × W)} {ks : List (Key × V)}, RKs K H mu kvs ks → (kvs.any fun p => decide (dkOf p.1 = some (.k k))) = ks.any fun p => decide (p.1 = k)
  | _, _, .nil => rfl
  | _, _, .cons (k := k') r t => by
    rw [List.any_cons, List.any_cons, RKs.any k t, dkOf_keyW]
    congr 1
    by_cases e : k' = k <;> simp [e]
theorem RTs.any (k : List Key) : ∀ {kvs : List (W × W)} {ks : List (List Key × Addr × V)}, RTs K H mu kvs ks → (kvs.any fun p => decide (dkOf p.1 = some (.t k))) = ks.any fun p => decide (p.1 = k)
  | _, _, .nil => rfl
  | _, _, .cons (k := k') _ r t => by
    rw [List.any_cons, List.any_cons, RTs.any k t, dkOf_tup]
    congr 1
    by_cases e : k' = k <;> simp [e]
theorem RKs.repl (k : Key) {w : W} {v : V} (q : Rp K H mu w v) : ∀ {kvs : List (W × W)} {ks : List (Key × V)}, RKs K H mu kvs ks →
    RKs K H mu (kvs.map fun p => if dkOf p.1 = some (.k k) then (p.1, w) else p) (ks.map fun p => if p.1 = k then (p.1, v) else p)
  | _, _, .nil => .nil
  | _, _, .cons (k := k') r t => by
    rw [List.map_cons, List.map_cons]
    have ih := RKs.repl k q t
    by_cases e : k' = k
    · subst e
      rw [if_pos (dkOf_keyW _), if_pos rfl]
      exact .cons q ih
    · rw [if_neg (by rw [dkOf_keyW]; intro z; exact e (DK.k.inj (Option.some.inj z))), if_neg e]
      exact .cons r ih
theorem RTs.repl (k : List Key) {w : W} {v : V} (q : Rp K H mu w v) : ∀ {kvs : List (W × W)} {ks : List (List Key × Addr × V)}, RTs K H mu kvs ks →
    RTs K H mu (kvs.map fun p => if dkOf p.1 = some (.t k) then (p.1, w) else p) (ks.map fun p => if p.1 = k then (p.1, p.2.1, v) else p)
  | _, _, .nil => .nil
  | _, _, .cons (k := k') h r t => by
    rw [List.map_cons, List.map_cons]
    have ih := RTs.repl k q t
    by_cases e : k' = k
    · subst e
      rw [if_pos (dkOf_tup _), if_pos rfl]
      exact .cons h q ih
    · rw [if_neg (by rw [dkOf_tup]; intro z; exact e (DK.t.inj (Option.some.inj z))), if_neg e]
      exact .cons h r ih
theorem RKs.app : ∀ {a b : List (W × W)} {c d : List (Key × V)}, RKs K H mu a c → RKs K H mu b d → RKs K H mu (a ++ b) (c ++ d)
  | _, _, _, _, .nil, s => s
  | _, _, _, _, .cons r t, s => .cons r (RKs.app t s)
theorem RTs.app : ∀ {a b : List (W × W)} {c d : List (List Key × Addr × V)}, RTs K H mu a c → RTs K H mu b d → RTs K H mu (a ++ b) (c ++ d)
  | _, _, _, _, .nil, s => s
  | _, _, _, _, .cons h r t, s => .cons h r (RTs.app t s)
theorem RKs.put {k : Key} {kw w : W} {v : V} (ek : dkOf kw = some (.k k)) (q : Rp K H mu w v) {kvs : List (W × W)} {ks : List (Key × V)} (r : RKs K H mu kvs ks) : RKs K H mu (dput kvs (.k k) kw w) (putK ks k v) := by
  unfold dput putK
  rw [r.any k]
  split
  · exact r.repl k q
  · rw [dkOf_k_eq ek]
    exact r.app (.cons q .nil)
theorem RTs.put {k : List Key} {b : Addr} {kw w : W} {v : V} (ek : dkOf kw = some (.t k)) (hb : TX H b (k.map kV)) (q : Rp K H mu w v) {kvs : List (W × W)} {ks : List (List Key × Addr × V)} (r : RTs K H mu kvs ks) : RTs K H mu (dput kvs (.t k) kw w) (putT ks k b v) := by
  unfold dput putT
  rw [r.any k]
  split
  · exact r.repl k q
  · rw [dkOf_t_eq ek]
    exact r.app (.cons hb q .nil)
theorem RTs.keys : ∀ {kvs : List (W × W)} {ks : List (List Key × Addr × V)}, RTs K H mu kvs ks → ∀ x ∈ ks, TX H x.2.1 (x.1.map kV)
  | _, _, .nil, _, h => absurd h (by simp)
  | _, _, .cons h r t, x, hx => by
    rcases List.mem_cons.mp hx with e | hx
    · subst e; exact h
    · exact RTs.keys t x hx
theorem RKs.drop (k : Key) : ∀ {kvs : List (W × W)} {ks : List (Key × V)}, RKs K H mu kvs ks → RKs K H mu (ddrop kvs (.k k)) (dropK ks k)
  | _, _, .nil => .nil
  | _, _, .cons (k := k') r t => by
    unfold ddrop dropK
    have ih := RKs.drop k t
    unfold ddrop dropK at ih
    rw [List.filter_cons, List.filter_cons, dkOf_keyW]
    by_cases e : k' = k
    · subst e
      rw [if_neg (by simp), if_neg (by simp)]
      exact ih
    · rw [if_pos (by simpa using e), if_pos (by simpa using e)]
      exact .cons r ih
theorem RTs.drop (k : List Key) : ∀ {kvs : List (W × W)} {ks : List (List Key × Addr × V)}, RTs K H mu kvs ks → RTs K H mu (ddrop kvs (.t k)) (dropT ks k)
  | _, _, .nil => .nil
  | _, _, .cons (k := k') h r t => by
    unfold ddrop dropT
    have ih := RTs.drop k t
    unfold ddrop dropT at ih
    rw [List.filter_cons, List.filter_cons, dkOf_tup]
    by_cases e : k' = k
    · subst e
      rw [if_neg (by simp), if_neg (by simp)]
      exact ih
    · rw [if_pos (by simpa using e), if_pos (by simpa using e)]
      exact .cons h r ih
/-- what a dict gives at a key -/
def DG (K : Kx) (H : Hp) (p : Addr) (y : V) (o : Option V) : Prop := (∃ ks k, Rd H p (.dK ks) ∧ y = kV k ∧ o = valV ks k) ∨
  ∃ xs k b, Rd H p (dTO K p xs) ∧ (∀ x ∈ xs, TX H x.2.1 (x.1.map kV)) ∧ y = .ref b ∧ TX H b (k.map kV) ∧ o = vlT xs k
theorem dget_ok {t : Bool} {kvs : List (W × W)} {k : DK} {a : W} {x y : V} (h : Vw K H mu (.dct t kvs) x) (r : Rp K H mu a y) (e : dkOf a = some k) (ek : dkK k = t) : ∃ p o, x = .ref p ∧ DG K H p y o ∧ OptR K H mu (dget kvs k) o := by
  cases k with
  | k k =>
    obtain rfl : t = false := ek.symm
    obtain ⟨p, ks, rfl, hr, rr⟩ := h.dKE
    exact ⟨p, _, rfl, .inl ⟨ks, k, hr, dkOf_k r e, rfl⟩, rr.val k⟩
  | t k =>
    obtain rfl : t = true := ek.symm
    obtain ⟨p, ks, rfl, hr, rr⟩ := h.dTE
    obtain ⟨b, rfl, hb⟩ := dkOf_t r e
    exact ⟨p, _, rfl, .inr ⟨ks, k, b, hr, rr.keys, rfl, hb, rfl⟩, rr.val k⟩
end
/-! ### dicts, raw -/
section
variable {X : Cx} {pins : List (Addr × Obj)} {s : Shared} {st : L2.St} {H : Hp} {a : Addr} {y v d : V} {u r : Value} {o : Option V} {A : Around} {E : Value → Shared → Prop}
theorem key_X {P : Program} {w : World} {h : Heap} {b : Addr} {ks : List Key} (ok : HOk P w H h) (e : TX H b (ks.map kV)) : (tupleKind (mixKind P w)).is h ks b := by
  obtain ⟨ob, _, e⟩ := e
  obtain ⟨_, _, its, r, o, h1, h2, n, h3⟩ := ok b _ e
  exact ⟨o, its.toArray, n, h1, h2, h3, by simpa using items_are r⟩
abbrev PTT (xs : List (List Key × Addr × V)) (ys : List (List Key × Addr × Value)) : Prop := Paired (fun (p : List Key × Addr × V) (q : List Key × Addr × Value) => p.1 = q.1 ∧ p.2.1 = q.2.1 ∧ RelV p.2.2 q.2.2) xs ys
theorem dt_X {P : Program} {w : World} {K : PySem.W.Frag} {h : Heap} {xs : List (List Key × Addr × V)} (ok : HOk P w H h) (e : Rd H a (dTO ⟨P, w, K⟩ a xs)) (hk : ∀ x ∈ xs, TX H x.2.1 (x.1.map kV)) :
    (a == sysModules) = false ∧ xs.length ≤ sizeLine ∧ ∃ ys, PTT xs ys ∧ h.DictOfH (tupleKind (mixKind P w)) a ys := by
  obtain ⟨h1, h2, ys, hp, ob, es, ep, h3, h4, h5, h6, h7⟩ : DtIn P w a xs h := (show ObjOk P w H h a (dTO ⟨P, w, K⟩ a xs) from e.ok ok).1
  refine ⟨h1, h2, ys, hp, ob, es, ep, h3, h4, h5, h6, ?_, h7⟩
  have all : ∀ {l : List (List Key × Addr × V)} {m : List (List Key × Addr × Value)}, PTT l m → (∀ x ∈ l, TX H x.2.1 (x.1.map kV)) → ∀ x ∈ m, (tupleKind (mixKind P w)).is h x.1 x.2.1 := by
    intro l m q
    induction q with
    | nil => intro _ x hx; exact nomatch hx
    | @cons p q ps qs hq t ih =>
      intro hl x hx
      rcases List.mem_cons.mp hx with e | hx
      · subst e
        have := key_X (P := P) (w := w) ok (hl p List.mem_cons_self)
        rw [hq.1, hq.2.1] at this
        exact this
      · exact ih (fun z hz => hl z (List.mem_cons_of_mem _ hz)) x hx
  exact all hp hk
theorem PTT.val : ∀ {xs : List (List Key × Addr × V)} {ys : List (List Key × Addr × Value)} (k : List Key), PTT xs ys → RelO (vlT xs k) ((atKey ys k).map (·.2))
  | _, _, _, .nil => True.intro
  | _, q :: ys, k, .cons (a := p) h t => by
    by_cases e : p.1 = k
    · have e' : q.1 = k := h.1.symm.trans e
      have b : atKey (q :: ys) k = some q.2 := by simp [atKey, List.find?_cons, e']
      rw [vlT_pos e, b]; exact h.2.2
    · have e' : ¬ q.1 = k := fun z => e (h.1.trans z)
      have b : atKey (q :: ys) k = atKey ys k := by simp only [atKey, List.find?_cons, e', decide_false]
      rw [vlT_neg e, b]; exact PTT.val k t
theorem PTT.put {k : List Key} {b : Addr} (rv : RelV v r) : ∀ {xs : List (List Key × Addr × V)} {ys : List (List Key × Addr × Value)}, PTT xs ys → PTT (putT xs k b v) (storedH ys k b r) := by
  intro xs ys h
  have e : (xs.any fun x => decide (x.1 = k)) = (atKey ys k).isSome := by
    rw [vlT_any, (h.val k).isSome_eq, Option.isSome_map]
  unfold putT storedH
  rw [e]
  split
  · have go : ∀ {xs : List (List Key × Addr × V)} {ys : List (List Key × Addr × Value)}, PTT xs ys → PTT (xs.map fun p => if p.1 = k then (p.1, p.2.1, v) else p) (ys.map (putAt k r)) := by
      intro xs ys h
      induction h with
      | nil => exact .nil
      | @cons p q ps qs h t ih =>
        rw [List.map_cons, List.map_cons]
        refine .cons ?_ ih
        unfold putAt
        by_cases e : p.1 = k
        · rw [if_pos e, if_pos (h.1.symm.trans e)]; exact ⟨h.1, h.2.1, rv⟩
        · rw [if_neg e, if_neg (fun z => e (h.1.trans z))]; exact h
    exact go h
  · exact Paired.snoc h ⟨rfl, rfl, rv⟩
theorem PTT.drop {k : List Key} : ∀ {xs : List (List Key × Addr × V)} {ys : List (List Key × Addr × Value)}, PTT xs ys → PTT (dropT xs k) (ys.filter fun x => decide (x.1 ≠ k))
  | _, _, .nil => .nil
  | _, _, .cons (a := p) (b := q) h t => by
    unfold dropT
    have ih := PTT.drop (k := k) t
    unfold dropT at ih
    rw [List.filter_cons, List.filter_cons]
    by_cases e : p.1 = k
    · rw [if_neg (by simpa using e), if_neg (by simpa using h.1.symm.trans e)]; exact ih
    · rw [if_pos (by simpa using e), if_pos (by simpa using fun z => e (h.1.trans z))]; exact .cons h ih
theorem d_item {Q : Value → Shared → Prop} (hu : A.units + 1 < cLine) (I : Inv X pins st H s) (g : DG X.kx H a y (some v)) (ry : RelV y u) (h : ∀ w' s', Inv X pins st H s' → RelV v w' → Q w' s') :
    wpAny (model X.prog X.w) A (getItem (.ref a) u) Q E s := by
  rcases g with ⟨ks, k, e, ey, l⟩ | ⟨xs, k, b, e, hk, ey, eb, l⟩
  · exact d_getItem hu I (.inl ⟨ks, k, e, ey, l⟩) ry h
  · subst ey
    cases (show u = Value.ref b from ry)
    obtain ⟨hd, z, ys, rel, dd⟩ := dt_X I.hok e hk
    obtain ⟨w', hw, rw'⟩ := RelO.some_of (v := v) (o := (atKey ys k).map (·.2)) (by rw [l]; exact rel.val k)
    obtain ⟨p, hp, hp2⟩ := Option.map_eq_some_iff.mp hw
    refine wpAny_getItem_heap (tupleKind_room_in1 hu) (key_X I.hok eb) dd hp ?_
    rw [hp2]
    exact h w' _ (I.tok _) rw'
theorem d_has {Q : Value → Shared → Prop} (hu : A.units + 1 < cLine) (I : Inv X pins st H s) (g : DG X.kx H a y o) (ry : RelV y u) (h : ∀ s', Inv X pins st H s' → Q (.bool o.isSome) s') :
    wpAny (model X.prog X.w) A (compareOp .In u (.ref a)) Q E s := by
  rcases g with ⟨ks, k, e, ey, l⟩ | ⟨xs, k, b, e, hk, ey, eb, l⟩
  · exact d_in hu I (.inl ⟨ks, k, e, ey, l⟩) ry h
  · subst ey
    cases (show u = Value.ref b from ry)
    obtain ⟨hd, z, ys, rel, dd⟩ := dt_X I.hok e hk
    refine wpAny_in_heap (tupleKind_room_in1 hu) (key_X I.hok eb) hd dd ?_
    have q := (rel.val k).isSome_eq
    rw [Option.isSome_map] at q
    rw [← q, ← l]
    exact h _ (I.tok _)
theorem d_hasnt {Q : Value → Shared → Prop} (hu : A.units + 1 < cLine) (I : Inv X pins st H s) (g : DG X.kx H a y o) (ry : RelV y u) (h : ∀ s', Inv X pins st H s' → Q (.bool (!o.isSome)) s') :
    wpAny (model X.prog X.w) A (compareOp .NotIn u (.ref a)) Q E s := by
  rcases g with ⟨ks, k, e, ey, l⟩ | ⟨xs, k, b, e, hk, ey, eb, l⟩
  · exact d_notIn hu I (.inl ⟨ks, k, e, ey, l⟩) ry h
  · subst ey
    cases (show u = Value.ref b from ry)
    obtain ⟨hd, z, ys, rel, dd⟩ := dt_X I.hok e hk
    refine wpAny_notIn_heap (tupleKind_room_in1 hu) (key_X I.hok eb) hd dd ?_
    have q := (rel.val k).isSome_eq
    rw [Option.isSome_map] at q
    rw [← q, ← l]
    exact h _ (I.tok _)
theorem d_typeIs (I : Inv X pins st H s) (g : DG X.kx H a y o) : s.TypeIs (.ref a) "dict" := by
  rcases g with ⟨ks, k, e, ey, l⟩ | ⟨xs, k, b, e, hk, ey, eb, l⟩
  · obtain ⟨_, _, vs, _, dd⟩ := dk_rd I.hok e
    exact dd.typeIs
  · obtain ⟨_, _, ys, _, dd⟩ := dt_X I.hok e hk
    exact dd.typeIs
theorem d_getD {Q : Value → Shared → Prop} (hu : A.units + 1 < cLine) (I : Inv X pins st H s) (g : DG X.kx H a y o) (ry : RelV y u) (rd : RelV d r) (h : ∀ w' s', Inv X pins st H s' → RelV (o.getD d) w' → Q w' s') :
    wpAny (model X.prog X.w) A (call (.builtin "dict.get") [.ref a, u, r]) Q E s := by
  rcases g with ⟨ks, k, e, ey, l⟩ | ⟨xs, k, b, e, hk, ey, eb, l⟩
  · exact d_get2 hu I (.inl ⟨ks, k, e, ey, l⟩) ry rd h
  · subst ey
    cases (show u = Value.ref b from ry)
    obtain ⟨hd, z, ys, rel, dd⟩ := dt_X I.hok e hk
    refine call_meetsIn PySem.F.slot_dict_get dd.typeIs PySem.F.entry_dict_get (PySem.F.args_dict_get_3 _ _ _) (meetsH_dict_get_default (tupleKind (mixKind X.prog X.w)) a b hd r) ⟨tupleKind_room_in1 hu, k, ys, key_X I.hok eb, dd, h _ _ (I.tok _) ?_⟩
    rw [l]
    exact (rel.val k).getD rd
/-- a[k] = v, keys tuples -/
theorem dt_set {Q : Unit → Shared → Prop} {xs : List (List Key × Addr × V)} {k : List Key} {b : Addr} (hu : A.units + 1 < cLine) (I : Inv X pins st H s) (e : H a = some (dTO X.kx a xs)) (hk : ∀ x ∈ xs, TX H x.2.1 (x.1.map kV)) (eb : TX H b (k.map kV)) (hz : xs.length < sizeLine) (rv : RelV v r)
    (h : ∀ s', Inv X pins st (upd H a (dTO X.kx a (putT xs k b v))) s' → Q () s') : wpAny (model X.prog X.w) A (setItem (.ref a) (.ref b) r) Q E s := by
  obtain ⟨hd, z, ys, rel, dd⟩ := dt_X I.hok (.inl e) hk
  refine wpAny_setItem_heap (hsz := by rw [← Paired.length rel]; exact z) (tupleKind_room_in1 hu) (key_X I.hok eb) dd fun h' dd' hs => h _ ?_
  obtain ⟨q, es, ep, hq, h2, h3, h4, _, h5⟩ := dd'
  refine d_write I (by rw [e]; exact True.intro) hs ⟨q, hq⟩ (dTO_ok ⟨hd, ?_, _, rel.put rv, q, es, ep, hq, h2, h3, h4, h5⟩)
  have := length_putT xs k b v
  omega
end
section
variable {X : Cx}
/-! ### in -/
theorem in_ok (hu : X.A.units + 65 < cLine) {pins : List (Addr × Obj)} {s : Shared} {st : L2.St} {H : Hp} {mu : Mu} {x y : V} {v u : Value} {a b : W} {R : Bool → Prop} {Q : VK} (I : Inv X pins st H s) (rx : RelV x v) (ry : RelV y u) (ra : Rp X.kx H mu a x) (rb : Vw X.kx H mu b y)
    (h : inR a b R) (k : ∀ c, R c → Q (.bl c) H) : wpAny (model X.prog X.w) X.A (compareOp .In v u) (EP X pins st Q) X.xe s := by
  unfold inR at h
  split at h
  · obtain ⟨d, e, ed, hr⟩ := h
    obtain ⟨p, o, rfl, g, oo⟩ := dget_ok rb ra e ed
    cases ry
    exact d_has (by omega) I g rx fun s' I' => ⟨.bl _, H, I', rfl, by rw [← oo.isSome]; exact k _ hr⟩
  · obtain ⟨d, ds, h1, h2, s1, s2, hr⟩ := h
    obtain ⟨p, vs, rfl, hp, rr⟩ := rb.tupE
    obtain ⟨as, q1⟩ := Dp.reads I d x v (ra.dp h1) rx
    obtain ⟨bs, q2⟩ := Dp.reads I (.tuple ds) _ u (.tup hp.sq (rr.dp h2)) ry
    exact SeqAt.in_tuple_reads q2 q1 (SeqAt.canLay_of_shaped s2) (SeqAt.canLay_of_shaped s1) (room_in_shaped s1 hu) ⟨.bl _, H, I, rfl, k _ hr⟩
  · obtain ⟨d, ds, h1, h2, s1, s2, hr⟩ := h
    obtain ⟨p, vs, rfl, hp, rr⟩ := rb.lstE
    exact op_inD hu pins s st H x _ v u Q I rx ry ⟨d, ds, ra.dp h1, .lst (SqL.of hp) (rr.dp h2), s1, s2, k _ hr⟩
  · exact h.elim
theorem nin_ok (hu : X.A.units + 65 < cLine) {pins : List (Addr × Obj)} {s : Shared} {st : L2.St} {H : Hp} {mu : Mu} {x y : V} {v u : Value} {a b : W} {R : Bool → Prop} {Q : VK} (I : Inv X pins st H s) (rx : RelV x v) (ry : RelV y u) (ra : Rp X.kx H mu a x) (rb : Vw X.kx H mu b y)
    (h : inR a b R) (k : ∀ c, R c → Q (.bl (!c)) H) : wpAny (model X.prog X.w) X.A (compareOp .NotIn v u) (EP X pins st Q) X.xe s := by
  unfold inR at h
  split at h
  · obtain ⟨d, e, ed, hr⟩ := h
    obtain ⟨p, o, rfl, g, oo⟩ := dget_ok rb ra e ed
    cases ry
    exact d_hasnt (by omega) I g rx fun s' I' => ⟨.bl _, H, I', rfl, by rw [← oo.isSome]; exact k _ hr⟩
  · obtain ⟨d, ds, h1, h2, s1, s2, hr⟩ := h
    obtain ⟨p, vs, rfl, hp, rr⟩ := rb.tupE
    obtain ⟨as, q1⟩ := Dp.reads I d x v (ra.dp h1) rx
    obtain ⟨bs, q2⟩ := Dp.reads I (.tuple ds) _ u (.tup hp.sq (rr.dp h2)) ry
    exact SeqAt.notIn_tuple_reads q2 q1 (SeqAt.canLay_of_shaped s2) (SeqAt.canLay_of_shaped s1) (room_in_shaped s1 hu) ⟨.bl _, H, I, rfl, k _ hr⟩
  · obtain ⟨d, ds, h1, h2, s1, s2, hr⟩ := h
    obtain ⟨p, vs, rfl, hp, rr⟩ := rb.lstE
    exact op_notInD hu pins s st H x _ v u Q I rx ry ⟨d, ds, ra.dp h1, .lst (SqL.of hp) (rr.dp h2), s1, s2, k _ hr⟩
  · exact h.elim
theorem intsOf_rps {K : Kx} {H : Hp} {mu : Mu} : ∀ {ws : List W} {vs : List V} {ns : List Int}, Rps K H mu ws vs → intsOf ws = some ns → vs = ns.map V.int
  | _, _, _, .nil, e => by unfold intsOf at e; cases e; rfl
  | _, _, _, .cons r t, e => by
    cases r <;> unfold intsOf at e <;> first
      | cases e
      | (obtain ⟨ms, e1, rfl⟩ := Option.map_eq_some_iff.mp e
         rw [intsOf_rps t e1, List.map_cons])
theorem intsOf_eq : ∀ {ws : List W} {ns : List Int}, intsOf ws = some ns → ws = ns.map W.int
  | [], _, e => by unfold intsOf at e; cases e; rfl
  | w :: ws, _, e => by
    cases w <;> unfold intsOf at e <;> first
      | cases e
      | (obtain ⟨ms, e1, rfl⟩ := Option.map_eq_some_iff.mp e
         rw [intsOf_eq e1, List.map_cons])
theorem intsOf_map : ∀ ns : List Int, intsOf (ns.map W.int) = some ns
  | [] => rfl
  | n :: ns => by
    rw [List.map_cons]
    unfold intsOf
    rw [intsOf_map ns]
    all_goals rfl
theorem blsOf_rps {K : Kx} {H : Hp} {mu : Mu} : ∀ {ws : List W} {vs : List V} {ns : List Bool}, Rps K H mu ws vs → blsOf ws = some ns → vs = ns.map V.bl
  | _, _, _, .nil, e => by unfold blsOf at e; cases e; rfl
  | _, _, _, .cons r t, e => by
    cases r <;> unfold blsOf at e <;> first
      | cases e
      | (obtain ⟨ms, e1, rfl⟩ := Option.map_eq_some_iff.mp e
         rw [blsOf_rps t e1, List.map_cons])
theorem blsOf_map : ∀ ns : List Bool, blsOf (ns.map W.bl) = some ns
  | [] => rfl
  | n :: ns => by
    rw [List.map_cons]
    unfold blsOf
    rw [blsOf_map ns]
    all_goals rfl
theorem cmp_ok (op : CmpOp) (hu : X.A.units + 65 < cLine) : OpR X (compareOp op) (up2 X.kx (cmpR op)) := by
  intro pins s st H x y v u Q I rx ry h
  obtain ⟨a, b, mu, P, ra, rb, m, hb, k⟩ := h
  have kb : ∀ c, P (.bl c) mu → Q (.bl c) H := fun c hc => k.same m hc (.bl c)
  unfold cmpR at hb
  cases op with
  | Eq => exact eq_ok (by omega) I rx ry (vw_ok m ra) (vw_ok m rb) hb kb
  | NotEq => exact ne_ok (by omega) I rx ry (vw_ok m ra) (vw_ok m rb) hb fun c hc => kb _ hc
  | In => exact in_ok hu I rx ry ra (vw_ok m rb) hb kb
  | NotIn => exact nin_ok hu I rx ry ra (vw_ok m rb) hb fun c hc => kb _ hc
  | Lt =>
    dsimp only at hb
    split at hb
    · cases ra; cases rb
      exact op_lt pins s st H _ _ v u Q I rx ry ⟨_, _, rfl, rfl, kb _ hb⟩
    · obtain ⟨ns, ms, e1, e2, hb⟩ := hb
      cases ra with
      | tup h1 r1 => cases rb with
        | tup h2 r2 => exact op_ltT (by omega) pins s st H _ _ v u Q I rx ry ⟨_, _, ns, ms, rfl, rfl, by rw [← intsOf_rps r1 e1]; exact h1.sq, by rw [← intsOf_rps r2 e2]; exact h2.sq, kb _ hb⟩
    · exact hb.elim
  | LtE =>
    dsimp only at hb
    split at hb
    · cases ra; cases rb
      exact op_le pins s st H _ _ v u Q I rx ry ⟨_, _, rfl, rfl, kb _ hb⟩
    · exact hb.elim
  | Gt =>
    dsimp only at hb
    split at hb
    · cases ra; cases rb
      exact op_gt pins s st H _ _ v u Q I rx ry ⟨_, _, rfl, rfl, kb _ hb⟩
    · exact hb.elim
  | GtE =>
    dsimp only at hb
    split at hb
    · cases ra; cases rb
      exact op_ge pins s st H _ _ v u Q I rx ry ⟨_, _, rfl, rfl, kb _ hb⟩
    · exact hb.elim
  | Is =>
    dsimp only at hb
    split at hb
    · cases rb
      refine op_isN pins s st H x _ v u Q I rx ry ⟨rfl, ?_⟩
      cases ra <;> first
        | exact kb true hb
        | exact kb false hb
    · split at hb
      · cases ra; cases rb
        exact op_isBl pins s st H _ _ v u Q I rx ry ⟨_, _, rfl, rfl, kb _ hb⟩
      · exact hb.elim
    · exact hb.elim
  | IsNot =>
    dsimp only at hb
    split at hb
    · cases rb
      refine op_notN pins s st H x _ v u Q I rx ry ⟨rfl, ?_⟩
      cases ra <;> first
        | exact kb true hb
        | exact kb false hb
    · split at hb
      · cases ra; cases rb
        exact op_notBl pins s st H _ _ v u Q I rx ry ⟨_, _, rfl, rfl, kb _ hb⟩
      · exact hb.elim
    · exact hb.elim

/-! ### subscripts -/
theorem atI_rps {K : Kx} {H : Hp} {mu : Mu} {ws : List W} {vs : List V} {i : Int} {w : W} (r : Rps K H mu ws vs) (e : atI ws i = some w) : ∃ v, atI vs i = some v ∧ Rp K H mu w v := by
  unfold atI at e ⊢
  rw [r.length] at e
  cases q : ixN vs.length i with
  | none => rw [q] at e; cases e
  | some j =>
    rw [q] at e
    exact r.get e
theorem optQ_some {o : Option W} {Q : W → Prop} (h : optQ o Q) : ∃ w, o = some w ∧ Q w := by
  cases o with
  | none => exact h.elim
  | some w => exact ⟨w, rfl, h⟩
theorem idx_ok (hu : X.A.units + 65 < cLine) {a b : Expr} {ta tb : TE} {pos : Pos} (ha : PE X a ta) (hb : PE X b tb) (hs : PlainIx b) : PE X (.Subscript a b pos) (tOp (up2 X.kx idxR) ta tb) := by
  refine ⟨fun pins s st H Q I h => ?_⟩
  -- by what stands there
  refine Subscript_ (binT ha hb I h fun v u s2 x y H2 I2 rx ry q => ?_)
  obtain ⟨wa, wb, mu, P, ra, rb, m, hq, k⟩ := q
  have va := vw_ok m ra
  unfold idxR at hq
  split at hq
  · rename_i ws i e
    rw [e] at va
    obtain ⟨p, vs, rfl, hp, rr⟩ := va.tupE
    cases rb
    obtain ⟨w, e1, hw⟩ := optQ_some hq
    obtain ⟨z, e2, rz⟩ := atI_rps rr e1
    exact ix_tup a b pins s2 st H2 _ _ v u Q I2 rx ry ⟨p, vs, i, z, rfl, rfl, hp.sq, e2, k.same m hw rz⟩ (hs _ _)
  · rename_i ws i e
    rw [e] at va
    obtain ⟨p, vs, rfl, hp, rr⟩ := va.lstE
    cases rb
    obtain ⟨w, e1, hw⟩ := optQ_some hq
    obtain ⟨z, e2, rz⟩ := atI_rps rr e1
    exact ix_list a b pins s2 st H2 _ _ v u Q I2 rx ry ⟨p, vs, i, z, rfl, rfl, SqL.of hp, e2, k.same m hw rz⟩ (hs _ _)
  · rename_i t kvs e
    rw [e] at va
    obtain ⟨d, ed, ek, hq⟩ := hq
    obtain ⟨p, o, rfl, g, oo⟩ := dget_ok va rb ed ek
    obtain ⟨w, e1, hw⟩ := optQ_some hq
    rw [e1] at oo
    obtain ⟨z, rfl, rz⟩ := oo.someE
    cases rx
    exact tail_any (ops := [.ref p, u]) (d_typeIs I2 g) PySem.F.slot_dict_getitem.lookup (d_item (by omega) I2 g ry fun w' s3 I3 rw' => ⟨z, H2, I3, rw', k.same m hw rz⟩) (hs _ _)
  · exact hq.elim
theorem cut_rps {K : Kx} {H : Hp} {mu : Mu} {ws : List W} {vs : List V} (lo hi : Option Int) (r : Rps K H mu ws vs) : Rps K H mu (cutW ws lo hi) (cutV vs lo hi) := by
  unfold cutW cutV
  rw [r.length]
  exact (r.drop _).take _
theorem slX {pins : List (Addr × Obj)} {s : Shared} {st : L2.St} {H : Hp} {a : Addr} {v vl vu : Value} {lo hi : Option Int} {sl : Addr} {xs : List V} {Q : VK} (I : Inv X pins st H s) (rx : RelV (.ref a) v) (hs : s.heap.IsSliceOf sl vl vu .none) (pl : IsPart vl lo) (pu : IsPart vu hi) (hx : SqT X.K H a xs)
    (q1 : HT.sIx xs.length 0 lo = 0 ∧ HT.sIx xs.length xs.length hi = xs.length → Q (.ref a) H)
    (q2 : ¬ (HT.sIx xs.length 0 lo = 0 ∧ HT.sIx xs.length xs.length hi = xs.length) → ∀ p o, H p = none → o.dict = none → Q (.ref p) (upd H p (.frz o (.tup (cutV xs lo hi))))) :
    ∃ T id, typeLookup (.type T) "__getitem__" = pure (some (.builtin id)) ∧ s.TypeIs v T ∧ wpAny (model X.prog X.w) X.A (getItem v (.ref sl)) (EP X pins st Q) X.xe s := by
  by_cases hw : HT.sIx xs.length 0 lo = 0 ∧ HT.sIx xs.length xs.length hi = xs.length
  · exact sl_tupA pins s st H _ v vl vu lo hi sl Q I rx hs pl pu ⟨a, xs, rfl, hx, q1, fun z => absurd hw z⟩
  · cases rx
    obtain ⟨its, r, ht, hz⟩ := I.tuple hx
    have hlen : its.toArray.size = xs.length := by rw [List.size_toArray]; exact r.length.symm
    refine ⟨"tuple", _, PyProof.Rows.slot_tuple_getitem.lookup, ht.typeIs, ?_⟩
    refine HT.getItem_tuple_cut ht hs pl pu (by rw [hlen]; exact hw) ?_ (by rw [hlen]; exact hz)
    rw [hlen]
    exact ep_tup (tk := s.toks) I (fun _ _ h => h) ((r.drop (HT.sIx xs.length 0 lo)).take (HT.sIx xs.length xs.length hi - HT.sIx xs.length 0 lo)) (Nat.le_trans (cutV_length xs lo hi) hz) (q2 hw)
theorem sl_ok (own : Bool) : SlR X (fun x lo hi H Q => ∃ a mu P, Rp X.kx H mu a x ∧ MRel X.kx H mu ∧ slR own a lo hi mu P ∧ Fin X.kx H mu P Q) := by
  intro pins s st H x v vl vu lo hi sl Q I rx hs pl pu h
  obtain ⟨a, mu, P, ra, m, hq, k⟩ := h
  have va := vw_ok m ra
  unfold slR at hq
  split at hq
  · rename_i ws e
    rw [e] at va
    obtain ⟨p, vs, rfl, hp, rr⟩ := va.tupE
    have rc := cut_rps lo hi rr
    refine slX I rx hs pl pu hp.sq (fun hw => ?_) fun _ q o hq' hd => k.tup m hq' hd hq rc
    have e1 : cutW ws lo hi = ws := by
      unfold cutW
      rw [rr.length, hw.1, hw.2, List.drop_zero, Nat.sub_zero, ← rr.length, List.take_length]
    rw [e1] at hq
    exact k.same m hq (.tup hp rr)
  · rename_i ws e
    rw [e] at va
    obtain ⟨p, vs, rfl, hp, rr⟩ := va.lstE
    exact sl_list pins s st H _ v vl vu lo hi sl Q I rx hs pl pu ⟨p, vs, rfl, SqL.of hp, fun q hq' => k.nL m hq' hq (cut_rps lo hi rr)⟩
  · rename_i ns e
    rw [e] at va
    obtain ⟨p, rfl, hp⟩ := va.scrE
    exact sl_list pins s st H _ v vl vu lo hi sl Q I rx hs pl pu ⟨p, _, rfl, hp, fun q hq' => k.nL m hq' hq (cut_rps lo hi (Rps.ints ns))⟩
  · exact hq.elim

/-! ### o[i] = v -/
theorem set_ok (hu : X.A.units + 65 < cLine) {pins : List (Addr × Obj)} {s : Shared} {st : L2.St} {H : Hp} {mu : Mu} {x y z : V} {ov iv u : Value} {a b w : W} {R : Mu → Prop} {Q : Hp → Prop} (I : Inv X pins st H s) (rx : RelV x ov) (ry : RelV y iv) (rz : RelV z u)
    (ra : Rp X.kx H mu a x) (rb : Rp X.kx H mu b y) (rw' : Rp X.kx H mu w z) (m : MRel X.kx H mu) (h : setR a b w mu R)
    (k : ∀ mu' H', R mu' → MRel X.kx H' mu' → Frm H mu H' mu' → Q H') : wpAny (model X.prog X.w) X.A (setItem ov iv u) (fun _ s' => ∃ H', Inv X pins st H' s' ∧ Q H') X.xe s := by
  unfold setR at h
  split at h
  · rename_i a
    cases ra
    split at h
    · rename_i ws e
      split at h
      · rename_i kk
        cases rb
        obtain ⟨j, hj, hr⟩ := h
        obtain ⟨vs, hp, rr⟩ := m _ _ e
        have ne : mu a ≠ none := by rw [e]; exact fun z => nomatch z
        refine set_list pins s st H _ _ z ov iv u Q I rx ry rz ⟨a, vs, kk, j, rfl, rfl, hp, by rw [← rr.length]; exact hj, ?_⟩
        have f : Frm H mu (upd H a (.lst (vs.set j z))) (sett mu a (.lst (ws.set j w))) := Frm.write m ne
        exact k _ _ hr (m.write ne ⟨_, upd_same, (rr.set rw' j).frm m f⟩) f
      · exact h.elim
    · rename_i t kvs e
      obtain ⟨d, ed, ek, hz, hr⟩ := h
      have ne : mu a ≠ none := by rw [e]; exact fun z => nomatch z
      have q := m _ _ e
      cases d with
      | k kk =>
        obtain rfl : t = false := ek.symm
        obtain ⟨ks, hp, rr⟩ := q
        cases rx
        have f : Frm H mu (upd H a (.dK (putK ks kk z))) (sett mu a (.dct false (dput kvs (.k kk) b w))) := Frm.write m ne
        refine d_setItem (by omega) I (.inl ⟨ks, kk, hp, dkOf_k rb ed, by rw [← rr.length]; exact hz, rfl⟩) ry rz fun s' I' => ⟨_, I', ?_⟩
        exact k _ _ hr (m.write ne ⟨_, upd_same, (rr.put ed rw').frm m f⟩) f
      | t kk =>
        obtain rfl : t = true := ek.symm
        obtain ⟨ks, hp, rr⟩ := q
        cases rx
        obtain ⟨b', rfl, hb⟩ := dkOf_t rb ed
        have f : Frm H mu (upd H a (dTO X.kx a (putT ks kk b' z))) (sett mu a (.dct true (dput kvs (.t kk) b w))) := Frm.write m ne
        cases ry
        refine dt_set (by omega) I hp rr.keys hb (by rw [← rr.length]; exact hz) rz fun s' I' => ⟨_, I', ?_⟩
        exact k _ _ hr (m.write ne ⟨_, upd_same, (rr.put ed hb rw').frm m f⟩) f
    · exact h.elim
  · exact h.elim
end
end FF

/-! Built-in functions, methods. -/
namespace FF
open PySem PySem.Spec PyProof.Rows L2

section
variable {K : Kx} {H H' : Hp} {mu mu' : Mu}
theorem Rps.one {w : W} {vs : List V} (r : Rps K H mu [w] vs) : ∃ v, vs = [v] ∧ Rp K H mu w v := by
  cases r with | cons r t => cases t; exact ⟨_, rfl, r⟩
theorem Rps.two {w z : W} {vs : List V} (r : Rps K H mu [w, z] vs) : ∃ v u, vs = [v, u] ∧ Rp K H mu w v ∧ Rp K H mu z u := by
  cases r with | cons r t => cases t with | cons r' t => cases t; exact ⟨_, _, rfl, r, r'⟩
theorem lstOf_ok (m : MRel K H mu) {x : W} {v : V} {ws : List W} (r : Rp K H mu x v) (e : lstOf mu x = some ws) : ∃ a vs, v = .ref a ∧ H a = some (.lst vs) ∧ Rps K H mu ws vs := by
  have q := vw_ok m r
  unfold lstOf at e
  split at e
  · rename_i ws' e1
    cases e
    rw [e1] at q
    exact q.lstE
  · cases e
theorem itemsOf_ok (m : MRel K H mu) {x : W} {v : V} {ws : List W} (r : Rp K H mu x v) (e : itemsOf mu x = some ws) : ∃ a vs, v = .ref a ∧ (H a = some (.lst vs) ∨ TX H a vs) ∧ Rps K H mu ws vs := by
  have q := vw_ok m r
  unfold itemsOf at e
  split at e
  · rename_i ws' e1
    cases e
    rw [e1] at q
    obtain ⟨a, vs, e, h, r⟩ := q.tupE
    exact ⟨a, vs, e, .inr h, r⟩
  · rename_i ws' e1
    cases e
    rw [e1] at q
    obtain ⟨a, vs, e, h, r⟩ := q.lstE
    exact ⟨a, vs, e, .inl h, r⟩
  · cases e
end
/-- ints in rising order are one list -/
theorem rise_one : ∀ {a b : List Int}, a.Perm b → a.Pairwise (· ≤ ·) → b.Pairwise (· ≤ ·) → a = b := fun {a b} p h1 h2 =>
  List.Perm.eq_of_pairwise (le := (· ≤ ·)) (fun x y _ _ h h' => Int.le_antisymm h h') h1 h2 p
theorem srtI_perm (ns : List Int) : (srtI ns).Perm ns := List.mergeSort_perm ns _
theorem srtI_rise (ns : List Int) : (srtI ns).Pairwise (· ≤ ·) := by
  have h := List.pairwise_mergeSort (le := fun a b : Int => decide (a ≤ b)) (fun a b c h1 h2 => by
    simp only [decide_eq_true_eq] at *; omega) (fun a b => by simp only [Bool.or_eq_true, decide_eq_true_eq]; omega) ns
  exact h.imp fun {a b} q => by simpa using q

section
variable {X : Cx}
theorem len_ok : CallR X (.builtin "len") (upN X.kx (bifR .len)) := by
  intro pins s st H vs us Q I r h
  obtain ⟨ws, mu, P, rs, m, hb, k⟩ := h
  match ws, rs, hb with
  | [x], rs, hb =>
    obtain ⟨v, rfl, rx⟩ := rs.one
    obtain ⟨u, rfl, ru⟩ := vals1 r
    have q := vw_ok m rx
    have hb : lenR x mu P := hb
    unfold lenR at hb
    split at hb
    · rename_i e
      rw [e] at q
      obtain ⟨a, vs, rfl, h, rr⟩ := q.tupE
      rw [rr.length] at hb
      exact call_len_seq pins s st H _ _ Q I r ⟨a, vs, rfl, .inr h.sq, k.same m hb (.int _)⟩
    · rename_i e
      rw [e] at q
      obtain ⟨a, vs, rfl, h, rr⟩ := q.lstE
      rw [rr.length] at hb
      exact call_len_seq pins s st H _ _ Q I r ⟨a, vs, rfl, .inl (SqL.of h), k.same m hb (.int _)⟩
    · rename_i t kvs e
      rw [e] at q
      cases t with
      | false =>
        obtain ⟨a, ks, rfl, h, rr⟩ := q.dKE
        cases ru
        rw [rr.length] at hb
        exact d_len I h fun t s' I' => ⟨.int _, H, I', ⟨_, rfl⟩, k.same m hb (.int _)⟩
      | true =>
        obtain ⟨a, ks, rfl, h, rr⟩ := q.dTE
        rw [rr.length] at hb
        cases ru
        obtain ⟨hd, z, ys, rel, dd⟩ := dt_X I.hok h rr.keys
        have hl : ks.length = ys.length := Paired.length rel
        refine call_len_dictH hd dd (by rw [← hl]; rw [sizeLine_eq] at z; omega) ?_
        rw [← hl]
        exact ⟨.int _, H, I.tok _, ⟨_, rfl⟩, k.same m hb (.int _)⟩
    · rename_i z e
      rw [e] at q
      cases q with
      | flat r' _ =>
        cases r'
        exact call_len_str pins s st H _ _ Q I r ⟨_, rfl, hb.1, k.same m hb.2 (.int _)⟩
    · exact hb.elim
theorem abs_ok : CallR X (.builtin "abs") (upN X.kx (bifR .abs)) := by
  intro pins s st H vs us Q I r h
  obtain ⟨ws, mu, P, rs, m, hb, k⟩ := h
  match ws, rs, hb with
  | [.int i], rs, hb =>
    obtain ⟨v, rfl, rx⟩ := rs.one
    cases rx
    exact call_abs pins s st H _ us Q I r ⟨i, rfl, k.same m hb (.int _)⟩
theorem max2_ok (hc : X.calm = true) : CallR X (.builtin "max") (upN X.kx (bifR .max2)) := by
  intro pins s st H vs us Q I r h
  obtain ⟨ws, mu, P, rs, m, hb, k⟩ := h
  match ws, rs, hb with
  | [.int i, .int j], rs, hb =>
    obtain ⟨v, u, rfl, rx, ry⟩ := rs.two
    cases rx; cases ry
    exact call_max2 hc pins s st H _ us Q I r ⟨i, j, rfl, k.same m hb (.int _)⟩
theorem min2_ok (hc : X.calm = true) : CallR X (.builtin "min") (upN X.kx (bifR .min2)) := by
  intro pins s st H vs us Q I r h
  obtain ⟨ws, mu, P, rs, m, hb, k⟩ := h
  match ws, rs, hb with
  | [.int i, .int j], rs, hb =>
    obtain ⟨v, u, rfl, rx, ry⟩ := rs.two
    cases rx; cases ry
    exact call_min2 hc pins s st H _ us Q I r ⟨i, j, rfl, k.same m hb (.int _)⟩
theorem int_ok : CallR X (.type "int") (upN X.kx (bifR .int)) := by
  intro pins s st H vs us Q I r h
  obtain ⟨ws, mu, P, rs, m, hb, k⟩ := h
  match ws, rs, hb with
  | [.int i], rs, hb =>
    obtain ⟨v, rfl, rx⟩ := rs.one
    cases rx
    exact call_int1 pins s st H _ us Q I r (.inl ⟨i, rfl, k.same m hb (.int _)⟩)
  | [.bl b], rs, hb =>
    obtain ⟨v, rfl, rx⟩ := rs.one
    cases rx
    exact call_int1 pins s st H _ us Q I r (.inr ⟨b, rfl, k.same m hb (.int _)⟩)
theorem sum_ok (hc : X.calm = true) : CallR X (.builtin "sum") (upN X.kx (bifR .sum)) := by
  intro pins s st H vs us Q I r h
  obtain ⟨ws, mu, P, rs, m, hb, k⟩ := h
  match ws, rs, hb with
  | [x], rs, hb =>
    obtain ⟨v, rfl, rx⟩ := rs.one
    obtain ⟨ws, ns, e1, e2, hp⟩ := hb
    obtain ⟨a, vs, rfl, h, rr⟩ := lstOf_ok m rx e1
    exact cr_sum hc pins s st H _ us Q I r ⟨a, ns, rfl, by rw [← intsOf_rps rr e2]; exact SqL.of h, k.same m hp (.int _)⟩
theorem all_ok (hc : X.calm = true) : CallR X (.builtin "all") (upN X.kx (bifR .all)) := by
  intro pins s st H vs us Q I r h
  obtain ⟨ws, mu, P, rs, m, hb, k⟩ := h
  match ws, rs, hb with
  | [x], rs, hb =>
    obtain ⟨v, rfl, rx⟩ := rs.one
    obtain ⟨ws, ns, e1, e2, hp⟩ := hb
    obtain ⟨a, vs, rfl, h, rr⟩ := lstOf_ok m rx e1
    exact cr_all hc pins s st H _ us Q I r ⟨a, ns, rfl, by rw [← blsOf_rps rr e2]; exact SqL.of h, k.same m hp (.bl _)⟩
theorem any_ok (hc : X.calm = true) : CallR X (.builtin "any") (upN X.kx (bifR .any)) := by
  intro pins s st H vs us Q I r h
  obtain ⟨ws, mu, P, rs, m, hb, k⟩ := h
  match ws, rs, hb with
  | [x], rs, hb =>
    obtain ⟨v, rfl, rx⟩ := rs.one
    obtain ⟨ws, ns, e1, e2, hp⟩ := hb
    obtain ⟨a, vs, rfl, h, rr⟩ := lstOf_ok m rx e1
    exact cr_any hc pins s st H _ us Q I r ⟨a, ns, rfl, by rw [← blsOf_rps rr e2]; exact SqL.of h, k.same m hp (.bl _)⟩
theorem minL_ok (hc : X.calm = true) : CallR X (.builtin "min") (upN X.kx (bifR .minL)) := by
  intro pins s st H vs us Q I r h
  obtain ⟨ws, mu, P, rs, m, hb, k⟩ := h
  match ws, rs, hb with
  | [x], rs, hb =>
    obtain ⟨v, rfl, rx⟩ := rs.one
    obtain ⟨ws, ns, n, e1, e2, hn, hl, hp⟩ := hb
    obtain ⟨a, vs, rfl, h, rr⟩ := lstOf_ok m rx e1
    exact cr_min hc pins s st H _ us Q I r ⟨a, ns, rfl, by rw [← intsOf_rps rr e2]; exact SqL.of h, List.length_pos_of_mem hn, fun n' h1 h2 => by
      rw [Int.le_antisymm (h2 n hn) (hl n' h1)]
      exact k.same m hp (.int _)⟩
theorem maxL_ok (hc : X.calm = true) : CallR X (.builtin "max") (upN X.kx (bifR .maxL)) := by
  intro pins s st H vs us Q I r h
  obtain ⟨ws, mu, P, rs, m, hb, k⟩ := h
  match ws, rs, hb with
  | [x], rs, hb =>
    obtain ⟨v, rfl, rx⟩ := rs.one
    obtain ⟨ws, ns, n, e1, e2, hn, hl, hp⟩ := hb
    obtain ⟨a, vs, rfl, h, rr⟩ := lstOf_ok m rx e1
    exact cr_max hc pins s st H _ us Q I r ⟨a, ns, rfl, by rw [← intsOf_rps rr e2]; exact SqL.of h, List.length_pos_of_mem hn, fun n' h1 h2 => by
      rw [Int.le_antisymm (hl n' h1) (h2 n hn)]
      exact k.same m hp (.int _)⟩
theorem tuple_ok : CallR X (.type "tuple") (upN X.kx (bifR .tuple)) := by
  intro pins s st H vs us Q I r h
  obtain ⟨ws, mu, P, rs, m, hb, k⟩ := h
  match ws, rs, hb with
  | [x], rs, hb =>
    obtain ⟨v, rfl, rx⟩ := rs.one
    obtain ⟨w, e, hp⟩ := optQ_some hb
    obtain ⟨ws, e1, rfl⟩ := Option.map_eq_some_iff.mp e
    obtain ⟨a, vs, rfl, h, rr⟩ := itemsOf_ok m rx e1
    rcases h with h | h
    · obtain ⟨u, rfl, ru⟩ := vals1 r
      cases ru
      obtain ⟨its, r', pl, hz⟩ := I.list (SqL.of h)
      have hlen := r'.length
      refine call_tuple_list pl.isList (fun h' kp => ?_) (by simp only [List.size_toArray]; omega)
      exact ep_tup (tk := s.toks) I kp r' hz fun p o hp' hd => k.tup m hp' hd hp rr
    · exact call_tuple_of pins s st H _ us Q I r ⟨a, vs, rfl, .inr ⟨h.sq, k.same m hp (.tup h rr)⟩⟩
theorem lof_ok (own : Bool) : CallR X (.type "list") (upN X.kx fun vs mu Q => match vs with | [x] => ∃ ws, itemsOf mu x = some ws ∧ newL own ws mu Q | _ => False) := by
  intro pins s st H vs us Q I r h
  obtain ⟨ws, mu, P, rs, m, hb, k⟩ := h
  match ws, rs, hb with
  | [x], rs, hb =>
    obtain ⟨v, rfl, rx⟩ := rs.one
    obtain ⟨ws, e1, hp⟩ := hb
    obtain ⟨a, vs, rfl, h, rr⟩ := itemsOf_ok m rx e1
    exact call_list_of pins s st H _ us Q I r ⟨a, vs, rfl, h.imp SqL.of TX.sq, fun l hl => k.nL m hl hp rr⟩
theorem str_ok : CallR X (.type "str") (upN X.kx fun vs mu Q => match vs with | [.int i] => bifR .str [.int i] mu Q | _ => False) := by
  intro pins s st H vs us Q I r h
  obtain ⟨ws, mu, P, rs, m, hb, k⟩ := h
  match ws, rs, hb with
  | [.int i], rs, hb =>
    obtain ⟨v, rfl, rx⟩ := rs.one
    cases rx
    exact call_str_int pins s st H _ us Q I r ⟨i, rfl, hb.1, k.same m hb.2 (.str _)⟩
end
end FF

/-! sorted, len(set()), isinstance, methods. -/
namespace FF
open PySem PySem.Spec PyProof.Rows L2

section
variable {K : Kx} {H H' : Hp} {mu mu' : Mu}
/-- the two ints of a pair -/
def kP (H : Hp) : V → Int × Int
  | .ref t => match H t with
    | some (.frz _ (.tup [.int i, .int j])) => (i, j)
    | _ => (0, 0)
  | _ => (0, 0)
def IsPr (H : Hp) (x : V) : Prop := ∃ t, x = V.ref t ∧ TX H t [.int (kP H x).1, .int (kP H x).2]
theorem pairsOf_rps : ∀ {ws : List W} {vs : List V} {ps : List (Int × Int)}, Rps K H mu ws vs → pairsOf ws = some ps → (∀ x ∈ vs, IsPr H x) ∧ vs.map (kP H) = ps
  | _, _, _, .nil, e => by unfold pairsOf at e; cases e; exact ⟨fun _ h => (nomatch h), rfl⟩
  | w :: ws, _, ps, .cons r t, e => by
    unfold pairsOf at e
    split at e
    · rename_i h; cases h
    · rename_i i j ws' h
      cases h
      obtain ⟨qs, e1, rfl⟩ := Option.map_eq_some_iff.mp e
      obtain ⟨h1, h2⟩ := pairsOf_rps t e1
      cases r with
      | tup hx rx =>
        obtain ⟨v, u, rfl, r1, r2⟩ := rx.two
        cases r1; cases r2
        obtain ⟨o, od, oe⟩ := hx
        rename_i a
        have ek : kP H (.ref a) = (i, j) := by unfold kP; simp only [oe]
        refine ⟨fun x hx' => ?_, by rw [List.map_cons, ek, h2]⟩
        rcases List.mem_cons.mp hx' with z | z
        · subst z
          exact ⟨a, rfl, by rw [ek]; exact ⟨o, od, oe⟩⟩
        · exact h1 x z
    · cases e
theorem Rps.two' {w z : W} {vs : List V} (r : Rps K H mu [w, z] vs) : ∃ v u, vs = [v, u] ∧ Rp K H mu w v ∧ Rp K H mu z u := by
  cases r with | cons r t => cases t with | cons r' t => cases t; exact ⟨_, _, rfl, r, r'⟩
theorem rps_pairs : ∀ {vs : List V}, (∀ x ∈ vs, IsPr H x) → Rps K H mu ((vs.map (kP H)).map pairW) vs
  | [], _ => .nil
  | x :: vs, h => by
    obtain ⟨t, e, ht⟩ := h x (List.mem_cons_self ..)
    refine .cons ?_ (rps_pairs fun y hy => h y (List.mem_cons_of_mem _ hy))
    have q : Rp K H mu (.tup [.int (kP H x).1, .int (kP H x).2]) x := by
      rw [e] at ht ⊢
      exact .tup ht (.cons (.int _) (.cons (.int _) .nil))
    exact q
theorem leP_trans (a b c : Int × Int) (h1 : leP a b = true) (h2 : leP b c = true) : leP a c = true := by
  unfold leP at *
  simp only [Bool.or_eq_true, Bool.and_eq_true, decide_eq_true_eq] at *
  omega
theorem leP_total (a b : Int × Int) : (leP a b || leP b a) = true := by
  unfold leP
  simp only [Bool.or_eq_true, Bool.and_eq_true, decide_eq_true_eq]
  omega
theorem srtP_perm (ns : List (Int × Int)) : (srtP ns).Perm ns := List.mergeSort_perm ns _
theorem srtP_rise (ns : List (Int × Int)) : (srtP ns).Pairwise fun a b => leP a b = true := List.pairwise_mergeSort leP_trans leP_total ns
theorem leP_anti {a b : Int × Int} (h1 : leP a b = true) (h2 : leP b a = true) : a = b := by
  unfold leP at *
  simp only [Bool.or_eq_true, Bool.and_eq_true, decide_eq_true_eq] at *
  exact Prod.ext (by omega) (by omega)
theorem srtP_of {ns ms : List (Int × Int)} (p : ms.Perm ns) (h : ms.Pairwise fun a b => leP a b = true) : ms = srtP ns :=
  List.Perm.eq_of_pairwise (le := fun a b => leP a b = true) (fun x y _ _ h h' => leP_anti h h') h (srtP_rise ns) (p.trans (srtP_perm ns).symm)
theorem srtI_of {ns ms : List Int} (p : ms.Perm ns) (h : ms.Pairwise (· ≤ ·)) : ms = srtI ns := rise_one (p.trans (srtI_perm ns).symm) h (srtI_rise ns)
/-- rising pairs, as the kit says it -/
theorem srtd_leP {k : V → Int × Int} {zs : List V} (h : SrtO.Srtd (ltP k) zs) : (zs.map k).Pairwise fun a b => leP a b = true := by
  refine List.pairwise_map.mpr (List.Pairwise.imp (fun {a b} q => ?_) h)
  have q' := SrtO.lexB_no.mp q
  unfold leP
  simp only [Bool.or_eq_true, Bool.and_eq_true, decide_eq_true_eq]
  omega
end

section
variable {X : Cx} {pins : List (Addr × Obj)} {st : L2.St} {H : Hp} {s : Shared}
/-- sorted, by what collecting gives -/
theorem sorted_any {v : Value} {xs : List V} {Q : VK} (hu : X.A.units + 65 < cLine) (I : Inv X pins st H s) (hz : xs.length ≤ sizeLine)
    (col : ∀ (E : Value → Shared → Prop) (R : List Value → Shared → Prop), (∀ (h' : Heap) (tk : Nat) (its : List Value), (∀ b u, s.heap.get? b = some u → h'.get? b = some u) → Vals xs its → R its { s with heap := h', toks := tk }) → wpAny (model X.prog X.w) X.A.in1 (collect v) R E s)
    (h : (∃ ns : List Int, xs = ns.map V.int ∧ ∀ p, H p = none → Q (.ref p) (upd H p (.lst ((srtI ns).map V.int)))) ∨
      ((∀ x ∈ xs, IsPr H x) ∧ ∀ zs p, (∀ x ∈ zs, IsPr H x) → zs.map (kP H) = srtP (xs.map (kP H)) → H p = none → Q (.ref p) (upd H p (.lst zs)))) :
    wpAny (model X.prog X.w) X.A (call (.builtin "sorted") [v]) (EP X pins st Q) X.xe s := by
  refine Calls.call_function_entry PyProof.Rows.kind_sorted PyProof.Rows.plain_sorted PyProof.Rows.entry_sorted (PyProof.Rows.args_sorted1 _) ?_
  unfold Builtin.«sorted»
  refine wpAny_bind (m := checkCount "sorted" 1 1 _) (wpAny_pure ?_)
  refine wpAny_bind (col _ _ fun h' tk its kp rv => ?_)
  have I1 : Inv X pins st H { s with heap := h', toks := tk } := I.kept kp
  have hsz : its.length ≤ sizeLine := by rw [← rv.length]; exact hz
  refine wpAny_bind (wpAny_newList ?_ hsz)
  have hoL : (h'.push (seqObj "list" its.toArray 0)).get? h'.objs.size = some (seqObj "list" its.toArray 0) := Heap.get?_push_size _ rfl
  show wpAny _ _ _ _ _ { s with heap := h'.push (seqObj "list" its.toArray 0), toks := tk }
  have fin : ∀ (out : List Value) (zs : List V), Vals zs out → zs.length ≤ sizeLine → (∀ p, H p = none → Q (.ref p) (upd H p (.lst zs))) →
      EP X pins st Q (.ref h'.objs.size) { s with heap := PyProof.Rows.sortedHeap (h'.push (seqObj "list" its.toArray 0)) h'.objs.size its out.toArray, toks := tk } := fun out zs ro hzs q => by
    obtain ⟨ep, he'⟩ := PyProof.Rows.sortedHeap_at (vs := its) (out := out.toArray) hoL
    refine ⟨.ref h'.objs.size, upd H h'.objs.size (.lst zs), I1.laid (t' := tk) (fun b u e => ?_) (Nat.le_refl _) ⟨hzs, out, ep, ro, he'⟩, rfl, q _ (I1.hok.fresh (Nat.le_refl _))⟩
    have hb : b < h'.objs.size := Heap.lt_size e
    have e' : (h'.push (seqObj "list" its.toArray 0)).get? b = some u := Heap.get?_push_of_some _ e
    rw [PyProof.Rows.sortedHeap_old (Nat.ne_of_lt hb) (Heap.lt_size e')]
    exact e'
  rcases h with ⟨ns, ex, q⟩ | ⟨hp, q⟩
  · subst ex
    have hi := rv.ints
    refine wpAny_bind (wpAny_holding (wpAny_call_entry PyProof.Rows.slot_list_sort ⟨_, hoL, rfl⟩ PyProof.Rows.entry_list_sort
      (SrtO.list_sort_ord SrtO.swo_int hoL hsz (fun h2 => SrtO.ints_sortable hi h2) fun out h1 h2 => ⟨_, rfl, ?_⟩) (PyProof.Rows.args_list_sort _)))
    obtain ⟨k1, k2, k3⟩ := SrtO.ints_out hi h1 h2
    refine wpAny_pure ⟨_, rfl, fin out _ (vals_of_ints k1) ?_ fun p hp => ?_⟩
    · rw [List.length_map, k2.length_eq]
      rw [List.length_map] at hz
      exact hz
    · rw [srtI_of k2 k3]
      exact q p hp
  · obtain ⟨e1, e2⟩ := refs_back rv fun x m => by
      obtain ⟨t, e, _⟩ := hp x m
      exact ⟨t, e⟩
    have I2 : Inv X pins st H { s with heap := h'.push (seqObj "list" its.toArray 0), toks := tk } := I.kept fun b u e => Heap.get?_push_of_some _ (kp b u e)
    have hp' : ∀ v ∈ its, Srt.IsPair (h'.push (seqObj "list" its.toArray 0)) v (kP H (backV v)).1 (kP H (backV v)).2 := fun v hv => by
      obtain ⟨t, rfl⟩ := e2 v hv
      have hm : V.ref t ∈ xs := by rw [e1]; exact List.mem_map.mpr ⟨_, hv, rfl⟩
      obtain ⟨t', e, ob, _, ht⟩ := hp _ hm
      cases e
      obtain ⟨_, _, its2, r2, o, ho, hc, n, hd⟩ := I2.hok _ _ ht
      obtain ⟨u1, u2, rfl, ri, rj⟩ := vals2 r2
      obtain ⟨t1, rfl⟩ := ri
      obtain ⟨t2, rfl⟩ := rj
      exact ⟨t, o, t1, t2, n, rfl, ho, hc, hd⟩
    refine wpAny_bind (wpAny_holding (wpAny_call_entry PyProof.Rows.slot_list_sort ⟨_, hoL, rfl⟩ PyProof.Rows.entry_list_sort
      (SrtO.list_sort_ord (s := { s with heap := h'.push (seqObj "list" its.toArray 0), toks := tk }) (SrtO.swo_lex fun u => kP H (backV u)) hoL hsz (fun h2 => SrtO.pairs_sortableO (by omega) hp' fun o e => ?_) fun out h1 h2 => ⟨_, rfl, ?_⟩) (PyProof.Rows.args_list_sort _)))
    · have e' : some o = some (seqObj "list" its.toArray 0) := e.symm.trans hoL
      cases e'
      intro c
      exact absurd (Value.type.inj c) (by decide)
    · have h3 : ∀ u ∈ out, ∃ a, u = Value.ref a := fun u hu => e2 u (h2.perm.mem_iff.mp hu)
      have hb : SrtO.Stb (ltP (kP H)) (out.map backV) xs := by
        rw [e1]
        exact SrtO.Stb.map (ltP_swo (kP H)) backV h2
      refine wpAny_pure ⟨_, rfl, fin out _ (vals_back h3) (by rw [hb.len]; exact hz) fun p hpn => q _ p (fun x hx => hp x (hb.perm.mem_iff.mp hx)) ?_ hpn⟩
      exact srtP_of (hb.perm.map _) (srtd_leP (SrtO.srtd_map h1))

/-- collecting a list or a tuple -/
theorem collect_seq {M : Program} {w : World} {A : Around} {E : Value → Shared → Prop} {s : Shared} {T : String} {l : Addr} {o : Obj} {n : Nat} {vs : List Value} {Q : List Value → Shared → Prop} (ho : s.heap.get? l = some o) (hc : o.cls = .type T) (hT : T = "list" ∨ T = "tuple") (hd : o.data = .seq vs.toArray n)
    (h : ∀ h', (∀ b u, s.heap.get? b = some u → h'.get? b = some u) → Q vs { s with heap := h' }) (hsz : vs.length ≤ sizeLine) :
    wpAny (model M w) A (collect (.ref l)) Q E s := by
  unfold collect
  refine wpAny_bind (wpAny_runValue (codeAny_builtin entry_proto_collect' ?_))
  show wpAny _ _ (do again (.builtin "list.__iadd__" ⟨[← newList [], .ref l], []⟩)) _ _ s
  refine wpAny_bind (wpAny_newList (wpAny_pure ⟨Code.quiet_builtin _ (by decide +kernel), codeAny_builtin entry_list_iadd' ?_⟩))
  show wpAny _ _ (Builtin.List.listExtendWith (.ref s.heap.objs.size) (.ref l) (.ref s.heap.objs.size)) _ _ { s with heap := s.heap.push (seqObj "list" #[] 0) }
  unfold Builtin.List.listExtendWith
  have ho1 : (s.heap.push (seqObj "list" #[] 0)).get? l = some o := Heap.get?_push_of_some _ ho
  refine wpAny_bind (wpAny_typeOf (T := T) ⟨o, ho1, hc⟩ ?_)
  have ht : ((Value.type T == Value.type "list") || (Value.type T == Value.type "tuple")) = true := by rcases hT with e | e <;> subst e <;> decide
  rw [if_pos (by rw [Bool.or_assoc, ht, Bool.or_true])]
  refine wpAny_bind (listItems_at ho1 hd ?_)
  refine wpAny_bind (listItems_at (xs := #[]) (n := 0) (Heap.get?_push_size _ rfl) rfl ?_)
  rw [if_neg (by simp)]
  refine wpAny_bind (listUpdate_at (xs := #[]) (n := 0) (Heap.get?_push_size _ rfl) rfl ?_ (Nat.zero_le _) (by show (#[] ++ vs.toArray).size ≤ sizeLine + 1; simp only [Array.size_append, List.size_toArray, List.length_nil]; omega))
  refine wpAny_pure ?_
  show wpAny (model M w) A (do
      let o ← load s.heap.objs.size
      match o.data with
      | .seq xs _ => pure xs.toList
      | _ => unsupported "internal:collect") Q E { s with heap := (s.heap.push (seqObj "list" #[] 0)).update s.heap.objs.size (Obj.mapSeq (· ++ vs.toArray)) }
  refine wpAny_bind (wpAny_load (get?_update_seq (Heap.get?_push_size _ rfl) _) ?_)
  show wpAny _ _ (pure ((#[] : Array Value) ++ vs.toArray).toList) Q E _
  rw [show ((#[] : Array Value) ++ vs.toArray).toList = vs by simp]
  refine wpAny_pure (h _ fun b u e => ?_)
  rw [Heap.get?_update_ne _ _ _ _ (Nat.ne_of_lt (Heap.lt_size e))]
  exact Heap.get?_push_of_some _ e
theorem each_rel {Qe : Nat → Value → Prop} : ∀ {xs : List V} {us : List Value} (i : Nat), us.length = xs.length → (∀ (j : Nat) (v : Value), us[j]? = some v → Qe (i + j) v) → (∀ (j : Nat) (x : V) (v : Value), xs[j]? = some x → Qe (i + j) v → RelV x v) → Vals xs us
  | [], [], _, _, _, _ => .nil
  | x :: xs, u :: us, i, hl, h, g => by
    refine .cons (g 0 x u rfl (h 0 u rfl)) (each_rel (Qe := Qe) (i + 1) (by simpa using hl) (fun j v e => ?_) fun j y v e q => ?_)
    · have q := h (j + 1) v (by simpa using e)
      rw [show i + (j + 1) = i + 1 + j by omega] at q
      exact q
    · refine g (j + 1) y v (by simpa using e) ?_
      rw [show i + (j + 1) = i + 1 + j by omega]
      exact q
  | [], _ :: _, _, hl, _, _ => by simp at hl
  | _ :: _, [], _, hl, _, _ => by simp at hl
theorem col_dK (hc : X.calm = true) (I : Inv X pins st H s) {a : Addr} {ks : List (Key × V)} (h : Rd H a (.dK ks)) {E : Value → Shared → Prop} {R : List Value → Shared → Prop}
    (r : ∀ (h' : Heap) (tk : Nat) (its : List Value), (∀ b u, s.heap.get? b = some u → h'.get? b = some u) → Vals (ks.map fun p => kV p.1) its → R its { s with heap := h', toks := tk }) : wpAny (model X.prog X.w) X.A.in1 (collect (.ref a)) R E s := by
  obtain ⟨z, lo, vs, rel, dd⟩ := dk_rd I.hok h
  obtain ⟨ep, hat⟩ := dd.dictAt
  have hl : ks.length = vs.length := rel.length
  refine PySem.W.kdu_collect (A := X.A.in1) (PySem.W.kdl_dict (knd := mixKind X.prog X.w) (kvs := vs) (ep := ep) lo) (I.ok.hd hc) hat (by rw [← hl]; exact z) fun h' tk acc hk hacc => ?_
  refine r h' tk acc.toList hk (each_rel (Qe := fun i v => ∃ k x, vs[i]? = some (k, x) ∧ keyIs k v = true) 0 ?_ (fun j v e => ?_) fun j x v e q => ?_)
  · rw [Array.length_toList, hacc.1, List.length_map, hl]
  · rw [Nat.zero_add]
    exact hacc.2 j v (by rw [← Array.getElem?_toList]; exact e)
  · rw [Nat.zero_add] at q
    obtain ⟨k, y, e1, e2⟩ := q
    have e3 : (ks.map (·.1))[j]? = some k := by rw [rel.keys, List.getElem?_map, e1]; rfl
    rw [List.getElem?_map] at e e3
    cases e4 : ks[j]? with
    | none => rw [e4] at e; cases e
    | some p =>
      rw [e4] at e e3
      cases e
      cases e3
      rcases keyIs_shape e2 with ⟨i, t, ek, ev⟩ | ⟨zz, t, ek, ev⟩
      · have ek' : p.1 = Sum.inl i := ek
        show RelV (kV p.1) v
        rw [ek', ev]; exact ⟨t, rfl⟩
      · have ek' : p.1 = Sum.inr zz := ek
        show RelV (kV p.1) v
        rw [ek', ev]; exact ⟨t, rfl⟩
/-- a dict whose keys are tuples, for iterating its keys -/
theorem kdl_raw {P : Program} {w : World} {d : Addr} {es : Array DictEntry} {ep : Nat} (lo : (d == sysModules) = false) : PySem.W.KdlSrc P w "dict" d d es.size (fun i v => ∃ hi : i < es.size, v = es[i].key) (fun h => h.DictRaw d es ep) where
  type := fun _ hm => hm.typeIs
  there := fun _ hm => let ⟨_, e, _⟩ := hm; ⟨Heap.lt_size e, Heap.lt_size e⟩
  keep := fun _ _ hm hk => hm.at fun o e => hk d (.inl rfl) o e
  notList := by decide
  notTuple := by decide
  hint := fun _ _ _ _ hm hq => PySem.W.kdl_hint_dict hm.typeIs hq
  iter := fun _ _ hh hm => ⟨_, _, (fun _ _ hq => wpAny_pyIter_dict_raw lo hm hq), Walks.rawKeys hh _ d (let ⟨_, e, _⟩ := hm; Nat.ne_of_lt (Heap.lt_size e)) es ep, ⟨⟨_, Heap.get?_push_size _ rfl, rfl, rfl⟩, hm.at fun o e => Heap.get?_push_of_some _ e⟩⟩
theorem col_dT (hc : X.calm = true) (I : Inv X pins st H s) {a : Addr} {ks : List (List Key × Addr × V)} (h : Rd H a (dTO X.kx a ks)) (hk : ∀ x ∈ ks, TX H x.2.1 (x.1.map kV)) {E : Value → Shared → Prop} {R : List Value → Shared → Prop}
    (r : ∀ (h' : Heap) (tk : Nat) (its : List Value), (∀ b u, s.heap.get? b = some u → h'.get? b = some u) → Vals (ks.map fun p => V.ref p.2.1) its → R its { s with heap := h', toks := tk }) : wpAny (model X.prog X.w) X.A.in1 (collect (.ref a)) R E s := by
  obtain ⟨lo, z, ys, rel, dd⟩ := dt_X I.hok h hk
  obtain ⟨o, es, ep, ho, he, hd, hes, _, _⟩ := dd
  have hl : ks.length = ys.length := Paired.length rel
  have hsz : es.size = ys.length := size_of_entries hes
  refine PySem.W.kdu_collect (A := X.A.in1) (kdl_raw (es := es) (ep := ep) lo) (I.ok.hd hc) ⟨o, ho, he, hd⟩ (by rw [hsz, ← hl]; exact z) fun h' tk acc hk hacc => ?_
  refine r h' tk acc.toList hk (each_rel (Qe := fun i v => ∃ hi : i < es.size, v = es[i].key) 0 ?_ (fun j v e => ?_) fun j x v e q => ?_)
  · rw [Array.length_toList, hacc.1, List.length_map, hl, hsz]
  · rw [Nat.zero_add]
    exact hacc.2 j v (by rw [← Array.getElem?_toList]; exact e)
  · rw [Nat.zero_add] at q
    obtain ⟨hi, ev⟩ := q
    rw [List.getElem?_map] at e
    cases e4 : ks[j]? with
    | none => rw [e4] at e; cases e
    | some p =>
      rw [e4] at e
      cases e
      obtain ⟨b, hb, e1, e2, _⟩ := paired_get rel e4
      have q := entry_at hes j
      rw [hb, Array.getElem?_eq_getElem hi] at q
      rw [ev, Option.some.inj q]
      show (Value.ref b.2.1) = Value.ref p.2.1
      rw [← e2]
end
end FF

/-! isinstance, methods, sorted of all kinds. -/
namespace FF
open PySem PySem.Spec PyProof.Rows L2
section
variable {X : Cx} {pins : List (Addr × Obj)} {st : L2.St} {H : Hp} {mu : Mu} {s : Shared}
theorem seq_obj (I : Inv X pins st H s) {a : Addr} {vs : List V} (h : H a = some (.lst vs) ∨ TX H a vs) : ∃ T o n its, s.heap.get? a = some o ∧ o.cls = .type T ∧ (T = "list" ∨ T = "tuple") ∧ o.data = .seq (its : List Value).toArray n ∧ Vals vs its ∧ vs.length ≤ sizeLine ∧ o.dict = none := by
  rcases h with h | ⟨ob, hd, h⟩
  · obtain ⟨z, its, n, r, e⟩ := I.hok a _ h
    exact ⟨"list", _, n, its, e, rfl, .inl rfl, rfl, r, z, rfl⟩
  · obtain ⟨he, z, its, r, o, e, hc, n, hdt⟩ := I.hok a _ h
    rw [he] at e; cases e
    exact ⟨"tuple", _, n, its, he, hc, .inr rfl, hdt, r, z, hd⟩
theorem col_seq (I : Inv X pins st H s) {a : Addr} {vs : List V} (h : H a = some (.lst vs) ∨ TX H a vs) {E : Value → Shared → Prop} {R : List Value → Shared → Prop}
    (r : ∀ (h' : Heap) (tk : Nat) (its : List Value), (∀ b u, s.heap.get? b = some u → h'.get? b = some u) → Vals vs its → R its { s with heap := h', toks := tk }) : wpAny (model X.prog X.w) X.A.in1 (collect (.ref a)) R E s := by
  obtain ⟨T, o, n, its, e, hc, hT, hd, rv, z, _⟩ := seq_obj I h
  exact collect_seq e hc hT hd (fun h' kp => r h' s.toks its kp rv) (by rw [← rv.length]; exact z)
theorem RKs.keys : ∀ {kvs : List (W × W)} {ks : List (Key × V)}, RKs X.kx H mu kvs ks → Rps X.kx H mu (kvs.map (·.1)) (ks.map fun p => kV p.1)
  | _, _, .nil => .nil
  | _, _, .cons (k := k) r t => .cons (by cases k <;> constructor) (RKs.keys t)
theorem RTs.kx : ∀ {kvs : List (W × W)} {ks : List (List Key × Addr × V)}, RTs X.kx H mu kvs ks → Rps X.kx H mu (kvs.map (·.1)) (ks.map fun p => V.ref p.2.1)
  | _, _, .nil => .nil
  | _, _, .cons h r t => .cons (.tup h (go _)) (RTs.kx t)
where go : ∀ (k : List Key), Rps X.kx H mu (k.map keyW) (k.map kV)
  | [] => .nil
  | k :: ks => .cons (by cases k <;> constructor) (go ks)
theorem sort_fin {P : QW} {Q : VK} {ws : List W} {vs : List V} (m : MRel X.kx H mu) (r : Rps X.kx H mu ws vs) (k : Fin X.kx H mu P Q)
    (h : (∃ ns, intsOf ws = some ns ∧ P (.lst ((srtI ns).map W.int)) mu) ∨ (∃ ps, pairsOf ws = some ps ∧ P (.lst ((srtP ps).map pairW)) mu)) :
    (∃ ns : List Int, vs = ns.map V.int ∧ ∀ p, H p = none → Q (.ref p) (upd H p (.lst ((srtI ns).map V.int)))) ∨
      ((∀ x ∈ vs, IsPr H x) ∧ ∀ zs p, (∀ x ∈ zs, IsPr H x) → zs.map (kP H) = srtP (vs.map (kP H)) → H p = none → Q (.ref p) (upd H p (.lst zs))) := by
  rcases h with ⟨ns, e, hp⟩ | ⟨ps, e, hp⟩
  · exact .inl ⟨ns, intsOf_rps r e, fun p hpn => k.lst m hpn hp (Rps.ints _)⟩
  · obtain ⟨h1, h2⟩ := pairsOf_rps r e
    refine .inr ⟨h1, fun zs p hz ez hpn => ?_⟩
    have q := rps_pairs (K := X.kx) (mu := mu) hz
    rw [ez, h2] at q
    exact k.lst m hpn hp q
theorem sorted_ok (hc : X.calm = true) (hu : X.A.units + 65 < cLine) : CallR X (.builtin "sorted") (upN X.kx (bifR .sorted)) := by
  intro pins s st H vs us Q I r h
  obtain ⟨ws, mu, P, rs, m, hb, k⟩ := h
  match ws, rs, hb with
  | [x], rs, hb =>
    obtain ⟨v, rfl, rx⟩ := rs.one
    obtain ⟨u, rfl, ru⟩ := vals1 r
    have q := vw_ok m rx
    have hb : sortR x mu P := hb
    unfold sortR at hb
    split at hb
    · rename_i ws e
      rw [e] at q
      obtain ⟨a, vs, rfl, h, rr⟩ := q.tupE
      cases ru
      have z : vs.length ≤ sizeLine := by obtain ⟨_, _, _, _, _, _, _, _, _, z, _⟩ := seq_obj I (.inr h); exact z
      exact sorted_any hu I z (fun E R => col_seq I (.inr h)) (sort_fin m rr k hb)
    · rename_i ws e
      rw [e] at q
      obtain ⟨a, vs, rfl, h, rr⟩ := q.lstE
      cases ru
      have z : vs.length ≤ sizeLine := by obtain ⟨_, _, _, _, _, _, _, _, _, z, _⟩ := seq_obj I (.inl h); exact z
      exact sorted_any hu I z (fun E R => col_seq I (.inl h)) (sort_fin m rr k hb)
    · rename_i t kvs e
      rw [e] at q
      cases t with
      | false =>
        obtain ⟨a, ks, rfl, h, rr⟩ := q.dKE
        cases ru
        obtain ⟨z, _⟩ := dk_rd I.hok h
        exact sorted_any hu I (by rw [List.length_map]; exact z) (fun E R => col_dK hc I h) (sort_fin m rr.keys k hb)
      | true =>
        obtain ⟨a, ks, rfl, h, rr⟩ := q.dTE
        cases ru
        obtain ⟨_, z, _⟩ := dt_X I.hok h (FF.RTs.keys rr)
        exact sorted_any hu I (by rw [List.length_map]; exact z) (fun E R => col_dT hc I h (FF.RTs.keys rr)) (sort_fin m rr.kx k hb)
    · exact hb.elim
/-! ### what a value's type is -/
theorem ty_is (I : Inv X pins st H s) {w : W} {v : V} {u : Value} {T : String} (h : Vw X.kx H mu w v) (r : RelV v u) (e : tyW w = some T) : s.TypeIs u T ∧ (T = "list" ∨ T = "tuple" ∨ T = "dict" → ∀ a, u = .ref a → ∃ ob, s.heap.get? a = some ob ∧ ob.dict = none) := by
  cases w with
  | non => cases e; cases h with | flat r' _ => cases r'; cases r; exact ⟨rfl, fun z => by simp at z⟩
  | bl b => cases e; cases h with | flat r' _ => cases r'; cases r; exact ⟨rfl, fun z => by simp at z⟩
  | int b => cases e; cases h with | flat r' _ => cases r'; obtain ⟨t, rfl⟩ := r; exact ⟨rfl, fun z => by simp at z⟩
  | str b => cases e; cases h with | flat r' _ => cases r'; obtain ⟨t, rfl⟩ := r; exact ⟨typeIs_str s b t, fun z => by simp at z⟩
  | tup ws =>
    cases e
    obtain ⟨a, vs, rfl, hx, rr⟩ := h.tupE
    cases r
    obtain ⟨ob, hd, hx⟩ := hx
    obtain ⟨he, z, its, r, o, e, hc, n, hdt⟩ := I.hok a _ hx
    rw [he] at e; cases e
    exact ⟨⟨_, he, hc⟩, fun _ b eb => by cases eb; exact ⟨_, he, hd⟩⟩
  | lst ws =>
    cases e
    obtain ⟨a, vs, rfl, hx, rr⟩ := h.lstE
    cases r
    obtain ⟨z, its, n, r, e⟩ := I.hok a _ hx
    exact ⟨⟨_, e, rfl⟩, fun _ b eb => by cases eb; exact ⟨_, e, rfl⟩⟩
  | dct t kvs =>
    cases e
    cases t with
    | false =>
      obtain ⟨a, vs, rfl, hx, rr⟩ := h.dKE
      cases r
      obtain ⟨_, _, ys, _, o, es, ep, he, hc, _⟩ := dk_rd I.hok hx
      exact ⟨⟨_, he, hc.1⟩, fun _ b eb => by cases eb; exact ⟨_, he, hc.2.1⟩⟩
    | true =>
      obtain ⟨a, vs, rfl, hx, rr⟩ := h.dTE
      cases r
      obtain ⟨_, _, ys, _, o, es, ep, he, hc, _⟩ := dt_X I.hok hx (FF.RTs.keys rr)
      exact ⟨⟨_, he, hc.1⟩, fun _ b eb => by cases eb; exact ⟨_, he, hc.2.1⟩⟩
  | scr ns => cases e
  | ref a => cases e
theorem kit_w (I : Inv X pins st H s) {w : W} {v : V} {u : Value} {T : String} (h : Vw X.kx H mu w v) (r : RelV v u) (e : tyW w = some T) : ∃ P : Heap → Prop, PySem.W.KitX X.K u (.type T) P ∧ P s.heap ∧ u ≠ .builtin "__main__.__loader__#opaque" := by
  cases w with
  | non => cases e; cases h with | flat r' _ => cases r'; cases r; exact ⟨_, PySem.W.kitx_none, True.intro, fun z => nomatch z⟩
  | bl b => cases e; cases h with | flat r' _ => cases r'; cases r; exact ⟨_, PySem.W.kitx_bool, True.intro, fun z => nomatch z⟩
  | int b => cases e; cases h with | flat r' _ => cases r'; obtain ⟨t, rfl⟩ := r; exact ⟨_, PySem.W.kitx_int, True.intro, fun z => nomatch z⟩
  | str b => cases e; cases h with | flat r' _ => cases r'; obtain ⟨t, rfl⟩ := r; exact ⟨_, PySem.W.kitx_str, True.intro, fun z => nomatch z⟩
  | tup ws =>
    have q := (ty_is I h r e).1
    cases e
    obtain ⟨a, vs, rfl, hx, rr⟩ := h.tupE
    cases r
    obtain ⟨o, he, hc⟩ := q
    exact ⟨_, PySem.W.kitx_tuple, ⟨o, he, hc⟩, fun z => nomatch z⟩
  | lst ws =>
    cases e
    obtain ⟨a, vs, rfl, hx, rr⟩ := h.lstE
    cases r
    obtain ⟨z, its, n, r, e⟩ := I.hok a _ hx
    exact ⟨_, PySem.W.kitx_list, ⟨_, e, rfl⟩, fun z => nomatch z⟩
  | dct t kvs =>
    have q := (ty_is I h r e).1
    cases e
    obtain ⟨a, rfl⟩ : ∃ a, v = V.ref a := by
      cases t with
      | false => obtain ⟨a, vs, rfl, hx, rr⟩ := h.dKE; exact ⟨a, rfl⟩
      | true => obtain ⟨a, vs, rfl, hx, rr⟩ := h.dTE; exact ⟨a, rfl⟩
    cases r
    obtain ⟨o, he, hc⟩ := q
    exact ⟨_, PySem.W.kitx_dict, ⟨o, he, hc⟩, fun z => nomatch z⟩
  | scr ns => cases e
  | ref a => cases e
/-- isinstance(x, T) -/
theorem isi_ok (T : String) {x : V} {u : Value} {w : W} {P : QW} {Q : VK} (I : Inv X pins st H s) (rx : RelV x u) (r : Rp X.kx H mu w x) (m : MRel X.kx H mu) (h : bifR (.isi T) [w] mu P) (k : Fin X.kx H mu P Q) :
    wpAny (model X.prog X.w) X.A (call (.builtin "isinstance") [u, .type T]) (EP X pins st Q) X.xe s := by
  obtain ⟨a, b, e1, e2, hp⟩ := h
  obtain ⟨P', Z, p, hx⟩ := kit_w I (vw_ok m r) rx e1
  exact PySem.W.kia_one Z I.kIn p (kit_ty e2) hx fun tk => ⟨.bl b, H, I.tok tk, rfl, k.same m hp (.bl b)⟩

/-! ### methods -/
def idOf : Mt → String
  | .append => "list.append"
  | .extend => "list.extend"
  | .pop => "list.pop"
  | .popAt => "list.pop"
  | .remove => "list.remove"
  | .count => "tuple.count"
  | .get2 => "dict.get"
  | .popD => "dict.pop"
theorem refE {a : Addr} {v : V} (r : Rp X.kx H mu (.ref a) v) : v = V.ref a := by cases r; rfl
theorem intE {a : Int} {v : V} (r : Rp X.kx H mu (.int a) v) : v = V.int a := by cases r; rfl
/-- a list of ours is written -/
theorem wr_lst {P : QW} {Q : VK} {a : Addr} {o : O} {ws : List W} {vs : List V} {w : W} {v : V} (m : MRel X.kx H mu) (e : mu a = some o) (k : Fin X.kx H mu P Q) (h : P w (sett mu a (.lst ws))) (rw' : Rp X.kx H mu w v) (r : Rps X.kx H mu ws vs) : Q v (upd H a (.lst vs)) := by
  have ne : mu a ≠ none := by rw [e]; exact fun z => nomatch z
  have f : Frm H mu (upd H a (.lst vs)) (sett mu a (.lst ws)) := Frm.write m ne
  exact k _ _ _ _ h (rw'.frm m f) (m.write ne ⟨_, upd_same, r.frm m f⟩) f
theorem wr_dK {P : QW} {Q : VK} {a : Addr} {o : O} {ws : List (W × W)} {vs : List (Key × V)} {w : W} {v : V} (m : MRel X.kx H mu) (e : mu a = some o) (k : Fin X.kx H mu P Q) (h : P w (sett mu a (.dct false ws))) (rw' : Rp X.kx H mu w v) (r : RKs X.kx H mu ws vs) : Q v (upd H a (.dK vs)) := by
  have ne : mu a ≠ none := by rw [e]; exact fun z => nomatch z
  have f : Frm H mu (upd H a (.dK vs)) (sett mu a (.dct false ws)) := Frm.write m ne
  exact k _ _ _ _ h (rw'.frm m f) (m.write ne ⟨_, upd_same, r.frm m f⟩) f
theorem wr_dT {P : QW} {Q : VK} {a : Addr} {o : O} {ws : List (W × W)} {vs : List (List Key × Addr × V)} {w : W} {v : V} (m : MRel X.kx H mu) (e : mu a = some o) (k : Fin X.kx H mu P Q) (h : P w (sett mu a (.dct true ws))) (rw' : Rp X.kx H mu w v) (r : RTs X.kx H mu ws vs) : Q v (upd H a (dTO X.kx a vs)) := by
  have ne : mu a ≠ none := by rw [e]; exact fun z => nomatch z
  have f : Frm H mu (upd H a (dTO X.kx a vs)) (sett mu a (.dct true ws)) := Frm.write m ne
  exact k _ _ _ _ h (rw'.frm m f) (m.write ne ⟨_, upd_same, r.frm m f⟩) f
/-- d.pop(k, z), keys tuples -/
theorem dt_pop {A : Around} {E : Value → Shared → Prop} {Q : Value → Shared → Prop} {a b : Addr} {z : Value} {xs : List (List Key × Addr × V)} {kk : List Key} (hu : A.units + 1 < cLine) (I : Inv X pins st H s) (e : H a = some (dTO X.kx a xs)) (hk : ∀ x ∈ xs, TX H x.2.1 (x.1.map kV)) (eb : TX H b (kk.map kV))
    (q1 : ∀ v w' s', vlT xs kk = some v → RelV v w' → Inv X pins st (upd H a (dTO X.kx a (dropT xs kk))) s' → Q w' s') (q2 : ∀ s', vlT xs kk = none → Inv X pins st H s' → Q z s') :
    wpAny (model X.prog X.w) A (call (.builtin "dict.pop") [.ref a, .ref b, z]) Q E s := by
  obtain ⟨hd, hz, ys, rel, dd⟩ := dt_X I.hok (.inl e) hk
  have hz' : ys.length ≤ sizeLine := by rw [← Paired.length rel]; exact hz
  refine call_meetsIn PySem.F.slot_dict_pop dd.typeIs PySem.F.entry_dict_pop (PySem.F.args_dict_pop_3 _ _ _) (DT.meetsPop (knd := tupleKind (mixKind X.prog X.w)) (k := kk) z hd)
    ⟨ys, tupleKind_room_in1 hu, key_X I.hok eb, dd, hz', fun hn tk => ?_, fun p hp h' tk dd' hs => ?_⟩
  · have r := rel.val kk
    rw [hn] at r
    refine q2 _ ?_ (I.tok tk)
    cases ev : vlT xs kk with
    | none => rfl
    | some v0 =>
      rw [ev] at r
      exact (show False from r).elim
  · have r := rel.val kk
    rw [hp] at r
    obtain ⟨v0, ev, rv⟩ : ∃ v0, vlT xs kk = some v0 ∧ RelV v0 p.2 := by
      cases ev : vlT xs kk with
      | none =>
        rw [ev] at r
        exact (show False from r).elim
      | some v0 =>
        rw [ev] at r
        exact ⟨v0, rfl, r⟩
    obtain ⟨o, es, ep, hq, h2, h3, h4, _, h5⟩ := dd'
    refine q1 v0 p.2 _ ev rv (d_write I (by rw [e]; exact True.intro) hs ⟨o, hq⟩ (dTO_ok ⟨hd, ?_, _, rel.drop, o, es, ep, hq, h2, h3, h4, h5⟩))
    exact Nat.le_trans (List.length_filter_le _ _) hz
theorem ints_of {ws : List W} {vs : List V} {ns : List Int} (r : Rps X.kx H mu ws vs) (e : intsOf ws = some ns) {its : List Value} (rv : Vals vs its) : IntsAre its ns := by
  rw [intsOf_rps r e] at rv
  exact rv.ints
theorem mth_ok (mt : Mt) (hc : X.calm = true) (hu : X.A.units + 65 < cLine) {x : V} {xs : List V} {v : Value} {us : List Value} {w : W} {ws : List W} {P : QW} {Q : VK} (I : Inv X pins st H s) (rx : RelV x v) (rv : Vals xs us) (ra : Rp X.kx H mu w x) (rs : Rps X.kx H mu ws xs) (m : MRel X.kx H mu)
    (h : mthR mt w ws mu P) (k : Fin X.kx H mu P Q) : wpAny (model X.prog X.w) X.A (call (.builtin (idOf mt)) (v :: us)) (EP X pins st Q) X.xe s := by
  unfold mthR at h
  split at h
  · rename_i a y
    obtain ⟨l, e, hz, hp⟩ := h
    cases refE ra
    obtain ⟨yv, rfl, ry⟩ := rs.one
    obtain ⟨vs, hv, r⟩ := m a _ e
    exact mt_append pins s st H _ _ v us Q I rx rv ⟨a, vs, yv, rfl, rfl, hv, by rw [← r.length]; exact hz, wr_lst m e k hp .non (r.append (.cons ry .nil))⟩
  · rename_i a y
    obtain ⟨l, zs, e, ey, hz, hp⟩ := h
    cases refE ra
    obtain ⟨yv, rfl, ry⟩ := rs.one
    obtain ⟨vs, hv, r⟩ := m a _ e
    have q := vw_ok m ry
    rw [ey] at q
    obtain ⟨b, bs, rfl, hb, rb⟩ := q.lstE
    exact mt_extend pins s st H _ _ v us Q I rx rv ⟨a, b, vs, bs, rfl, rfl, hv, hb, by rw [← r.length, ← rb.length]; exact hz, wr_lst m e k hp .non (r.append rb)⟩
  · rename_i a
    obtain ⟨l, y, e, hp⟩ := h
    cases refE ra
    cases rs
    obtain ⟨vs, hv, r⟩ := m a _ e
    have hl := r.length
    rw [List.length_append, List.length_singleton] at hl
    obtain ⟨yv, ey, ry⟩ := r.get (i := l.length) (w := y) (by simp)
    have rd := r.dropLast
    rw [List.dropLast_concat] at rd
    exact mt_pop pins s st H _ _ v us Q I rx rv ⟨a, vs, yv, rfl, rfl, hv, by rw [← hl]; exact ey, wr_lst m e k hp ry rd⟩
  · rename_i a i
    obtain ⟨l, y, e, h0, h1, ey, hp⟩ := h
    cases refE ra
    obtain ⟨iv, rfl, ri⟩ := rs.one
    cases intE ri
    obtain ⟨vs, hv, r⟩ := m a _ e
    obtain ⟨yv, ey', ry⟩ := r.get ey
    have hlt : i.toNat < vs.length := (List.getElem?_eq_some_iff.mp ey').1
    refine mt_popAt pins s st H _ _ v us Q I rx rv ⟨a, vs, i, i.toNat, yv, rfl, rfl, hv, by omega, by omega, ?_, ey', wr_lst m e k hp ry (r.eraseIdx _)⟩
    unfold seqIndex?
    have e1 : (if i < 0 then i + (vs.length : Int) else i) = i := if_neg (by omega)
    simp only [e1]
    rw [if_pos (by simp only [Bool.and_eq_true, decide_eq_true_eq]; omega)]
  · rename_i a i
    obtain ⟨ns, e, hin, hp⟩ := h
    cases refE ra
    obtain ⟨iv, rfl, ri⟩ := rs.one
    cases intE ri
    obtain ⟨vs, hv, r⟩ := m a _ e
    cases Rps.ints_inv r
    obtain ⟨j, j1, j2, j3, j4⟩ := first_at hin
    refine mt_remove pins s st H _ _ v us Q I rx rv ⟨a, ns, i, j, rfl, rfl, hv, j2, j3, ?_⟩
    rw [j4]
    exact wr_lst m e k hp .non (Rps.ints _)
  · rename_i l i
    obtain ⟨ns, e, hp⟩ := h
    obtain ⟨iv, rfl, ri⟩ := rs.one
    cases intE ri
    cases ra with
    | tup hx r =>
      rename_i a vs
      obtain ⟨u, rfl, ru⟩ := vals1 rv
      cases rx
      obtain ⟨t, rfl⟩ := ru
      obtain ⟨ob, hd, hx⟩ := hx
      obtain ⟨_, z, its, rv', ⟨cls, dd, data, sl⟩, ho, hc, n, hdt⟩ := I.hok a _ hx
      simp only at hc hdt
      subst hc hdt
      have hi := ints_of r e rv'
      refine call_meets PySem.F.slot_tuple_count ⟨_, ho, rfl⟩ PySem.F.entry_tuple_count (PySem.F.args_tuple_count_2 _ _)
        (SeqAt.tuple_countAt a its.toArray n dd sl (.int i t) (eqk i)) ⟨ho, fun y hy => (eqk_gives hi y (by simpa using hy)).at _ _, ?_⟩
      have ec : its.toArray.toList.countP (eqk i) = ns.count i := eqk_count hi
      refine ⟨.int (ns.count i : Nat), H, I.tok _, ⟨s.toks, ?_⟩, k.same m hp (.int _)⟩
      rw [← ec] <;> rfl
  · rename_i d y z
    obtain ⟨t, kvs, dk, e, e1, e2, hp⟩ := h
    obtain ⟨yv, zv, rfl, ry, rz⟩ := rs.two
    have q := vw_ok m ra
    rw [e] at q
    obtain ⟨p, o, rfl, g, oo⟩ := dget_ok q ry e1 e2
    obtain ⟨u1, u2, rfl, r1, r2⟩ := vals2 rv
    cases rx
    exact d_getD (by omega) I g r1 r2 fun w' s' I' rw' => ⟨_, H, I', rw', k.same m hp (oo.getD rz)⟩
  · rename_i a y z
    obtain ⟨t, kvs, dk, e, e1, e2, hp⟩ := h
    cases refE ra
    obtain ⟨yv, zv, rfl, ry, rz⟩ := rs.two
    obtain ⟨u1, u2, rfl, r1, r2⟩ := vals2 rv
    cases rx
    have q := m a _ e
    cases dk with
    | k kk =>
      obtain rfl : t = false := e2.symm
      obtain ⟨ks, hv, r⟩ := q
      have oo := r.val kk
      cases dkOf_k ry e1
      split at hp
      · rename_i w' ew
        rw [ew] at oo
        obtain ⟨vv, ev, rvv⟩ := oo.someE
        exact d_pop I hv r1 ev (.inr ⟨u2, rfl⟩) fun w1 s' I' rw1 => ⟨vv, _, I', rw1, wr_dK m e k hp rvv (r.drop kk)⟩
      · rename_i ew
        rw [ew] at oo
        have ev : valV ks kk = none := by
          cases z : valV ks kk with
          | none => rfl
          | some _ => rw [z] at oo; cases oo
        exact d_popD I hv r1 ev fun s' I' => ⟨zv, H, I', r2, k.same m hp rz⟩
    | t kk =>
      obtain rfl : t = true := e2.symm
      obtain ⟨ks, hv, r⟩ := q
      have oo := r.val kk
      obtain ⟨b, rfl, hb⟩ := dkOf_t ry e1
      cases r1
      refine dt_pop (by omega) I hv (FF.RTs.keys r) hb (fun v1 w1 s' ev rv1 I' => ?_) fun s' ev I' => ?_
      · rw [ev] at oo
        split at hp
        · rename_i w' ew
          rw [ew] at oo
          cases oo with
          | some rr => exact ⟨v1, _, I', rv1, wr_dT m e k hp rr (r.drop kk)⟩
        · rename_i ew
          rw [ew] at oo
          cases oo
      · rw [ev] at oo
        split at hp
        · rename_i w' ew
          rw [ew] at oo
          cases oo
        · exact ⟨zv, H, I', r2, k.same m hp rz⟩
  · exact h.elim
end
end FF

/-! Expressions: what their parts ask makes what they ask. -/
namespace FF
open PySem PySem.Spec PyProof.Rows L2
abbrev TW := Tau → Mu → QW → Prop
abbrev AW := Tau → Mu → (List W → Mu → Prop) → Prop
abbrev CW := Tau → Mu → (Bool → Mu → Prop) → Prop
abbrev OW := Tau → Mu → (Option Int → Mu → Prop) → Prop
section
variable {K : Kx}
theorem Fin.pre {H H1 : Hp} {mu mu1 : Mu} {P : QW} {Q : VK} (k : Fin K H mu P Q) (f : Frm H mu H1 mu1) : Fin K H1 mu1 P Q := fun w mu' v H' hp r m g => k w mu' v H' hp r m (f.trans g)
theorem getS_ok {t : Tau} {i : Nat} {R : W → Prop} (h : getS t i R) : ∃ w, t[i]? = some (some w) ∧ R w := by
  unfold getS at h
  split at h
  · rename_i w e; exact ⟨w, e, h⟩
  · exact h.elim
theorem bin2 (r : W → W → Mu → QW → Prop) (ta tb : TW) : ∀ (s : L2.St) (H : Hp) (Q : VK), up K (fun t mu P => ta t mu fun x mu1 => tb t mu1 fun y mu2 => r x y mu2 P) s H Q → tOp (up2 K r) (up K ta) (up K tb) s H Q := by
  rintro s H Q ⟨t, mu, P, S, h, k⟩
  refine ⟨t, mu, _, S, h, fun x mu1 v H1 hx rx m1 f1 => ⟨t, mu1, _, S.step f1 m1, hx, fun y mu2 u H2 hy ry m2 f2 => ?_⟩⟩
  exact ⟨x, y, mu2, P, rx.frm m1 f2, ry, m2, hy, k.pre (f1.trans f2)⟩
end
section
variable {X : Cx}
theorem PE.mn {e : Expr} {t t' : TE} (h : PE X e t) (i : ∀ s H Q, t' s H Q → t s H Q) : PE X e t' := ⟨fun pins s st H Q I hw => h.run pins s st H Q I (i st H Q hw)⟩
theorem PA.mn {e : List Expr} {t t' : TA} (h : PA X e t) (i : ∀ s H Q, t' s H Q → t s H Q) : PA X e t' := ⟨fun pos pins s st H Q I hw => h.run pos pins s st H Q I (i st H Q hw)⟩
theorem PT.mn {e : Expr} {t t' : TT} (h : PT X e t) (i : ∀ s H Q, t' s H Q → t s H Q) : PT X e t' := ⟨fun pins s st H Q I hw => h.run pins s st H Q I (i st H Q hw)⟩
theorem PW.mn {e : Expr} {t t' : TT} (h : PW X e t) (i : ∀ s H Q, t' s H Q → t s H Q) : PW X e t' := ⟨fun wh pins s st H Q I hw => h.run wh pins s st H Q I (i st H Q hw)⟩
theorem PTs.mn {e : List Expr} {t t' : TT} (h : PTs X e t) (i : ∀ s H Q, t' s H Q → t s H Q) : PTs X e t' := ⟨fun pins s st H Q I hw => h.run pins s st H Q I (i st H Q hw)⟩
theorem PO.mn {e : Option Expr} {t t' : TO} (h : PO X e t) (i : ∀ s H Q, t' s H Q → t s H Q) : PO X e t' := ⟨fun pins s st H Q I hw => h.run pins s st H Q I (i st H Q hw)⟩
variable {a b c : Expr} {ta tb tc : TW} {pos p : Pos} {x : Str}
theorem w_var {i : Nat} (hN : X.N[i]? = some x) (hv : Vis X.env.scope x) (hd : (x == ("__debug__" : Str)) = false) (hcd : (x == ("__classdict__" : Str)) = false) : PE X (.Name x pos) (up X.kx fun t mu P => getS t i fun w => P w mu) :=
  PE.mn (pe_var hN hv hd hcd) fun s H Q ⟨t, mu, P, S, h, k⟩ => let ⟨w, e, hp⟩ := getS_ok h; let ⟨v, e1, r⟩ := S.get i w e; ⟨v, e1, k.same S.m hp r⟩
theorem w_con {cn : Cn} {k : Const} {j : Nat} (h : matC cn k = true) : PE X (.Constant k j pos) (up X.kx fun _ mu P => P cn.w mu) := by
  cases cn <;> cases k <;> simp only [matC, Bool.false_eq_true] at h
  · exact PE.mn pe_non fun s H Q ⟨t, mu, P, S, h, k⟩ => k.same S.m h .non
  · cases (by simpa using h : _ = _)
    exact PE.mn pe_bl fun s H Q ⟨t, mu, P, S, h, k⟩ => k.same S.m h (.bl _)
  · cases (by simpa using h : _ = _)
    exact PE.mn pe_int fun s H Q ⟨t, mu, P, S, h, k⟩ => k.same S.m h (.int _)
  · cases (by simpa using h : _ = _)
    exact PE.mn pe_str fun s H Q ⟨t, mu, P, S, h, k⟩ => k.same S.m h (.str _)
theorem w_glb {w : W} {v : V} {u : Value} (hg : Gl X x) (hm : X.mg x = some u) (r : RelV v u) (q : ∀ H mu, Rp X.kx H mu w v) (hd : (x == ("__debug__" : Str)) = false) : PE X (.Name x pos) (up X.kx fun _ mu P => P w mu) :=
  PE.mn (pe_glob hg hm r hd) fun s H Q ⟨t, mu, P, S, h, k⟩ => k.same S.m h (q H mu)
theorem w_bin {op : Operator} (ha : PE X a (up X.kx ta)) (hb : PE X b (up X.kx tb)) : PE X (.BinOp a op b pos) (up X.kx fun t mu P => ta t mu fun x mu1 => tb t mu1 fun y mu2 => binR op x y mu2 P) :=
  PE.mn (pe_op (bin_ok op) ha hb) (bin2 _ _ _)
theorem w_neg (ha : PE X a (up X.kx ta)) : PE X (.UnaryOp .USub a pos) (up X.kx fun t mu P => ta t mu fun x mu1 => match x with | .int i => P (.int (-i)) mu1 | _ => False) :=
  PE.mn (pe_un un_neg ha) fun s H Q ⟨t, mu, P, S, h, k⟩ => ⟨t, mu, _, S, h, fun x mu1 v H1 hx rx m1 f1 => by
    split at hx
    · cases rx
      exact ⟨_, rfl, (k.pre f1).same m1 hx (.int _)⟩
    · exact hx.elim⟩
theorem w_inv (ha : PE X a (up X.kx ta)) : PE X (.UnaryOp .Invert a pos) (up X.kx fun t mu P => ta t mu fun x mu1 => match x with | .int i => P (.int (Builtin.bitNot i)) mu1 | _ => False) :=
  PE.mn (pe_un un_inv ha) fun s H Q ⟨t, mu, P, S, h, k⟩ => ⟨t, mu, _, S, h, fun x mu1 v H1 hx rx m1 f1 => by
    split at hx
    · cases rx
      exact ⟨_, rfl, (k.pre f1).same m1 hx (.int _)⟩
    · exact hx.elim⟩
theorem w_cmp {op : CmpOp} (hu : X.A.units + 65 < cLine) (ha : PE X a (up X.kx ta)) (hb : PE X b (up X.kx tb)) (hm : behindInMarks op b = false) : PE X (.Compare a [op] [b] pos) (up X.kx fun t mu P => ta t mu fun x mu1 => tb t mu1 fun y mu2 => cmpR op x y mu2 P) :=
  PE.mn (pe_cmpR (cmp_ok op hu) ha hb hm) (bin2 _ _ _)
/-- of a value that is a truth -/
theorem bl_of {K : Kx} {H : Hp} {mu : Mu} {w : W} {v : V} {R : Bool → Prop} (h : match w with | .bl b => R b | _ => False) (r : Rp K H mu w v) : ∃ k, w = .bl k ∧ v = .bl k ∧ R k := by
  cases r <;> first
    | exact h.elim
    | exact ⟨_, rfl, rfl, h⟩
theorem w_valT {e : Expr} (he : PT X e (fun s H Q => up X.kx ta s H fun x H1 => ∃ k, x = V.bl k ∧ Q k H1)) : PT X e (upT X.kx fun t mu P => ta t mu fun w mu1 => match w with | .bl b => P b mu1 | _ => False) :=
  PT.mn he fun s H Q ⟨t, mu, P, S, h, k⟩ => ⟨t, mu, _, S, h, fun w mu1 v H1 hw rw1 m1 f1 => by
    obtain ⟨b, rfl, rfl, hp⟩ := bl_of (R := fun b => P b mu1) hw rw1
    exact ⟨b, rfl, k b mu1 H1 hp m1 f1⟩⟩
theorem w_cmpT {op : CmpOp} (hu : X.A.units + 65 < cLine) (ha : PE X a (up X.kx ta)) (hb : PE X b (up X.kx tb)) (hm : behindInMarks op b = false) : PT X (.Compare a [op] [b] pos) (upT X.kx fun t mu P => ta t mu fun x mu1 => tb t mu1 fun y mu2 => cmpR op x y mu2 fun w mu3 => match w with | .bl b => P b mu3 | _ => False) :=
  w_valT (ta := fun t mu P => ta t mu fun x mu1 => tb t mu1 fun y mu2 => cmpR op x y mu2 P) (PT.mn (pt_cmpR (cmp_ok op hu) ha hb hm) fun s H Q h => bin2 _ _ _ s H _ h)
theorem chn3 (r1 r2 : W → W → Mu → QW → Prop) {K : Kx} : ∀ (s : L2.St) (H : Hp) (Q : VK), up K (fun t mu P => ta t mu fun x mu1 => tb t mu1 fun y mu2 => r1 x y mu2 fun r mu3 =>
      ∃ k, r = .bl k ∧ if k = true then tc t mu3 fun z mu4 => r2 y z mu4 P else P (.bl false) mu3) s H Q → tChain (up2 K r1) (up2 K r2) (up K ta) (up K tb) (up K tc) s H Q := by
  rintro s H Q ⟨t, mu, P, S, h, k⟩
  refine ⟨t, mu, _, S, h, fun x mu1 v H1 hx rx m1 f1 => ⟨t, mu1, _, S.step f1 m1, hx, fun y mu2 u H2 hy ry m2 f2 => ?_⟩⟩
  refine ⟨x, y, mu2, _, rx.frm m1 f2, ry, m2, hy, fun w mu3 z H3 hw rz m3 f3 => ?_⟩
  obtain ⟨d, rfl, hd⟩ := hw
  cases rz
  refine ⟨d, rfl, ?_⟩
  cases d with
  | true =>
    refine ⟨t, mu3, _, (S.step (f1.trans f2) m2).step f3 m3, hd, fun z' mu4 u' H4 hz' rz' m4 f4 => ?_⟩
    exact ⟨y, z', mu4, P, (ry.frm m2 f3).frm m3 f4, rz', m4, hz', k.pre ((f1.trans f2).trans (f3.trans f4))⟩
  | false => exact (k.pre ((f1.trans f2).trans f3)).same m3 hd (.bl false)
theorem w_chn {o1 o2 : CmpOp} (hu : X.A.units + 65 < cLine) (ha : PE X a (up X.kx ta)) (hb : PE X b (up X.kx tb)) (hc : PE X c (up X.kx tc)) (hm : lastMarks [o1, o2] [b, c] = false) :
    PE X (.Compare a [o1, o2] [b, c] pos) (up X.kx fun t mu P => ta t mu fun x mu1 => tb t mu1 fun y mu2 => cmpR o1 x y mu2 fun r mu3 => ∃ k, r = .bl k ∧ if k = true then tc t mu3 fun z mu4 => cmpR o2 y z mu4 P else P (.bl false) mu3) :=
  PE.mn (pe_chain (cmp_ok o1 hu) (cmp_ok o2 hu) ha hb hc hm) (chn3 _ _)
theorem w_chnT {o1 o2 : CmpOp} (hu : X.A.units + 65 < cLine) (ha : PE X a (up X.kx ta)) (hb : PE X b (up X.kx tb)) (hc : PE X c (up X.kx tc)) (hm : lastMarks [o1, o2] [b, c] = false) :
    PT X (.Compare a [o1, o2] [b, c] pos) (upT X.kx fun t mu P => ta t mu fun x mu1 => tb t mu1 fun y mu2 => cmpR o1 x y mu2 fun r mu3 => ∃ k, r = .bl k ∧ if k = true then tc t mu3 fun z mu4 => cmpR o2 y z mu4 (fun w mu3 => match w with | .bl b => P b mu3 | _ => False) else P false mu3) :=
  PT.mn (w_valT (ta := fun t mu P => ta t mu fun x mu1 => tb t mu1 fun y mu2 => cmpR o1 x y mu2 fun r mu3 => ∃ k, r = .bl k ∧ if k = true then tc t mu3 fun z mu4 => cmpR o2 y z mu4 P else P (.bl false) mu3) (PT.mn (pt_chain (cmp_ok o1 hu) (cmp_ok o2 hu) ha hb hc hm) fun s H Q h => chn3 _ _ s H _ h)) fun s H Q h => h
/-! tests -/
variable {u1 u2 u3 : CW}
theorem w_not (ha : PT X a (upT X.kx u1)) : PT X (.UnaryOp .Not a pos) (upT X.kx fun t mu P => u1 t mu fun k mu1 => P (!k) mu1) :=
  PT.mn (pt_not ha) fun s H Q ⟨t, mu, P, S, h, k⟩ => ⟨t, mu, _, S, h, fun d mu1 H1 hd m1 f1 => k (!d) mu1 H1 hd m1 f1⟩
theorem w_andW {rest : List Expr} (ha : PT X a (upT X.kx u1)) (hb : PW X (.BoolOp .And (b :: rest) pos) (upT X.kx u2)) : PW X (.BoolOp .And (a :: b :: rest) pos) (upT X.kx fun t mu P => u1 t mu fun k mu1 => if k = true then u2 t mu1 P else P false mu1) :=
  PW.mn (pw_and ha hb) fun s H Q ⟨t, mu, P, S, h, k⟩ => ⟨t, mu, _, S, h, fun d mu1 H1 hd m1 f1 => by
    cases d with
    | true => exact ⟨t, mu1, P, S.step f1 m1, hd, fun d' mu2 H2 hd' m2 f2 => k d' mu2 H2 hd' m2 (f1.trans f2)⟩
    | false => exact k false mu1 H1 hd m1 f1⟩
theorem w_orW {rest : List Expr} (ha : PT X a (upT X.kx u1)) (hb : PW X (.BoolOp .Or (b :: rest) pos) (upT X.kx u2)) : PW X (.BoolOp .Or (a :: b :: rest) pos) (upT X.kx fun t mu P => u1 t mu fun k mu1 => if k = true then P true mu1 else u2 t mu1 P) :=
  PW.mn (pw_or ha hb) fun s H Q ⟨t, mu, P, S, h, k⟩ => ⟨t, mu, _, S, h, fun d mu1 H1 hd m1 f1 => by
    cases d with
    | false => exact ⟨t, mu1, P, S.step f1 m1, hd, fun d' mu2 H2 hd' m2 f2 => k d' mu2 H2 hd' m2 (f1.trans f2)⟩
    | true => exact k true mu1 H1 hd m1 f1⟩
/-- a truth as a value -/
abbrev upV (u : CW) : TW := fun t mu P => u t mu fun k mu1 => P (.bl k) mu1
theorem blE {K : Kx} {H : Hp} {mu : Mu} {k : Bool} {v : V} (r : Rp K H mu (.bl k) v) : v = .bl k := by cases r; rfl
theorem w_notV (ha : PE X a (up X.kx (upV u1))) : PE X (.UnaryOp .Not a pos) (up X.kx (upV fun t mu P => u1 t mu fun k mu1 => P (!k) mu1)) :=
  PE.mn (pe_not ha) fun s H Q ⟨t, mu, P, S, h, k⟩ => ⟨t, mu, fun w mu1 => match w with | .bl d => P (.bl (!d)) mu1 | _ => False, S, h, fun w mu1 v H1 hw rw1 m1 f1 => by
    obtain ⟨d, rfl, rfl, hp⟩ := bl_of (R := fun d => P (.bl (!d)) mu1) hw rw1
    exact ⟨d, rfl, (k.pre f1).same m1 hp (.bl _)⟩⟩
theorem w_andV {rest : List Expr} (ha : PE X a (up X.kx (upV u1))) (hb : PE X (.BoolOp .And (b :: rest) pos) (up X.kx (upV u2))) : PE X (.BoolOp .And (a :: b :: rest) pos) (up X.kx (upV fun t mu P => u1 t mu fun k mu1 => if k = true then u2 t mu1 P else P false mu1)) :=
  PE.mn (pe_and ha hb) fun s H Q ⟨t, mu, P, S, h, k⟩ => ⟨t, mu, fun w mu1 => match w with | .bl d => (if d = true then u2 t mu1 fun k mu2 => P (.bl k) mu2 else P (.bl false) mu1) | _ => False, S, h, fun w mu1 v H1 hw rw1 m1 f1 => by
    obtain ⟨d, rfl, rfl, hp⟩ := bl_of (R := fun d => if d = true then u2 t mu1 fun k mu2 => P (.bl k) mu2 else P (.bl false) mu1) hw rw1
    refine ⟨d, rfl, ?_⟩
    cases d with
    | true => exact ⟨t, mu1, P, S.step f1 m1, hp, k.pre f1⟩
    | false => exact (k.pre f1).same m1 hp (.bl _)⟩
theorem w_orV {rest : List Expr} (ha : PE X a (up X.kx (upV u1))) (hb : PE X (.BoolOp .Or (b :: rest) pos) (up X.kx (upV u2))) : PE X (.BoolOp .Or (a :: b :: rest) pos) (up X.kx (upV fun t mu P => u1 t mu fun k mu1 => if k = true then P true mu1 else u2 t mu1 P)) :=
  PE.mn (pe_or ha hb) fun s H Q ⟨t, mu, P, S, h, k⟩ => ⟨t, mu, fun w mu1 => match w with | .bl d => (if d = true then P (.bl true) mu1 else u2 t mu1 fun k mu2 => P (.bl k) mu2) | _ => False, S, h, fun w mu1 v H1 hw rw1 m1 f1 => by
    obtain ⟨d, rfl, rfl, hp⟩ := bl_of (R := fun d => if d = true then P (.bl true) mu1 else u2 t mu1 fun k mu2 => P (.bl k) mu2) hw rw1
    refine ⟨d, rfl, ?_⟩
    cases d with
    | false => exact ⟨t, mu1, P, S.step f1 m1, hp, k.pre f1⟩
    | true => exact (k.pre f1).same m1 hp (.bl _)⟩
theorem w_valV (ha : PE X a (up X.kx ta)) : PE X a (up X.kx (upV fun t mu P => ta t mu fun w mu1 => match w with | .bl b => P b mu1 | _ => False)) :=
  PE.mn ha fun s H Q ⟨t, mu, P, S, h, k⟩ => ⟨t, mu, _, S, h, fun w mu1 v H1 hw rw1 m1 f1 => by
    obtain ⟨b, rfl, rfl, hp⟩ := bl_of (R := fun b => P (.bl b) mu1) hw rw1
    exact (k.pre f1).same m1 hp (.bl _)⟩
theorem w_ifx (hc : PT X c (upT X.kx u1)) (ha : PE X a (up X.kx ta)) (hb : PE X b (up X.kx tb)) : PE X (.IfExp c a b pos) (up X.kx fun t mu P => u1 t mu fun k mu1 => if k = true then ta t mu1 P else tb t mu1 P) :=
  PE.mn (pe_ifExp hc ha hb) fun s H Q ⟨t, mu, P, S, h, k⟩ => ⟨t, mu, _, S, h, fun d mu1 H1 hd m1 f1 => by
    cases d with
    | true => exact ⟨t, mu1, P, S.step f1 m1, hd, k.pre f1⟩
    | false => exact ⟨t, mu1, P, S.step f1 m1, hd, k.pre f1⟩⟩
/-! argument lists -/
variable {es : List Expr} {tas : AW}
theorem w_nil : PA X [] (upA X.kx fun _ mu P => P [] mu) := PA.mn pa_nil fun s H Q ⟨t, mu, P, S, h, k⟩ => k [] mu [] H h .nil S.m (Frm.refl _ _)
theorem w_cons (ha : PE X a (up X.kx ta)) (hr : PA X es (upA X.kx tas)) (hs : starEach (a :: es) X.env = (false, eval a X.env) :: starEach es X.env) : PA X (a :: es) (upA X.kx fun t mu P => ta t mu fun w mu1 => tas t mu1 fun ws mu2 => P (w :: ws) mu2) :=
  PA.mn (pa_cons ha hr hs) fun s H Q ⟨t, mu, P, S, h, k⟩ => ⟨t, mu, _, S, h, fun w mu1 v H1 hw rw1 m1 f1 => ⟨t, mu1, _, S.step f1 m1, hw, fun ws mu2 vs H2 hws rws m2 f2 =>
    k (w :: ws) mu2 (v :: vs) H2 hws (.cons (rw1.frm m1 f2) rws) m2 (f1.trans f2)⟩⟩
/-- the wish behind a list of values -/
theorem upA_fin {s : L2.St} {H : Hp} {r : List W → Mu → QW → Prop} {R : List V → Hp → Prop} {Q : VK} (h : up X.kx (fun t mu P => tas t mu fun ws mu1 => r ws mu1 P) s H Q)
    (g : ∀ ws vs mu1 H1 P, r ws mu1 P → Rps X.kx H1 mu1 ws vs → MRel X.kx H1 mu1 → Fin X.kx H1 mu1 P Q → R vs H1) : upA X.kx tas s H R :=
  let ⟨t, mu, P, S, h, k⟩ := h
  ⟨t, mu, _, S, h, fun ws mu1 vs H1 hws rws m1 f1 => g ws vs mu1 H1 P hws rws m1 (k.pre f1)⟩
theorem w_tup {j : Nat} (ha : PA X es (upA X.kx tas)) : PE X (.Tuple es j pos) (up X.kx fun t mu P => tas t mu fun ws mu1 => ws.length ≤ sizeLine ∧ P (.tup ws) mu1) := by
  refine ⟨fun pins s st H Q I h => ?_⟩
  refine wpAny_Tuple_spliced (thn (ha.run pos pins s st H (fun vs H1 => vs.length ≤ sizeLine ∧ ∀ p o, H1 p = none → o.dict = none → Q (.ref p) (upd H1 p (.frz o (.tup vs)))) I ?_) fun us s1 ⟨vs, H1, I1, r, z, q⟩ => ⟨by rw [← r.length]; exact z, ?_⟩)
  · exact upA_fin (r := fun ws mu1 P => ws.length ≤ sizeLine ∧ P (.tup ws) mu1) h fun ws vs mu1 H1 P hw rr m k => ⟨by rw [← rr.length]; exact hw.1, fun p o hp hd => k.tup m hp hd hw.2 rr⟩
  · exact ep_tup (tk := s1.toks) I1 (fun _ _ h => h) r z q
theorem w_mk {own : Bool} (ha : PA X es (upA X.kx tas)) : PE X (.List es pos) (up X.kx fun t mu P => tas t mu fun ws mu1 => newL own ws mu1 P) :=
  PE.mn (pe_lst ha) fun s H Q h => upA_fin (r := fun ws mu1 P => newL own ws mu1 P) h fun ws vs mu1 H1 P hw rr m k => ⟨by rw [← rr.length]; exact hw.1, fun p hp => k.nL m hp hw rr⟩
theorem w_callB {id : String} {r : List W → Mu → QW → Prop} (hc : CallR X (.builtin id) (upN X.kx r)) (hg : Gl X x) (hm : X.mg x = none) (hv : bootBuiltins x = some (.builtin id)) (ha : PA X (a :: es) (upA X.kx tas)) (hn : x ≠ "__name__") (hdb : (x == ("__debug__" : Str)) = false)
    (he : starEach (a :: es) X.env = (false, eval a X.env) :: starEach es X.env) (hpl : (backTo pos (starEach es X.env)).any (·.1) = false) : PE X (.Call (.Name x p) (a :: es) [] pos) (up X.kx fun t mu P => tas t mu fun ws mu1 => r ws mu1 P) :=
  PE.mn (pe_callB hc hg hm hv ha hn hdb he hpl) fun s H Q h => upA_fin (r := r) h fun ws vs mu1 H1 P hw rr m k => ⟨ws, mu1, P, rr, m, hw, k⟩
theorem w_callT {T : String} {r : List W → Mu → QW → Prop} (hc : CallR X (.type T) (upN X.kx r)) (hg : Gl X x) (hm : X.mg x = none) (hv : bootBuiltins x = some (.type T)) (ha : PA X (a :: es) (upA X.kx tas)) (hn : x ≠ "__name__") (hdb : (x == ("__debug__" : Str)) = false)
    (he : starEach (a :: es) X.env = (false, eval a X.env) :: starEach es X.env) (hpl : (backTo pos (starEach es X.env)).any (·.1) = false) : PE X (.Call (.Name x p) (a :: es) [] pos) (up X.kx fun t mu P => tas t mu fun ws mu1 => r ws mu1 P) :=
  PE.mn (pe_callTy hc hg hm hv ha hn hdb he hpl) fun s H Q h => upA_fin (r := r) h fun ws vs mu1 H1 P hw rr m k => ⟨ws, mu1, P, rr, m, hw, k⟩
theorem w_idx (hu : X.A.units + 65 < cLine) (ha : PE X a (up X.kx ta)) (hb : PE X b (up X.kx tb)) (hs : PlainIx b) : PE X (.Subscript a b pos) (up X.kx fun t mu P => ta t mu fun x mu1 => tb t mu1 fun y mu2 => idxR x y mu2 P) :=
  PE.mn (idx_ok hu ha hb hs) (bin2 _ _ _)
/-! slices -/
def upO (K : Kx) (t : OW) : TO := fun s H Q => ∃ ta mu P, SR K s ta H mu ∧ t ta mu P ∧ ∀ o mu' H', P o mu' → MRel K H' mu' → Frm H mu H' mu' → Q o H'
variable {o1 o2 : OW} {lo hi : Option Expr}
theorem w_oN : PO X none (upO X.kx fun _ mu P => P none mu) := PO.mn po_none fun s H Q ⟨t, mu, P, S, h, k⟩ => k none mu H h S.m (Frm.refl _ _)
theorem w_oS (ha : PE X a (up X.kx ta)) : PO X (some a) (upO X.kx fun t mu P => ta t mu fun w mu1 => match w with | .int i => P (some i) mu1 | _ => False) :=
  PO.mn (po_some ha) fun s H Q ⟨t, mu, P, S, h, k⟩ => ⟨t, mu, _, S, h, fun w mu1 v H1 hw rw1 m1 f1 => by
    split at hw
    · cases rw1
      exact ⟨_, rfl, k _ mu1 H1 hw m1 f1⟩
    · exact hw.elim⟩
theorem w_sl {own : Bool} {p2 : Pos} (ha : PE X a (up X.kx ta)) (hl : PO X lo (upO X.kx o1)) (hh : PO X hi (upO X.kx o2)) : PE X (.Subscript a (.Slice lo hi none p2) pos) (up X.kx fun t mu P => ta t mu fun x mu1 => o1 t mu1 fun l mu2 => o2 t mu2 fun h mu3 => slR own x l h mu3 P) :=
  PE.mn (pe_slice (sl_ok own) ha hl hh) fun s H Q ⟨t, mu, P, S, h, k⟩ => ⟨t, mu, _, S, h, fun w mu1 v H1 hw rw1 m1 f1 => ⟨t, mu1, _, S.step f1 m1, hw, fun l mu2 H2 hl m2 f2 =>
    ⟨t, mu2, _, (S.step f1 m1).step f2 m2, hl, fun h mu3 H3 hh m3 f3 => ⟨w, mu3, P, (rw1.frm m1 f2).frm m2 f3, m3, hh, k.pre ((f1.trans f2).trans f3)⟩⟩⟩⟩
end
end FF

/-! Expressions, second part. -/
namespace FF
open PySem PySem.Spec PyProof.Rows L2
section
variable {K : Kx} {H : Hp} {mu : Mu}
/-- pairs (tuple key, value) in a list -/
theorem pairsT : ∀ {ws : List W} {vs : List V} {ps : List (W × W)}, Rps K H mu ws vs → dctOf ws = some ps → (∀ p ∈ ps, ∃ k, dkOf p.1 = some (.t k)) →
    ∃ (ts : List Addr) (qs : List (List Key × Addr × V)), vs = ts.map V.ref ∧ Paired (fun t q => TX H t [.ref q.2.1, q.2.2]) ts qs ∧ RTs K H mu ps qs
  | _, _, _, .nil, e, _ => by unfold dctOf at e; cases e; exact ⟨[], [], rfl, .nil, .nil⟩
  | w :: ws, _, ps, .cons r t, e, hk => by
    unfold dctOf at e
    split at e
    · rename_i h; cases h
    · rename_i k v ws' h
      cases h
      obtain ⟨qs', e1, rfl⟩ := Option.map_eq_some_iff.mp e
      obtain ⟨ts, qs, rfl, hp, rt⟩ := pairsT t e1 fun p hp => hk p (List.mem_cons_of_mem _ hp)
      obtain ⟨kk, ek⟩ := hk (k, v) (List.mem_cons_self ..)
      cases r with
      | tup hx rx =>
        obtain ⟨kv, vv, rfl, rk, rv⟩ := rx.two
        rename_i a
        obtain ⟨b, rfl, hb⟩ := dkOf_t rk ek
        cases dkOf_t_eq ek
        exact ⟨a :: ts, (kk, b, vv) :: qs, rfl, .cons hx hp, .cons hb rv rt⟩
    · cases e
def putAllT (xs more : List (List Key × Addr × V)) : List (List Key × Addr × V) := more.foldl (fun acc q => putT acc q.1 q.2.1 q.2.2) xs
theorem RTs.merge : ∀ {ps : List (W × W)} {qs : List (List Key × Addr × V)} {acc : List (W × W)} {xs : List (List Key × Addr × V)}, RTs K H mu ps qs → RTs K H mu acc xs → RTs K H mu (dmerge acc ps) (putAllT xs qs)
  | _, _, _, _, .nil, q => q
  | _, _, _, _, .cons h r t, q => by
    unfold dmerge putAllT
    rw [List.foldl_cons, List.foldl_cons]
    have e := dkOf_tup
    simp only [e]
    exact RTs.merge t (q.put (e _) h r)
theorem putAllT_len : ∀ (more xs : List (List Key × Addr × V)), (putAllT xs more).length ≤ xs.length + more.length
  | [], xs => Nat.le_refl _
  | q :: more, xs => by
    have h1 := putAllT_len more (putT xs q.1 q.2.1 q.2.2)
    have h2 := length_putT xs q.1 q.2.1 q.2.2
    rw [List.length_cons]
    show (putAllT (putT xs q.1 q.2.1 q.2.2) more).length ≤ _
    omega
theorem PTT.merge : ∀ {qs : List (List Key × Addr × V)} {rs : List (List Key × Addr × Value)} {xs : List (List Key × Addr × V)} {ys : List (List Key × Addr × Value)}, PTT qs rs → PTT xs ys → PTT (putAllT xs qs) (storedAllH ys rs)
  | _, _, _, _, .nil, q => q
  | q :: qs, r :: rs, xs, ys, .cons h t, g => by
    obtain ⟨h1, h2, h3⟩ := h
    have g' : PTT (putT xs q.1 q.2.1 q.2.2) (storedH ys r.1 r.2.1 r.2.2) := by rw [← h1, ← h2]; exact FF.PTT.put h3 g
    show PTT (putAllT (putT xs q.1 q.2.1 q.2.2) qs) (storedAllH (storedH ys r.1 r.2.1 r.2.2) rs)
    exact PTT.merge t g'
end
section
variable {X : Cx} {pins : List (Addr × Obj)} {st : L2.St} {H : Hp} {mu : Mu} {s : Shared}
theorem pairs_vals (I : Inv X pins st H s) : ∀ {ts : List Addr} {qs : List (List Key × Addr × V)}, Paired (fun t q => TX H t [.ref q.2.1, q.2.2]) ts qs →
    ∃ rs : List (List Key × Addr × Value), PTT qs rs ∧ rs.length = ts.length ∧ ∀ (j : Nat) y, rs[j]? = some y → ∃ t, ts[j]? = some t ∧ s.heap.IsTuple t #[.ref y.2.1, y.2.2]
  | _, _, .nil => ⟨[], .nil, rfl, fun j y e => by simp at e⟩
  | _, _, .cons (a := t) (b := q) h r => by
    obtain ⟨rs, h1, h2, h3⟩ := pairs_vals I r
    obtain ⟨its, rv, ht, _⟩ := I.tuple h.sq
    obtain ⟨u, y, rfl, ru, ry⟩ := vals2 rv
    cases ru
    refine ⟨(q.1, q.2.1, y) :: rs, .cons ⟨rfl, rfl, ry⟩ h1, by rw [List.length_cons, List.length_cons, h2], fun j z e => ?_⟩
    cases j with
    | zero => cases e; exact ⟨t, rfl, ht⟩
    | succ j =>
      obtain ⟨t', e1, e2⟩ := h3 j z (by simpa using e)
      exact ⟨t', by simpa using e1, e2⟩
theorem ptt_keys : ∀ {qs : List (List Key × Addr × V)} {rs : List (List Key × Addr × Value)}, PTT qs rs → (∀ x ∈ qs, TX H x.2.1 (x.1.map kV)) → ∀ x ∈ rs, TX H x.2.1 (x.1.map kV)
  | _, _, .nil, _ => fun x hx => nomatch hx
  | _, _, .cons h t, hk => fun x hx => by
    obtain ⟨e1, e2, _⟩ := h
    rcases List.mem_cons.mp hx with z | z
    · subst z
      have q := hk _ (List.mem_cons_self ..)
      rw [e1, e2] at q
      exact q
    · exact ptt_keys t (fun y hy => hk y (List.mem_cons_of_mem _ hy)) x z
theorem dcp_ok (own : Bool) (hc : X.calm = true) (hu : X.A.units + 65 < cLine) : CallR X (.type "dict") (upN X.kx fun vs mu Q => match vs with | [x] => dcpR own x mu Q | _ => False) := by
  intro pins s st H vs us Q I r h
  obtain ⟨ws, mu, P, rs, m, hb, k⟩ := h
  match ws, rs, hb with
  | [x], rs, hb =>
    obtain ⟨v, rfl, rx⟩ := rs.one
    obtain ⟨u, rfl, ru⟩ := vals1 r
    obtain ⟨ws, ps, e1, e2, hk, hp⟩ := hb
    obtain ⟨a, vs, rfl, ha, rr⟩ := lstOf_ok m rx e1
    cases ru
    obtain ⟨ts, qs, rfl, hpr, rt⟩ := pairsT rr e2 hk
    obtain ⟨z, its, n, rv, ho⟩ := I.hok a _ ha
    have ei := refs_at rv
    subst ei
    rw [List.length_map] at z
    obtain ⟨rs', h1, h2, h3⟩ := pairs_vals I hpr
    have hkk : ∀ x ∈ qs, TX H x.2.1 (x.1.map kV) := FF.RTs.keys rt
    have hsm : (s.heap.objs.size == sysModules) = false := beq_eq_false_iff_ne.mpr (Nat.ne_of_gt I.big)
    have his : ∀ x ∈ rs', TX H x.2.1 (x.1.map kV) := ptt_keys h1 hkk
    have hrel : ∀ (i : Nat) key v, PairRel (rs'.map fun y => (Value.ref y.2.1, y.2.2)) i key v → ∃ kk b, rs'[i]? = some (kk, b, v) ∧ key = Value.ref b := fun i key v e => by
      have e' : (rs'.map fun y => (Value.ref y.2.1, y.2.2))[i]? = some (key, v) := e
      rw [List.getElem?_map] at e'
      cases q : rs'[i]? with
      | none => rw [q] at e'; cases e'
      | some y => rw [q] at e'; cases e'; exact ⟨_, _, rfl, rfl⟩
    refine call_dict_pairsH (knd := tupleKind (mixKind X.prog X.w)) (ps := rs') (PairArg.list a (ts.map Value.ref).toArray (fun j => ts.getD j 0) (rs'.map fun y => (Value.ref y.2.1, y.2.2))) (I.ok.hd hc) (by show X.A.units + 1 + 1 < cLine; omega) ⟨⟨_, _, ho, rfl, rfl, rfl⟩, ?_, ?_⟩ ⟨by rw [List.length_map], hrel⟩ (fun h' kp x hx => ?_) (by rw [List.length_map, h2]; exact z) fun h' tk dd hs => ?_
    · rw [List.size_toArray, List.length_map, List.length_map, h2]
    · intro j kk v e
      rw [List.getElem?_map] at e
      cases q : rs'[j]? with
      | none => rw [q] at e; cases e
      | some y =>
        rw [q] at e; cases e
        obtain ⟨t, e3, ht⟩ := h3 j y q
        have e4 : ts.getD j 0 = t := by rw [List.getD_eq_getElem?_getD, e3]; rfl
        refine ⟨?_, .inl ?_⟩
        · show (ts.map Value.ref).toArray[j]? = some (Value.ref (ts.getD j 0))
          rw [e4, List.getElem?_toArray, List.getElem?_map, e3]; rfl
        · show s.heap.IsTuple (ts.getD j 0) _
          rw [e4]; exact ht
    · have hb := his x hx
      obtain ⟨o, its, n, g1, g2⟩ := key_X (P := X.prog) (w := X.w) I.hok hb
      exact ⟨o, its, n, kp _ o (Nat.ne_of_lt (Heap.lt_size g1)) (fun z => nomatch z) g1, g2⟩
    · have kp : ∀ b o, s.heap.get? b = some o → h'.get? b = some o := fun b o e => hs b o (fun z => nomatch z) e
      have rt' : RTs X.kx H mu (dmerge [] ps) (putAllT [] qs) := FF.RTs.merge rt .nil
      obtain ⟨o, es, ep, d1, d2, d3, d4, _, d5⟩ := dd
      have hl : (putAllT [] qs).length ≤ sizeLine := by
        have q := putAllT_len qs []
        have e : qs.length = rs'.length := Paired.length h1
        rw [List.length_nil] at q
        omega
      exact ⟨.ref s.heap.objs.size, upd H s.heap.objs.size (dTO X.kx s.heap.objs.size (putAllT [] qs)), I.laid (t' := tk) kp (Nat.le_refl _) (dTO_ok ⟨hsm, hl, _, FF.PTT.merge h1 .nil, o, es, ep, d1, d2, d3, d4, d5⟩), rfl, k.nT m (I.hok.fresh (Nat.le_refl _)) hp rt'⟩

/-! range -/
theorem rng_rps {K : Kx} {H : Hp} {mu : Mu} (lo : Int) (n : Nat) : Rps K H mu (rngW lo n) ((List.range n).map fun i => V.int (lo + (i : Nat))) := by
  unfold rngW
  generalize List.range n = l
  induction l with
  | nil => exact .nil
  | cons k l ih => exact .cons (.int _) ih
variable {a b c o : Expr} {ta tb tc : TW} {pos p p2 q : Pos} {x : Str} {es : List Expr} {tas : AW}
theorem w_lrg {own : Bool} (hc : X.calm = true) (hg : Gl X "list") (hm : X.mg "list" = none) (hg2 : Gl X "range") (hm2 : X.mg "range" = none) (ha : PE X a (up X.kx ta)) (na : starEach [a] X.env = (false, eval a X.env) :: starEach [] X.env)
    (na2 : starEach [.Call (.Name "range" p2) [a] [] q] X.env = (false, eval (.Call (.Name "range" p2) [a] [] q) X.env) :: starEach [] X.env := by rfl) :
    PE X (.Call (.Name "list" p) [.Call (.Name "range" p2) [a] [] q] [] pos) (up X.kx fun t mu Q => ta t mu fun x mu1 => ∃ j : Int, x = .int j ∧ (-1000000 ≤ j ∧ j ≤ 1000000) ∧ newL own (rngW 0 j.toNat) mu1 Q) :=
  PE.mn (pe_listRg (te := tRg1 (up X.kx ta)) hc hg hm (prg_1 hg2 hm2 ha na) na2) fun s H Q ⟨t, mu, P, S, h, k⟩ => ⟨t, mu, _, S, h, fun w mu1 v H1 hw rw1 m1 f1 => by
    obtain ⟨j, rfl, hj, hl⟩ := hw
    cases rw1
    have q := rng_rps (K := X.kx) (H := H1) (mu := mu1) 0 j.toNat
    refine ⟨j, rfl, ⟨by omega, by omega, by omega, by omega, by omega⟩, fun p hp => ?_⟩
    unfold rgV
    rw [Int.sub_zero]
    exact (k.pre f1).nL m1 hp hl q⟩
theorem w_trg (hc : X.calm = true) (hg : Gl X "tuple") (hm : X.mg "tuple" = none) (hg2 : Gl X "range") (hm2 : X.mg "range" = none) (ha : PE X a (up X.kx ta)) (hb : PE X b (up X.kx tb)) (na : starEach [a, b] X.env = (false, eval a X.env) :: starEach [b] X.env)
    (nb : starEach [b] X.env = (false, eval b X.env) :: starEach [] X.env) (hp : (backTo q (starEach [b] X.env)).any (·.1) = false)
    (na2 : starEach [.Call (.Name "range" p2) [a, b] [] q] X.env = (false, eval (.Call (.Name "range" p2) [a, b] [] q) X.env) :: starEach [] X.env := by rfl) :
    PE X (.Call (.Name "tuple" p) [.Call (.Name "range" p2) [a, b] [] q] [] pos) (up X.kx fun t mu Q => ta t mu fun x mu1 => tb t mu1 fun y mu2 => trgR x y mu2 Q) := by
  refine ⟨fun pins s st H Q I h => ?_⟩
  obtain ⟨t, mu, P, S, h, k⟩ := h
  have he : PRg X (.Call (.Name "range" p2) [a, b] [] q) (tRg2 (up X.kx ta) (up X.kx tb)) := prg_2 hg2 hm2 ha hb na nb hp
  refine Call_ (ld_blt I hg hm boot_tuple (PyProof.Rows.callWith_type1 (args_cons (thn (he pins s st H (fun a b H1 => ∃ mu1, (-1000000 ≤ a ∧ a ≤ 1000000 ∧ -1000000 ≤ b ∧ b ≤ 1000000) ∧ P (.tup (rngW a (b - a).toNat)) mu1 ∧ MRel X.kx H1 mu1 ∧ Frm H mu H1 mu1) I ?_) fun x s1 ⟨r, a, b, t', u, v, H1, ex, hr, I1, mu1, hb, hl, m1, f1⟩ => args_nil ?_) na2) na2))
  · exact ⟨t, mu, _, S, h, fun w mu1 v H1 hw rw1 m1 f1 => ⟨t, mu1, _, S.step f1 m1, hw, fun z mu2 u H2 hz rz m2 f2 => by
      obtain ⟨i, j, rfl, rfl, hj, hl⟩ := hz
      cases rw1; cases rz
      exact ⟨i, j, rfl, rfl, mu2, hj, hl, m2, f1.trans f2⟩⟩⟩
  · subst ex
    obtain ⟨b1, b2, b3, b4⟩ := hb
    refine call_tuple_range (n := (b - a).toNat) (I1.ok.hd hc) hr (small_one (by omega) (by omega) (by omega) (by omega)) (rangeSize_nat a b) (by omega) fun h' tk acc hk hi => ?_
    have hv : Vals (rgV a b) acc.toList := vals_rg hi
    have hz : (rgV a b).length ≤ sizeLine := by rw [rgV_length, sizeLine_eq]; omega
    have e := ep_tup (tk := tk) (Q := Q) I1 hk hv hz fun p o hp hd => (k.pre f1).tup m1 hp hd hl (rng_rps a (b - a).toNat)
    rw [Array.toArray_toList] at e
    exact e
/-! {} -/
theorem w_dnw {own t : Bool} : PE X (.Dict [] [] pos) (up X.kx fun _ mu P => newD own t [] mu P) := by
  refine ⟨fun pins s st H Q I h => ?_⟩
  obtain ⟨ta, mu, P, S, h, k⟩ := h
  cases t with
  | false => exact (pe_dnewK (pos := pos)).run pins s st H Q I fun p hp => k.nD S.m hp h .nil
  | true =>
    have hsm : (s.heap.objs.size == sysModules) = false := beq_eq_false_iff_ne.mpr (Nat.ne_of_gt I.big)
    exact wpAny_Dict_empty ⟨.ref s.heap.objs.size, _, I.laid (a := s.heap.objs.size) (o := dTO X.kx s.heap.objs.size []) (t' := s.toks) (fun _ _ q => Heap.get?_push_of_some _ q) (Nat.le_refl _)
      (dTO_ok ⟨hsm, Nat.zero_le _, [], .nil, _, #[], 0, Heap.get?_push_size _ rfl, ⟨rfl, rfl, rfl⟩, rfl, rfl, List.nodup_nil⟩), rfl, k.nT S.m (I.hok.fresh (Nat.le_refl _)) h .nil⟩
/-! methods -/
theorem mt_facts (m : Mt) : PlainAttrs m.ty ∧ Slot m.ty m.nm (idOf m) ∧ typeOf (.builtin (idOf m)) = pure (.type "method_descriptor") ∧ (m.ty = "list" ∨ m.ty = "tuple" ∨ m.ty = "dict") := by
  cases m
  · exact ⟨PySem.F.plainAttrs_list, PySem.F.slot_list_append, PySem.F.type_list_append, .inl rfl⟩
  · exact ⟨PySem.F.plainAttrs_list, PySem.F.slot_list_extend, PySem.F.type_list_extend, .inl rfl⟩
  · exact ⟨PySem.F.plainAttrs_list, PySem.F.slot_list_pop, PySem.F.type_list_pop, .inl rfl⟩
  · exact ⟨PySem.F.plainAttrs_list, PySem.F.slot_list_pop, PySem.F.type_list_pop, .inl rfl⟩
  · exact ⟨PySem.F.plainAttrs_list, PySem.F.slot_list_remove, PySem.F.type_list_remove, .inl rfl⟩
  · exact ⟨PySem.F.plainAttrs_tuple, PySem.F.slot_tuple_count, PySem.F.type_tuple_count, .inr (.inl rfl)⟩
  · exact ⟨PySem.F.plainAttrs_dict, PySem.F.slot_dict_get, PySem.F.type_dict_get, .inr (.inr rfl)⟩
  · exact ⟨PySem.F.plainAttrs_dict, PySem.F.slot_dict_pop, PySem.F.type_dict_pop, .inr (.inr rfl)⟩
theorem w_mth {m : Mt} {apos cpos : Pos} (hc : X.calm = true) (hu : X.A.units + 65 < cLine) (ho : PE X o (up X.kx ta)) (ha : PA X (a :: es) (upA X.kx tas)) (hbase : attributeBase o m.nm X.env (eval o X.env) = eval o X.env)
    (hfew : ((backTo cpos (starEach (a :: es) X.env)).all (fun x => !x.1) && (backToKw cpos (keywordEach [] X.env)).all (fun x => x.1.isSome)
      && decide ((a :: es).length + ([] : List Keyword).length + (if ([] : List Keyword).isEmpty then 0 else 1) < 30)) = true)
    (hline : (apos.endLine == cpos.line) = true) (hs : starEach (a :: es) X.env = (false, eval a X.env) :: starEach es X.env) (hplain : (backTo cpos (starEach es X.env)).any (·.1) = false) :
    PE X (.Call (.Attribute o m.nm apos) (a :: es) [] cpos) (up X.kx fun t mu P => ta t mu fun x mu1 => tyW (vw mu1 x) = some m.ty ∧ tas t mu1 fun ws mu2 => mthR m x ws mu2 P) := by
  obtain ⟨f1, f2, f3, f4⟩ := mt_facts m
  refine ⟨fun pins s st H Q I h => ?_⟩
  obtain ⟨t, mu, P, S, h, k⟩ := h
  refine wpAny_Call_method_late hbase hfew hline rfl (thn (ho.run pins s st H (fun v H1 => ∃ x mu1, Rp X.kx H1 mu1 x v ∧ MRel X.kx H1 mu1 ∧ Frm H mu H1 mu1 ∧ tyW (vw mu1 x) = some m.ty ∧ tas t mu1 fun ws mu2 => mthR m x ws mu2 P) I ⟨t, mu, _, S, h, fun x mu1 v H1 hx rx m1 g1 => ⟨x, mu1, rx, m1, g1, hx.1, hx.2⟩⟩) fun v s1 ⟨xv, H1, I1, r1, x, mu1, rx, m1, g1, ty, hx⟩ => ?_)
  obtain ⟨h1, h2⟩ := ty_is I1 (vw_ok m1 rx) r1 ty
  refine ⟨m.ty, idOf m, f1, f2, f3, h1, h2 f4, ?_⟩
  have hA := ha.run cpos pins s1 st H1 (fun vs H2 => ∃ ws mu2, Rps X.kx H2 mu2 ws vs ∧ Rp X.kx H2 mu2 x xv ∧ MRel X.kx H2 mu2 ∧ Frm H mu H2 mu2 ∧ mthR m x ws mu2 P) I1 ⟨t, mu1, _, S.step g1 m1, hx, fun ws mu2 vs H2 hw rw2 m2 g2 => ⟨ws, mu2, rw2, rx.frm m1 g2, m2, g1.trans g2, hw⟩⟩
  rw [hs] at hA ⊢
  refine Calls.callWith_builtin (by show (false || (backTo cpos (starEach es X.env)).any (·.1)) = false; rw [hplain] <;> rfl) (Calls.evalArgs_plain ?_)
  exact thn hA fun us s2 ⟨vs, H2, I2, r2, ws, mu2, rw2, rx2, m2, g2, hw⟩ => mth_ok m hc hu I2 r1 r2 rx2 rw2 m2 hw (k.pre g2)
theorem w_mth0 {m : Mt} {apos cpos : Pos} (hc : X.calm = true) (hu : X.A.units + 65 < cLine) (ho : PE X o (up X.kx ta)) (hbase : attributeBase o m.nm X.env (eval o X.env) = eval o X.env) (hline : (apos.endLine == cpos.line) = true) :
    PE X (.Call (.Attribute o m.nm apos) [] [] cpos) (up X.kx fun t mu P => ta t mu fun x mu1 => tyW (vw mu1 x) = some m.ty ∧ mthR m x [] mu1 P) := by
  obtain ⟨f1, f2, f3, f4⟩ := mt_facts m
  refine ⟨fun pins s st H Q I h => ?_⟩
  obtain ⟨t, mu, P, S, h, k⟩ := h
  refine wpAny_Call_method0_late hbase hline (thn (ho.run pins s st H (fun v H1 => ∃ x mu1, Rp X.kx H1 mu1 x v ∧ MRel X.kx H1 mu1 ∧ Frm H mu H1 mu1 ∧ tyW (vw mu1 x) = some m.ty ∧ mthR m x [] mu1 P) I ⟨t, mu, _, S, h, fun x mu1 v H1 hx rx m1 g1 => ⟨x, mu1, rx, m1, g1, hx.1, hx.2⟩⟩) fun v s1 ⟨xv, H1, I1, r1, x, mu1, rx, m1, g1, ty, hx⟩ => ?_)
  obtain ⟨h1, h2⟩ := ty_is I1 (vw_ok m1 rx) r1 ty
  exact ⟨m.ty, idOf m, f1, f2, f3, h1, h2 f4, Calls.callWith_builtin rfl (PySem.evalArgs_none (mth_ok m hc hu I1 r1 .nil rx .nil m1 hx (k.pre g1)))⟩
/-! isinstance(x, T) -/
theorem w_isi {T : String} {y : Str} (hg : Gl X "isinstance") (hm : X.mg "isinstance" = none) (hg2 : Gl X y) (hm2 : X.mg y = none) (hv : bootBuiltins y = some (.type T)) (hn : y ≠ "__name__") (hdb : (y == ("__debug__" : Str)) = false) (ha : PE X a (up X.kx ta))
    (na : starEach [a, .Name y p2] X.env = (false, eval a X.env) :: starEach [.Name y p2] X.env) :
    PE X (.Call (.Name "isinstance" p) [a, .Name y p2] [] pos) (up X.kx fun t mu P => ta t mu fun x mu1 => bifR (.isi T) [x] mu1 P) := by
  refine ⟨fun pins s st H Q I h => ?_⟩
  obtain ⟨t, mu, P, S, h, k⟩ := h
  refine Call_ (ld_blt I hg hm boot_isinstance (PyProof.Rows.callWith_builtin1 (args_cons (thn (ha.run pins s st H (fun v H1 => ∃ x mu1, Rp X.kx H1 mu1 x v ∧ MRel X.kx H1 mu1 ∧ Frm H mu H1 mu1 ∧ bifR (.isi T) [x] mu1 P) I ⟨t, mu, _, S, h, fun x mu1 v H1 hx rx m1 g1 => ⟨x, mu1, rx, m1, g1, hx⟩⟩) fun v s1 ⟨xv, H1, I1, r1, x, mu1, rx, m1, g1, hx⟩ => ?_) na) na rfl))
  refine args_cons (ld_blt I1 hg2 hm2 hv (args_nil ?_) hn hdb) rfl
  exact isi_ok T I1 r1 rx m1 hx (k.pre g1)
end
end FF

/-! repr, str, len(set()), slices with a step. -/
namespace FF
open PySem PySem.Spec PyProof.Rows L2
mutual
theorem toD_plain : ∀ (w : W) {d : PyData}, toD w = some d → d.hasDict = false
  | .non, _, e => by unfold toD at e; cases e; rfl
  | .bl _, _, e => by unfold toD at e; cases e; rfl
  | .int _, _, e => by unfold toD at e; cases e; rfl
  | .str _, _, e => by unfold toD at e; cases e; rfl
  | .tup ws, _, e => by obtain ⟨ds, e1, rfl⟩ := toD_tup e; rw [PyData.hasDict]; exact toDs_plain ws e1
  | .lst ws, _, e => by obtain ⟨ds, e1, rfl⟩ := toD_lst e; rw [PyData.hasDict]; exact toDs_plain ws e1
  | .dct _ _, _, e => by unfold toD at e; cases e
  | .scr _, _, e => by unfold toD at e; cases e
  | .ref _, _, e => by unfold toD at e; cases e
theorem toDs_plain : ∀ (ws : List W) {ds : List PyData}, toDs ws = some ds → PyData.hasDictAll ds = false
  | [], _, e => by unfold toDs at e; cases e; rfl
  | w :: ws, _, e => by
    obtain ⟨d, ds, e1, e2, rfl⟩ := toDs_cons e
    rw [PyData.hasDictAll, toD_plain w e1, toDs_plain ws e2] <;> rfl
end
section
variable {X : Cx}
theorem rpr_ok (hg : X.A.guards = some []) (hu : X.A.units + 65 < cLine) : CallR X (.builtin "repr") (upN X.kx (bifR .rpr)) := by
  intro pins s st H vs us Q I r h
  obtain ⟨ws, mu, P, rs, m, hb, k⟩ := h
  match ws, rs, hb with
  | [x], rs, hb =>
    obtain ⟨v, rfl, rx⟩ := rs.one
    obtain ⟨u, rfl, ru⟩ := vals1 r
    obtain ⟨d, e, h1, h2, h3, hp⟩ := hb
    have hsm : d.hasDict = false := toD_plain x e
    have dp := rx.dp e
    obtain ⟨as, rd⟩ := Dp.reads I d v u dp ru
    have fin : ∀ (h' : Heap) u' tk, (∀ b o, s.heap.get? b = some o → h'.get? b = some o) → EP X pins st Q (.str d.shown u') { s with heap := h', toks := tk } := fun h' u' tk hk => ⟨.str _, H, I.kept hk, ⟨_, rfl⟩, k.same m hp (.str _)⟩
    cases rx with
    | ref a => unfold toD at e; cases e
    | scr _ => unfold toD at e; cases e
    | dK _ _ _ => unfold toD at e; cases e
    | dT _ _ _ => unfold toD at e; cases e
    | non => cases e; cases ru; exact PySem.P.repr_of_none (fin s.heap _ _ fun _ _ e => e)
    | bl b => cases e; cases ru; exact PySem.P.repr_of_bool (fin s.heap _ _ fun _ _ e => e)
    | int i => cases e; obtain ⟨t, rfl⟩ := ru; exact PySem.P.repr_of_int (by simpa [PyData.showable] using h1) (fin s.heap _ _ fun _ _ e => e)
    | str z => cases e; obtain ⟨t, rfl⟩ := ru; exact PySem.P.repr_of_str (fin s.heap _ _ fun _ _ e => e) h3
    | tup hx rr => cases ru; exact repr_of_reads' rd h1 (fun z => by rw [hsm] at z; cases z) hg (by omega) (fun _ _ e => e) fin h3
    | lst hx _ rr => cases ru; exact repr_of_reads' rd h1 (fun z => by rw [hsm] at z; cases z) hg (by omega) (fun _ _ e => e) fin h3
variable {a : Expr} {ta : TW} {pos p p2 q : Pos}
/-! len(set(t)) -/
theorem w_lenset (hc : X.calm = true) (hg : Gl X "len") (hm : X.mg "len" = none) (hg2 : Gl X "set") (hm2 : X.mg "set" = none) (ha : PE X a (up X.kx ta)) (na : starEach [a] X.env = (false, eval a X.env) :: starEach [] X.env) :
    PE X (.Call (.Name "len" p) [.Call (.Name "set" p2) [a] [] q] [] pos) (up X.kx fun t mu P => ta t mu fun x mu1 => bifR .lenset [x] mu1 P) := by
  refine ⟨fun pins s st H Q I h => ?_⟩
  obtain ⟨t, mu, P, S, h, k⟩ := h
  refine Call_ (ld_blt I hg hm PySem.boot_len ?_)
  refine PyProof.Rows.callWith_builtin1 (PyProof.Rows.args_cons ?_ rfl) rfl rfl
  refine Call_ (ld_blt I hg2 hm2 PyProof.Rows.boot_set ?_)
  refine PyProof.Rows.callWith_type1 (PyProof.Rows.args_cons (thn (ha.run pins s st H (fun v H1 => ∃ x mu1, Rp X.kx H1 mu1 x v ∧ MRel X.kx H1 mu1 ∧ Frm H mu H1 mu1 ∧ bifR .lenset [x] mu1 P) I ⟨t, mu, _, S, h, fun x mu1 v H1 hx rx m1 g1 => ⟨x, mu1, rx, m1, g1, hx⟩⟩) fun v s1 ⟨xv, H1, I1, r1, x, mu1, rx, m1, g1, hx⟩ => PyProof.Rows.args_nil ?_) na) na rfl
  obtain ⟨ws, ns, ds, e1, e2, h4, hnd, hm, hp⟩ := hx
  have vq := vw_ok m1 rx
  rw [e1] at vq
  obtain ⟨l, vs, rfl, hx, rr⟩ := vq.tupE
  cases r1
  obtain ⟨its, rv, ht, hz⟩ := I1.tuple hx.sq
  have hi : IntsAre its ns := ints_of rr e2 rv
  refine call_set_tupI ns (I1.ok.hd hc) (show s1.heap.IsTuple l its.toArray from ht) (by simpa using hi) (by unfold scanBound; omega) fun h' tk c hS hcl hk => ?_
  refine PyProof.Rows.args_nil ?_
  obtain ⟨o, es, ep, t', ho, hex, hd, hg', hn', hmem, hsz, hf, hn, _⟩ := hS
  have I2 : Inv X pins st H1 { s1 with heap := h', toks := tk } := I1.kept hk
  have hlen : c = ds.length := by
    rw [← hn]
    have pm : (es.toList.map L2.keyOf).Perm ds := (List.perm_ext_iff_of_nodup hn' hnd).mpr fun z => by
      rw [← hmem z, decide_eq_true_eq, hm z]
    have q := pm.length_eq
    rw [List.length_map, Array.length_toList] at q
    exact q
  refine call_len_set ho hex hd hf (by rw [hn] <;> omega) ⟨.int ds.length, H1, I2.tok _, ⟨_, by rw [hn, hlen]⟩, (k.pre g1).same m1 hp (.int _)⟩
/-! slices with a step -/
theorem evry2_get : ∀ (ws : List W) (k : Nat), (evry2 ws)[k]? = ws[2 * k]?
  | [], k => by simp [evry2]
  | [a], 0 => rfl
  | [a], k + 1 => by simp [evry2]
  | a :: b :: r, 0 => rfl
  | a :: b :: r, k + 1 => by
    have := evry2_get r k
    show (evry2 r)[k]? = (a :: b :: r)[2 * (k + 1)]?
    rw [this, show 2 * (k + 1) = (2 * k) + 1 + 1 by omega]
    rfl
def stepL {α : Type} (k : Int) (xs : List α) : List α := if k = -1 then xs.reverse else (List.range ((xs.length + 1) / 2)).filterMap fun m => xs[2 * m]?
theorem pick_step (k : Int) (hk : k = -1 ∨ k = 2) (xs : Array Value) :
    ((List.range (Builtin.Slice.slicePlaces (Builtin.Slice.sliceAdjust none none k (xs.size : Int)).1 (Builtin.Slice.sliceAdjust none none k (xs.size : Int)).2 k)).filterMap fun (m : Nat) => xs[((Builtin.Slice.sliceAdjust none none k (xs.size : Int)).1 + (m : Int) * k).toNat]?) = stepL k xs.toList := by
  rcases hk with rfl | rfl
  · have e : Builtin.Slice.sliceAdjust none none (-1) (xs.size : Int) = ((xs.size : Int) - 1, -1) := rfl
    rw [e]
    have e2 : Builtin.Slice.slicePlaces ((xs.size : Int) - 1) (-1) (-1) = xs.size := by
      unfold Builtin.Slice.slicePlaces
      rw [if_neg (by decide)]
      split
      · rw [show -(-1 : Int) = 1 by rfl, Int.ediv_one]; omega
      · omega
    rw [e2]
    unfold stepL
    rw [if_pos rfl]
    refine List.ext_getElem? fun i => ?_
    have e3 : (List.range xs.size).filterMap (fun (m : Nat) => xs[((xs.size : Int) - 1 + (m : Int) * -1).toNat]?) = (List.range xs.size).map fun m => xs.toList.reverse.getD m .none := by
      have g : ∀ l : List Nat, (∀ m ∈ l, m < xs.size) → l.filterMap (fun (m : Nat) => xs[((xs.size : Int) - 1 + (m : Int) * -1).toNat]?) = l.map fun m => xs.toList.reverse.getD m .none := by
        intro l
        induction l with
        | nil => intro _; rfl
        | cons m l ih =>
          intro hl
          have hm := hl m (List.mem_cons_self ..)
          have e4 : ((xs.size : Int) - 1 + (m : Int) * -1).toNat = xs.size - 1 - m := by omega
          have e5 : xs[xs.size - 1 - m]? = some (xs.toList.reverse.getD m .none) := by
            rw [List.getD_eq_getElem?_getD, List.getElem?_reverse (by simpa using hm), Array.getElem?_toList, Array.length_toList, Array.getElem?_eq_getElem (by omega)]
            rfl
          rw [List.filterMap_cons, e4, e5, ih fun z hz => hl z (List.mem_cons_of_mem _ hz)]
          rfl
      exact g _ fun m hm => List.mem_range.mp hm
    rw [e3, List.getElem?_map]
    by_cases hi : i < xs.size
    · rw [List.getElem?_range hi, Option.map_some, List.getD_eq_getElem?_getD, List.getElem?_eq_getElem (by simpa using hi)]
      rfl
    · rw [List.getElem?_eq_none (by simpa using hi), List.getElem?_eq_none (by simpa using hi)]
      rfl
  · have e : Builtin.Slice.sliceAdjust none none 2 (xs.size : Int) = (0, (xs.size : Int)) := rfl
    rw [e]
    have e2 : Builtin.Slice.slicePlaces 0 (xs.size : Int) 2 = (xs.size + 1) / 2 := by
      unfold Builtin.Slice.slicePlaces
      rw [if_pos (by decide)]
      split <;> omega
    rw [e2]
    unfold stepL
    rw [if_neg (by decide), Array.length_toList]
    congr 1
    funext m
    have e3 : ((0 : Int) + (m : Int) * 2).toNat = 2 * m := by omega
    rw [e3, Array.getElem?_toList]
theorem getItem_tuple_step {M : Program} {w : World} {A : Around} {E : Value → Shared → Prop} {s : Shared} {t sl : Addr} {items : Array Value} {vl vu vs : Value} {k : Int} {Q : Value → Shared → Prop} (hk : k = -1 ∨ k = 2) (ht : IsTup s.heap t items) (hs : s.heap.IsSliceOf sl vl vu vs) (pl : IsPart vl none) (pu : IsPart vu none) (ps : IsPart vs (some k))
    (h : Q (.ref s.heap.objs.size) { s with heap := s.heap.push { cls := .type "tuple", data := .seq (stepL k items.toList).toArray } })
    (hsz : (stepL k items.toList).length ≤ sizeLine) : wpAny (model M w) A (getItem (.ref t) (.ref sl)) Q E s := by
  obtain ⟨os, hos, hcs, hds⟩ := id hs
  have hTs : s.TypeIs (.ref sl) "slice" := ⟨os, hos, hcs⟩
  have hpk := pick_step k hk items
  unfold getItem
  try with_reducible refine wpAny_holding ?_
  first | refine wpAny_bind (wpAny_pure ?_) | skip
  refine wpAny_bind (wpAny_sequenceKey ht.typeIs (by decide) ?_)
  refine wpAny_bind (wpAny_callSpecial?_slot (name := Str.ofString "__getitem__") ht.typeIs PyProof.Rows.slot_tuple_getitem
    (wpAny_call_entry PyProof.Rows.slot_tuple_getitem ht.typeIs PyProof.Rows.entry_tuple_getitem ?_ (PyProof.Rows.args_tuple_getitem _ _)))
  show wpAny _ _ (Builtin.Tuple.tupleItemsOf (.ref t) >>= _) _ _ s
  refine wpAny_bind (PyProof.Rows.tupleItemsOf_ ht ?_)
  refine wpAny_bind (wpAny_typeOf hTs ?_)
  rw [if_pos (by decide)]
  refine wpAny_bind ?_
  unfold Builtin.Slice.sliceApplied Builtin.Slice.sliceFields
  refine wpAny_bind (wpAny_bind (wpAny_field hos hds (x := vl) rfl (wpAny_bind (wpAny_field hos hds (x := vu) rfl (wpAny_bind (wpAny_field hos hds (x := vs) rfl (wpAny_pure ?_)))))))
  refine wpAny_bind (HT.slicePart_ ps ?_)
  show wpAny _ _ (if (k == 0) = true then _ else _) _ _ s
  rw [if_neg (by rcases hk with rfl | rfl <;> decide)]
  refine wpAny_bind (HT.slicePart_ pl (wpAny_bind (HT.slicePart_ pu (wpAny_bind (wpAny_pure ?_)))))
  show wpAny _ _ (pure ((Builtin.Slice.sliceAdjust none none k (items.size : Int)).1, k, Builtin.Slice.slicePlaces (Builtin.Slice.sliceAdjust none none k (items.size : Int)).1 (Builtin.Slice.sliceAdjust none none k (items.size : Int)).2 k)) _ _ s
  refine wpAny_pure ?_
  have hno : ¬ (((Builtin.Slice.sliceAdjust none none k (items.size : Int)).1 == 0 && k == 1 && Builtin.Slice.slicePlaces (Builtin.Slice.sliceAdjust none none k (items.size : Int)).1 (Builtin.Slice.sliceAdjust none none k (items.size : Int)).2 k == items.size) = true) := by
    rcases hk with rfl | rfl <;> simp
  show wpAny _ _ (if ((Builtin.Slice.sliceAdjust none none k (items.size : Int)).1 == 0 && k == 1 && Builtin.Slice.slicePlaces (Builtin.Slice.sliceAdjust none none k (items.size : Int)).1 (Builtin.Slice.sliceAdjust none none k (items.size : Int)).2 k == items.size) = true then _ else _) _ _ s
  rw [if_neg hno, hpk]
  have htake : sizeOk (.seq (stepL k items.toList).toArray) := by
    show (stepL k items.toList).toArray.size ≤ sizeLine
    rw [List.size_toArray]; exact hsz
  first
    | exact wpAny_bind (m := Builtin.Tuple.tupleExact _) (wpAny_newObj_type (wpAny_pure ⟨_, rfl, wpAny_pure h⟩) htake)
    | exact wpAny_bind (m := Builtin.Tuple.tupleExact _) (wpAny_newObj_type (wpAny_bind (wpAny_pure (wpAny_pure ⟨_, rfl, wpAny_pure h⟩))) htake)
    | exact wpAny_bind (wpAny_bind (m := Builtin.Tuple.tupleExact _) (wpAny_newObj_type (wpAny_pure (wpAny_pure ⟨_, rfl, wpAny_pure h⟩)) htake))
    | exact wpAny_bind (wpAny_bind (m := Builtin.Tuple.tupleExact _) (wpAny_newObj_type (wpAny_pure ⟨_, rfl, wpAny_pure h⟩) htake))
theorem evry2_eq (ws : List W) : evry2 ws = (List.range ((ws.length + 1) / 2)).filterMap fun m => ws[2 * m]? := by
  refine List.ext_getElem? fun i => ?_
  have g : ∀ n, (∀ m, m < n → 2 * m < ws.length) → (List.range n).filterMap (fun m => ws[2 * m]?) = (List.range n).map fun m => ws.getD (2 * m) .non := by
    intro n hn
    have g2 : ∀ l : List Nat, (∀ m ∈ l, m < n) → l.filterMap (fun m => ws[2 * m]?) = l.map fun m => ws.getD (2 * m) .non := by
      intro l
      induction l with
      | nil => intro _; rfl
      | cons m l ih =>
        intro hl
        have e : ws[2 * m]? = some (ws.getD (2 * m) .non) := by
          rw [List.getD_eq_getElem?_getD, List.getElem?_eq_getElem (hn m (hl m (List.mem_cons_self ..)))]; rfl
        rw [List.filterMap_cons, e, ih fun z hz => hl z (List.mem_cons_of_mem _ hz)]
        rfl
    exact g2 _ fun m hm => List.mem_range.mp hm
  rw [g _ fun m hm => by omega, evry2_get, List.getElem?_map]
  by_cases hi : i < (ws.length + 1) / 2
  · rw [List.getElem?_range hi, Option.map_some, List.getD_eq_getElem?_getD, List.getElem?_eq_getElem (by omega)]
    rfl
  · rw [List.getElem?_eq_none (by omega), List.getElem?_eq_none (by simpa using hi)]
    rfl
theorem stepW_eq (k : Int) (ws : List W) : stepW k ws = stepL k ws := by
  unfold stepW stepL
  split
  · rfl
  · exact evry2_eq ws
theorem Rps.idxs {K : Kx} {H : Hp} {mu : Mu} {ws : List W} {vs : List V} (r : Rps K H mu ws vs) (f : Nat → Nat) : ∀ l : List Nat, Rps K H mu (l.filterMap fun m => ws[f m]?) (l.filterMap fun m => vs[f m]?)
  | [] => .nil
  | m :: l => by
    have ih := Rps.idxs r f l
    rw [List.filterMap_cons, List.filterMap_cons]
    cases e : ws[f m]? with
    | none =>
      have e2 : vs[f m]? = none := by
        rw [List.getElem?_eq_none_iff, ← r.length]; exact List.getElem?_eq_none_iff.mp e
      rw [e2]; exact ih
    | some w =>
      obtain ⟨v, e2, rv⟩ := r.get e
      rw [e2]; exact .cons rv ih
theorem Rps.step {K : Kx} {H : Hp} {mu : Mu} {ws : List W} {vs : List V} (k : Int) (r : Rps K H mu ws vs) : Rps K H mu (stepW k ws) (stepL k vs) := by
  rw [stepW_eq]
  unfold stepL
  split
  · exact r.reverse
  · rw [r.length]; exact r.idxs _ _
theorem vals_idxs {vs : List V} {us : List Value} (r : Vals vs us) (f : Nat → Nat) : ∀ l : List Nat, Vals (l.filterMap fun m => vs[f m]?) (l.filterMap fun m => us[f m]?)
  | [] => .nil
  | m :: l => by
    have ih := vals_idxs r f l
    rw [List.filterMap_cons, List.filterMap_cons]
    cases e : vs[f m]? with
    | none =>
      have e2 : us[f m]? = none := by
        rw [List.getElem?_eq_none_iff, ← r.length]; exact List.getElem?_eq_none_iff.mp e
      rw [e2]; exact ih
    | some w =>
      obtain ⟨v, e2, rv⟩ := r.get e
      rw [e2]; exact .cons rv ih
theorem vals_step {vs : List V} {us : List Value} (k : Int) (r : Vals vs us) : Vals (stepL k vs) (stepL k us) := by
  unfold stepL
  split
  · exact r.reverse
  · rw [r.length]; exact vals_idxs r _ _
theorem stepL_len {α : Type} (k : Int) (xs : List α) : (stepL k xs).length ≤ xs.length := by
  unfold stepL
  split
  · rw [List.length_reverse]; exact Nat.le_refl _
  · refine Nat.le_trans (List.length_filterMap_le _ _) ?_
    rw [List.length_range]; omega
def oC (k : Int) : TO := fun _ H Q => Q (some k) H
theorem oC_neg {j : Nat} {p1 p2 : Pos} : PO X (some (.UnaryOp .USub (.Constant (.int 1) j p1) p2)) (oC (-1)) := PO.mn (po_some (pe_un un_neg pe_int)) fun s H Q h => ⟨1, rfl, -1, rfl, h⟩
theorem oC_pos {j : Nat} {p1 : Pos} {k : Int} : PO X (some (.Constant (.int k) j p1)) (oC k) := PO.mn (po_some pe_int) fun s H Q h => ⟨k, rfl, h⟩
theorem w_sst {own : Bool} {k : Int} {se : Expr} {p3 : Pos} (hst : PO X (some se) (oC k)) (ha : PE X a (up X.kx ta)) : PE X (.Subscript a (.Slice none none (some se) p3) pos) (up X.kx fun t mu P => ta t mu fun x mu1 => sstR own x k mu1 P) := by
  refine ⟨fun pins s st H Q I h => ?_⟩
  obtain ⟨t, mu, P, S, h, kf⟩ := h
  refine Subscript_ (thn (ha.run pins s st H (fun v H1 => ∃ x mu1, Rp X.kx H1 mu1 x v ∧ MRel X.kx H1 mu1 ∧ Frm H mu H1 mu1 ∧ sstR own x k mu1 P) I ⟨t, mu, _, S, h, fun x mu1 v H1 hx rx m1 g1 => ⟨x, mu1, rx, m1, g1, hx⟩⟩) fun v s1 ⟨xv, H1, I1, r1, x, mu1, rx, m1, g1, hx⟩ => ?_)
  refine wpAny_Slice (thn (po_none.run pins s1 st H1 (fun o H2 => o = none ∧ H2 = H1) I1 ⟨rfl, rfl⟩) fun vl s2 ⟨l, H2, I2, pl, el, e2⟩ => ?_)
  subst el e2
  refine thn (po_none.run pins s2 st H2 (fun o H3 => o = none ∧ H3 = H2) I2 ⟨rfl, rfl⟩) fun vu s3 ⟨u, H3, I3, pu, eu, e3⟩ => ?_
  subst eu e3
  refine thn (hst.run pins s3 st H3 (fun o H4 => o = some k ∧ H4 = H3) I3 ⟨rfl, rfl⟩) fun vs s4 ⟨o, H4, I4, ps, eo, e4⟩ => ?_
  subst eo e4
  have I5 : Inv X pins st H4 { s4 with heap := s4.heap.push { cls := .type "slice", data := .fields #[vl, vu, vs] } } := I4.kept (t' := s4.toks) fun b ob q => Heap.get?_push_of_some _ q
  have vq := vw_ok m1 rx
  obtain ⟨hk, hx⟩ := hx
  split at hx
  · rename_i ws e
    rw [e] at vq
    obtain ⟨p, xs, rfl, hp, rr⟩ := vq.tupE
    cases r1
    obtain ⟨its, r, ht, hz⟩ := I5.tuple hp.sq
    have hl : (stepL k its).length ≤ sizeLine := Nat.le_trans (stepL_len k its) (by rw [← r.length]; exact hz)
    refine tail_any (ops := [.ref p, .ref s4.heap.objs.size]) ht.typeIs PyProof.Rows.slot_tuple_getitem.lookup (getItem_tuple_step hk ht (Heap.IsSliceOf.new _ vl vu vs) pl pu ps ?_ (by simpa using hl)) (by with_unfolding_all rfl)
    exact ep_tup (tk := s4.toks) I5 (fun _ _ h => h) (vals_step k r) (by rw [(vals_step k r).length]; exact hl) fun p o hp hd => (kf.pre g1).tup m1 hp hd hx (rr.step k)
  · rename_i ws e
    rw [e] at vq
    obtain ⟨rfl, hx⟩ := hx
    obtain ⟨p, xs, rfl, hp, rr⟩ := vq.lstE
    cases r1
    obtain ⟨its, r, ht, hz⟩ := I5.list (SqL.of hp)
    have hlen := r.length
    refine tail_any (ops := [.ref p, .ref s4.heap.objs.size]) ht.isList.typeIs (PySem.slot_list_getitem.lookup) ?_ (by with_unfolding_all rfl)
    refine wpAny_getItem_list_slice ht.isList (Heap.IsSliceOf.new _ vl vu vs) pl pu ps (by decide) ?_ (by rw [List.size_toArray]; omega)
    rw [PySem.W.krv_pick]
    refine ⟨.ref _, _, I5.laid (t' := s4.toks) (o := .lst xs.reverse) (fun b ob q => Heap.get?_push_of_some _ q) (Nat.le_refl _) ?_, rfl, (kf.pre g1).nL m1 (I5.hok.fresh (Nat.le_refl _)) hx (rr.step (-1))⟩
    exact ⟨by rw [List.length_reverse]; exact hz, _, 0, r.reverse, Heap.get?_push_size _ rfl⟩
  · exact hx.elim
end
end FF

/-! Targets, what loops walk. -/
namespace FF
open PySem PySem.Spec PyProof.Rows L2
abbrev GW := W → Tau → Mu → (Tau → Mu → Prop) → Prop
abbrev GsW := List W → Tau → Mu → (Tau → Mu → Prop) → Prop
/-- outside is the slots are the same -/
def Same (is : List Nat) (s s' : L2.St) : Prop := s'.length = s.length ∧ ∀ j, j ∉ is → s'[j]? = s[j]?
theorem Same.refl (is : List Nat) (s : L2.St) : Same is s s := ⟨rfl, fun _ _ => rfl⟩
theorem Same.mono {is js : List Nat} {s s' : L2.St} (h : Same is s s') (i : ∀ k ∈ is, k ∈ js) : Same js s s' := ⟨h.1, fun j n => h.2 j fun z => n (i j z)⟩
theorem Same.trans {is : List Nat} {s s1 s2 : L2.St} (h : Same is s s1) (k : Same is s1 s2) : Same is s s2 := ⟨k.1.trans h.1, fun j n => (k.2 j n).trans (h.2 j n)⟩
def upG (K : Kx) (is : List Nat) (t : GW) : TG := fun v s H Q => ∃ w ta mu P, Rp K H mu w v ∧ SR K s ta H mu ∧ t w ta mu P ∧ ∀ ta' mu' s' H', P ta' mu' → SR K s' ta' H' mu' → Frm H mu H' mu' → Same is s s' → Q s' H'
def upGs (K : Kx) (is : List Nat) (t : GsW) : TGs := fun vs s H Q => ∃ ws ta mu P, Rps K H mu ws vs ∧ SR K s ta H mu ∧ t ws ta mu P ∧ ∀ ta' mu' s' H', P ta' mu' → SR K s' ta' H' mu' → Frm H mu H' mu' → Same is s s' → Q s' H'
section
variable {X : Cx}
theorem PG.mn {e : Expr} {t t' : TG} (h : PG X e t) (i : ∀ v s H Q, t' v s H Q → t v s H Q) : PG X e t' := ⟨fun pins s st H v u Q I r hw => h.run pins s st H v u Q I r (i v st H Q hw)⟩
theorem PGs.mn {e : List Expr} {t t' : TGs} (h : PGs X e t) (i : ∀ v s H Q, t' v s H Q → t v s H Q) : PGs X e t' := ⟨fun pins s st H v u Q I r hw => h.run pins s st H v u Q I r (i v st H Q hw)⟩
variable {pos : Pos} {x : Str} {a b : Expr} {es : List Expr} {ta tb : TW} {g : GW} {gs : GsW} {is js : List Nat}
theorem g_name {i : Nat} (hN : X.N.Nodup) (hi : X.N[i]? = some x) (hx : Loc X.env.scope x) (hf : X.fn x = true ∨ X.env.scope.names.lookup x = some .local) : PG X (.Name x pos) (upG X.kx [i] fun w t mu P => P (t.set i (some w)) mu) :=
  PG.mn (pg_name hN hi hx hf) fun v s H Q ⟨w, ta, mu, P, r, S, h, k⟩ => k _ mu _ H h (S.set i r) (Frm.refl _ _) ⟨List.length_set .., fun j n => List.getElem?_set_ne (fun z => n (by rw [z]; exact List.mem_singleton_self _))⟩
theorem g_nil : PGs X [] (upGs X.kx [] fun ws t mu P => match ws with | [] => P t mu | _ :: _ => False) :=
  PGs.mn pgs_nil fun v s H Q ⟨ws, ta, mu, P, r, S, h, k⟩ => by
    cases r with
    | nil => exact ⟨rfl, k ta mu s H h S (Frm.refl _ _) (Same.refl _ _)⟩
    | cons _ _ => exact h.elim
theorem g_cons (h1 : PG X a (upG X.kx is g)) (h2 : PGs X es (upGs X.kx js gs)) (hs : (assignEach (a :: es) X.env).map (·.2) = assign a X.env :: (assignEach es X.env).map (·.2)) :
    PGs X (a :: es) (upGs X.kx (is ++ js) fun ws t mu P => match ws with | w :: ws => g w t mu fun t1 mu1 => gs ws t1 mu1 P | [] => False) :=
  PGs.mn (pgs_cons h1 h2 hs) fun v s H Q ⟨ws, ta, mu, P, r, S, h, k⟩ => by
    cases r with
    | nil => exact h.elim
    | cons r rr =>
      refine ⟨_, _, rfl, _, ta, mu, _, r, S, h, fun ta1 mu1 s1 H1 hw S1 f1 e1 => ⟨_, ta1, mu1, P, rr.frm S.m f1, S1, hw, fun ta2 mu2 s2 H2 hp S2 f2 e2 => ?_⟩⟩
      exact k ta2 mu2 s2 H2 hp S2 (f1.trans f2) ((e1.mono fun k hk => List.mem_append_left _ hk).trans (e2.mono fun k hk => List.mem_append_right _ hk))
theorem g_tup {k n : Nat} (hc : X.calm = true) (h : PGs X es (upGs X.kx is gs)) (hn : (assignEach es X.env).length = n) (hst : (assignEach es X.env).findIdx? (·.1) = none) :
    PG X (.Tuple es k pos) (upG X.kx is fun w t mu P => match w with | .tup ws => ws.length = n ∧ gs ws t mu P | _ => False) :=
  PG.mn (pg_tup hc h hn hst) fun v s H Q ⟨w, ta, mu, P, r, S, h, k⟩ => by
    cases r with
    | tup hx rr => exact ⟨_, _, rfl, hx.sq, by rw [← rr.length]; exact h.1, _, ta, mu, P, rr, S, h.2, k⟩
    | _ => exact h.elim
def upSet (K : Kx) : TSet := fun o i v H Q => ∃ a b w mu R, Rp K H mu a o ∧ Rp K H mu b i ∧ Rp K H mu w v ∧ MRel K H mu ∧ setR a b w mu R ∧ ∀ mu' H', R mu' → MRel K H' mu' → Frm H mu H' mu' → Q H'
theorem upSet_ok (hu : X.A.units + 65 < cLine) : PSet X (upSet X.kx) := fun pins s st H o i v ov iv u Q I ro ri rv ⟨a, b, w, mu, R, ra, rb, rw1, m, h, k⟩ => set_ok hu I ro ri rv ra rb rw1 m h k
theorem g_sub (hu : X.A.units + 65 < cLine) (ha : PE X a (up X.kx ta)) (hb : PE X b (up X.kx tb))
    (hs : ∀ v, assign (.Subscript a b pos) X.env v = (do
      let ov ← holding [v] (eval a X.env)
      let iv ← holding [v, ov] (eval b X.env)
      standAt pos
      holding [v, ov, iv] (setItem ov iv v)
      release [v, ov, iv] [])) : PG X (.Subscript a b pos) (upG X.kx [] fun w t mu P => ta t mu fun x mu1 => tb t mu1 fun y mu2 => setR x y w mu2 fun mu3 => P t mu3) :=
  PG.mn (pg_sub ha hb (upSet_ok hu) hs) fun v s H Q ⟨w, t, mu, P, r, S, h, k⟩ => ⟨t, mu, _, S, h, fun x mu1 v1 H1 hx rx m1 f1 => ⟨t, mu1, _, S.step f1 m1, hx, fun y mu2 v2 H2 hy ry m2 f2 =>
    ⟨x, y, w, mu2, _, rx.frm m1 f2, ry, (r.frm S.m f1).frm m1 f2, m2, hy, fun mu3 H3 h3 m3 f3 => k t mu3 s H3 h3 (((S.step f1 m1).step f2 m2).step f3 m3) ((f1.trans f2).trans f3) (Same.refl _ _)⟩⟩⟩

/-! ### what a loop walks -/
/-- J yields these, whatever is done to what isn't walked -/
def WJ (K : Kx) (J : It) (ws : List W) (src : Src) (H0 : Hp) (mu0 : Mu) : Prop := ∀ i H mu, MRel K H mu → Frm H0 mu0 H mu → stays src mu →
  (∀ w, ws[i]? = some w → J.go i H ∧ ∀ x H', J.yld i H x H' → Rp K H' mu w x ∧ MRel K H' mu ∧ Frm H mu H' mu) ∧ (i = ws.length → J.stop i H)
abbrev IW := Tau → Mu → (List W → Src → Mu → Prop) → Prop
def upI (K : Kx) (t : IW) : TI := fun s H R => ∃ ta mu P, SR K s ta H mu ∧ t ta mu P ∧ ∀ ws src mu' H' J, P ws src mu' → MRel K H' mu' → Frm H mu H' mu' → WJ K J ws src H' mu' → R J H'
theorem wj_list {K : Kx} {H : Hp} {mu : Mu} {ws : List W} {vs : List V} {a : Addr} (n : mu a = none) (m : MRel K H mu) (h : H a = some (.lst vs)) (r : Rps K H mu ws vs) : WJ K (Itl K.K a) ws .free H mu := fun i H1 mu1 m1 f _ => by
  have h1 := f.ls _ _ n h
  have r1 := r.frm m f
  refine ⟨fun w e => ?_, fun e => ⟨vs, SqL.of h1, by rw [e, r.length]; exact Nat.le_refl _⟩⟩
  obtain ⟨v, ev, rv⟩ := r1.get e
  refine ⟨⟨vs, v, SqL.of h1, ev⟩, fun x H' ⟨e1, e2⟩ => ?_⟩
  subst e1
  have := e2 _ (SqL.of h1)
  rw [ev] at this
  cases this
  exact ⟨rv, m1, Frm.refl _ _⟩
theorem wj_own {K : Kx} {H : Hp} {mu : Mu} {ws : List W} {a : Addr} : WJ K (Itl K.K a) ws (.own a ws) H mu := fun i H1 mu1 m1 f st => by
  obtain ⟨vs, h1, r1⟩ := m1 a _ st
  refine ⟨fun w e => ?_, fun e => ⟨vs, SqL.of h1, by rw [e, r1.length]; exact Nat.le_refl _⟩⟩
  obtain ⟨v, ev, rv⟩ := r1.get e
  refine ⟨⟨vs, v, SqL.of h1, ev⟩, fun x H' ⟨e1, e2⟩ => ?_⟩
  subst e1
  have := e2 _ (SqL.of h1)
  rw [ev] at this
  cases this
  exact ⟨rv, m1, Frm.refl _ _⟩
theorem wj_tup {K : Kx} {H : Hp} {mu : Mu} {ws : List W} {vs : List V} {a : Addr} (m : MRel K H mu) (h : TX H a vs) (r : Rps K H mu ws vs) : WJ K (Itt K.K a) ws .free H mu := fun i H1 mu1 m1 f _ => by
  have h1 := h.frm f
  have r1 := r.frm m f
  refine ⟨fun w e => ?_, fun e => ⟨vs, h1.sq, by rw [e, r.length]; exact Nat.le_refl _⟩⟩
  obtain ⟨v, ev, rv⟩ := r1.get e
  refine ⟨⟨vs, v, h1.sq, ev⟩, fun x H' ⟨e1, e2⟩ => ?_⟩
  subst e1
  have := e2 _ h1.sq
  rw [ev] at this
  cases this
  exact ⟨rv, m1, Frm.refl _ _⟩
theorem wj_rng {K : Kx} {H : Hp} {mu : Mu} (lo : Int) (n : Nat) : WJ K (Itr lo n) (rngW lo n) .free H mu := fun i H1 mu1 m1 f _ => by
  have hl : (rngW lo n).length = n := by unfold rngW; rw [List.length_map, List.length_range]
  refine ⟨fun w e => ?_, fun e => by rw [e, hl]; exact Nat.le_refl _⟩
  have hi : i < n := by rw [← hl]; exact (List.getElem?_eq_some_iff.mp e).1
  refine ⟨hi, fun x H' ⟨e1, e2⟩ => ?_⟩
  subst e1 e2
  unfold rngW at e
  rw [List.getElem?_map, List.getElem?_range hi] at e
  cases e
  exact ⟨.int _, m1, Frm.refl _ _⟩
/-- the owned dict is not written any more -/
theorem MRel.dell {K : Kx} {H : Hp} {mu : Mu} (a : Addr) (m : MRel K H mu) : MRel K H (dell mu a) ∧ Frm H mu H (dell mu a) := by
  have f : Frm H mu H (FF.dell mu a) := ⟨fun _ _ _ _ h => h, fun _ _ _ h => h, fun _ _ _ h => h, fun c n _ => by unfold FF.dell; split <;> simp [n], fun _ h => h⟩
  refine ⟨fun c o e => ?_, f⟩
  unfold FF.dell at e
  split at e
  · cases e
  · exact (m c o e).frm m f fun _ h => h
/-- a dict read only, its object known -/
theorem MRel.lock {K : Kx} {H : Hp} {mu : Mu} {a : Addr} {o : Obj} {u : HO} (m : MRel K H mu) (n : mu a = none) (h : H a = some u) (hd : ∃ ks, u = dTO K a ks) : MRel K (upd H a (.frz o u)) mu ∧ Frm H mu (upd H a (.frz o u)) mu := by
  have f : Frm H mu (upd H a (.frz o u)) mu := by
    refine ⟨fun c x nc pl hr => ?_, fun c vs nc hc => ?_, fun c ob vs hc => ?_, fun _ n _ => n, fun c hc => ?_⟩
    · by_cases e : c = a
      · subst e
        obtain ⟨ks, rfl⟩ := hd
        rcases hr with hr | ⟨o', hr⟩
        · rw [h] at hr; cases hr; exact .inr ⟨o, upd_same⟩
        · rw [h] at hr; cases hr
      · rcases hr with hr | ⟨o', hr⟩
        · exact .inl (by rw [upd_ne e]; exact hr)
        · exact .inr ⟨o', by rw [upd_ne e]; exact hr⟩
    · have e : c ≠ a := fun z => by subst z; rw [h] at hc; obtain ⟨ks, rfl⟩ := hd; cases hc
      rw [upd_ne e]; exact hc
    · have e : c ≠ a := fun z => by subst z; rw [h] at hc; obtain ⟨ks, rfl⟩ := hd; cases hc
      rw [upd_ne e]; exact hc
    · by_cases e : c = a
      · subst e; rw [upd_same]; exact fun z => nomatch z
      · rw [upd_ne e]; exact hc
  exact ⟨fun c x e => (m c x e).frm m f fun y hy => by
    have ne : c ≠ a := fun z => by subst z; rw [n] at e; cases e
    rw [upd_ne ne]; exact hy, f⟩
/-- the tuple keys of the locked dict at d -/
def ItD (K : Kx) (d : Addr) (o : Obj) (ks : List (List Key × Addr × V)) : It :=
  ⟨fun i H => H d = some (.frz o (dTO K d ks)) ∧ i < ks.length, fun i H x H' => H' = H ∧ ∃ k, ks[i]? = some k ∧ x = .ref k.2.1, fun i H => H d = some (.frz o (dTO K d ks)) ∧ ks.length ≤ i⟩
theorem frzD {pins : List (Addr × Obj)} {st : L2.St} {H : Hp} {s : Shared} {d : Addr} {o : Obj} {ks : List (List Key × Addr × V)} (I : Inv X pins st H s) (h : H d = some (.frz o (dTO X.kx d ks))) :
    (d == sysModules) = false ∧ s.heap.get? d = some o ∧ o.ExactDict ∧ ∃ (es : Array DictEntry) (ep : Nat), o.data = .dict es ep ∧ es.size = ks.length ∧ ∀ (i : Nat) k, ks[i]? = some k → ∃ en : DictEntry, es[i]? = some en ∧ en.key = .ref k.2.1 := by
  obtain ⟨hd, ⟨hs, z, ys, pr, o', es, ep, ho, hx, hdt, he, _⟩, _⟩ := (show ObjOk X.prog X.w H s.heap d (.frz o (dTO X.kx d ks)) from I.hok d _ h)
  rw [hd] at ho
  cases ho
  refine ⟨hs, hd, hx, es, ep, hdt, ?_, fun i k e => ?_⟩
  · have l1 : es.size = ys.length := size_of_entries he
    have l2 : ks.length = ys.length := Paired.length pr
    omega
  · obtain ⟨b, hb, e1, e2, _⟩ := paired_get pr e
    have q := entry_at he i
    rw [hb] at q
    refine ⟨_, q, ?_⟩
    show Value.ref b.2.1 = Value.ref k.2.1
    rw [e2]
theorem turn_dT {P : Program} {w : World} {K : PySem.W.Frag} {tg : Expr} {d : Addr} {o : Obj} {es : Array DictEntry} {ep : Nat} {ks : List (List Key × Addr × V)} (it : Addr) (hod : o.data = .dict es ep) : Turn P w K tg (ItD ⟨P, w, K⟩ d o ks) [it] it (fun i h => h.IsKeyIter it d i es.size ep) where
  mem := by simp
  obj := fun i h st b hb => by
    have e : b = it := by simpa using hb
    subst e
    obtain ⟨oi, e, c, dd⟩ := st
    exact ⟨oi, e, fun v z => by rw [dd] at z; cases z⟩
  keep := fun i h h' st k => st.at fun oi e => k it (by simp) oi e
  item := by
    intro X hP hw hK hc i pins s st H E I hf sti hg
    subst hP hw hK
    obtain ⟨hd, hi⟩ := hg
    obtain ⟨f0, f1, f2, f3, f4, f5⟩ := hf it (by simp)
    obtain ⟨hs, hgd, hx, es', ep', hdt, hsz, ent⟩ := frzD I hd
    obtain ⟨rfl, rfl⟩ := dict_ep hod hdt
    obtain ⟨en, hen, hkey⟩ := ent i _ (List.getElem?_eq_getElem hi)
    have hlt : i < es'.size := by omega
    refine wpAny_pyNext_keys_item_raw sti ⟨o, hgd, hx, hdt⟩ hlt fun h' st' sb => ?_
    have I1 : Inv X pins st H { s with heap := h' } := I.turned (t' := s.toks) (fun b ob hb e => (sb.2 b hb).trans e) f0 f1 f3 f4 f5
    obtain ⟨oi, e, c, dd⟩ := id st'
    have hk2 : es'[i].key = .ref (ks[i]).2.1 := by
      rw [Array.getElem?_eq_getElem hlt] at hen
      cases hen; exact hkey
    exact ⟨es'[i].key, rfl, go_of (s := { s with heap := h' }) e c dd (by decide) ⟨.ref (ks[i]).2.1, H, I1, hk2, ⟨rfl, _, List.getElem?_eq_getElem hi, rfl⟩, st', fun b hb => (hf b hb).1⟩⟩
  done := by
    intro X hP hw hK hc i pins s st H E I hf sti hg
    subst hP hw hK
    obtain ⟨hd, hi⟩ := hg
    obtain ⟨f0, f1, f2, f3, f4, f5⟩ := hf it (by simp)
    obtain ⟨hs, hgd, hx, es', ep', hdt, hsz, ent⟩ := frzD I hd
    obtain ⟨rfl, rfl⟩ := dict_ep hod hdt
    exact wpAny_pyNext_keys_end_raw (I.ok.hd hc) sti ⟨o, hgd, hx, hdt⟩ (by omega) fun h' eb => ⟨rfl, I.turned (t' := s.toks) (fun b ob hb e => eb b ob hb e) f0 f1 f3 f4 f5⟩
  self := fun A i s Q E st h => by
    refine wpAny_pyIter_slot st.typeIs F.slot_dict_keyiterator_iter (wpAny_call_entry F.slot_dict_keyiterator_iter st.typeIs F.entry_dict_keyiterator_iter ?_ (F.args_dict_keyiterator_iter_1 _))
    show wpAny _ _ (ret (.ref it)) _ _ s
    exact wpAny_pure ⟨_, rfl, "dict_keyiterator", _, st.typeIs, F.slot_dict_keyiterator_next.lookup, h⟩
theorem i_of {e tg : Expr} {t : TW} (hc : X.calm = true) (he : PE X e (up X.kx t)) : PI X tg e (upI X.kx fun ta mu P => t ta mu fun x mu1 => iterR x mu1 P) := by
  refine ⟨fun pins s st H R I h => ?_⟩
  obtain ⟨ta, mu, P, S, h, k⟩ := h
  refine thn (he.run pins s st H (fun v H1 => ∃ x mu1, Rp X.kx H1 mu1 x v ∧ MRel X.kx H1 mu1 ∧ Frm H mu H1 mu1 ∧ iterR x mu1 P) I ⟨ta, mu, _, S, h, fun x mu1 v H1 hx rx m1 g1 => ⟨x, mu1, rx, m1, g1, hx⟩⟩) fun v s1 ⟨xv, H1, I1, r1, x, mu1, rx, m1, g1, hx⟩ => ?_
  have vq := vw_ok m1 rx
  unfold iterR at hx
  split at hx
  · rename_i ws e
    rw [e] at vq
    obtain ⟨p, vs, rfl, hp, rr⟩ := vq.tupE
    cases r1
    obtain ⟨its, rv, pl, hz⟩ := I1.tuple hp.sq
    refine wpAny_pyIter_tuple (show s1.heap.IsTuple p its.toArray from pl) ?_
    exact pi_one (tk := s1.toks) I1 _ (turn_tuple p _) ⟨_, Heap.get?_push_size _ rfl, rfl, rfl⟩ (k ws .free mu1 H1 _ hx m1 g1 (wj_tup m1 hp rr))
  · rename_i ws e
    have wj : ∃ p, xv = .ref p ∧ (∃ vs, H1 p = some (.lst vs)) ∧ WJ X.kx (Itl X.K p) ws (srcOf mu1 x) H1 mu1 := by
      cases rx with
      | ref p =>
        cases em : mu1 p with
        | none =>
          have z : vw mu1 (.ref p) = .ref p := by unfold vw; simp only [em]
          rw [z] at e; cases e
        | some ob =>
          cases ob with
          | lst ws' =>
            have z : vw mu1 (.ref p) = .lst ws' := by unfold vw; simp only [em]
            rw [z] at e; cases e
            have q : srcOf mu1 (.ref p) = .own p ws := by unfold srcOf; simp only [em]
            rw [q]
            obtain ⟨vs, hv, _⟩ := m1 p _ em
            exact ⟨p, rfl, ⟨vs, hv⟩, wj_own⟩
          | dct t kvs =>
            have z : vw mu1 (.ref p) = .dct t kvs := by unfold vw; simp only [em]
            rw [z] at e; cases e
      | lst hp n rr => cases e; exact ⟨_, rfl, ⟨_, hp⟩, wj_list n m1 hp rr⟩
      | non => cases e
      | bl _ => cases e
      | int _ => cases e
      | str _ => cases e
      | tup _ _ => cases e
      | dK _ _ _ => cases e
      | dT _ _ _ => cases e
      | scr _ => cases e
    obtain ⟨p, rfl, ⟨vs, hv⟩, wj⟩ := wj
    cases r1
    obtain ⟨its, rv, pl, hz⟩ := I1.list (SqL.of hv)
    refine wpAny_pyIter_list pl.isList ?_
    exact pi_one (tk := s1.toks) I1 _ (turn_list p _) ⟨_, Heap.get?_push_size _ rfl, rfl, rfl⟩ (k ws _ mu1 H1 _ hx m1 g1 wj)
  · rename_i kvs e
    rw [e] at vq
    obtain ⟨p, ks, rfl, hp, rr⟩ := vq.dTE
    cases r1
    -- it is not ours any more
    obtain ⟨mu2, e2, m2, f2, n2⟩ : ∃ mu2, dell' mu1 x = mu2 ∧ MRel X.kx H1 mu2 ∧ Frm H1 mu1 H1 mu2 ∧ mu2 p = none := by
      cases rx with
      | ref => exact ⟨_, rfl, (m1.dell p).1, (m1.dell p).2, if_pos rfl⟩
      | dT _ n _ => exact ⟨_, rfl, m1, Frm.refl _ _, n⟩
      | tup _ _ => cases e
      | lst _ _ _ => cases e
      | dK _ _ _ => cases e
      | scr _ => cases e
    rw [e2] at hx
    have rr2 : RTs X.kx H1 mu2 kvs ks := rr.frm m1 f2
    -- the object known
    obtain ⟨o, H2, I2, h2, m3, f3⟩ : ∃ o H2, Inv X pins st H2 s1 ∧ H2 p = some (.frz o (dTO X.kx p ks)) ∧ MRel X.kx H2 mu2 ∧ Frm H1 mu2 H2 mu2 := by
      rcases hp with hp | ⟨o, hp⟩
      · obtain ⟨o, I2⟩ := I1.lock hp True.intro
        obtain ⟨q1, q2⟩ := m2.lock (o := o) n2 hp ⟨ks, rfl⟩
        exact ⟨o, _, I2, upd_same, q1, q2⟩
      · exact ⟨o, H1, I1, hp, m2, Frm.refl _ _⟩
    obtain ⟨hs, hgd, hxd, es, ep, hdt, hsz, ent⟩ := frzD I2 h2
    have rr3 : RTs X.kx H2 mu2 kvs ks := rr2.frm m2 f3
    refine iter_keys hs hgd hxd hdt (pi_one (tk := s1.toks) I2 _ (turn_dT (ks := ks) _ hdt) ⟨_, Heap.get?_push_size _ rfl, rfl, rfl⟩ (k _ .free mu2 H2 _ hx m3 ((g1.trans f2).trans f3) ?_))
    intro i H4 mu4 m4 f4 _
    have h4 := f4.ts _ _ _ h2
    have r4 := (rr3.frm m3 f4).kx
    have hl : ks.length = (kvs.map (·.1)).length := by rw [List.length_map, rr.length]
    refine ⟨fun w ew => ?_, fun ei => ⟨h4, by rw [ei, hl]; exact Nat.le_refl _⟩⟩
    obtain ⟨v, ev, rv⟩ := r4.get ew
    rw [List.getElem?_map] at ev
    cases ek : ks[i]? with
    | none => rw [ek] at ev; cases ev
    | some y =>
      rw [ek] at ev; cases ev
      refine ⟨⟨h4, (List.getElem?_eq_some_iff.mp ek).1⟩, fun z H' ⟨e1, k', e3, e4⟩ => ?_⟩
      subst e1
      rw [ek] at e3; cases e3
      subst e4
      exact ⟨rv, m4, Frm.refl _ _⟩
  · exact hx.elim
theorem i_rg1 {e tg : Expr} {t : TW} {p pos : Pos} (hg : Gl X "range") (hm : X.mg "range" = none) (he : PE X e (up X.kx t)) (hs : starEach [e] X.env = (false, eval e X.env) :: starEach [] X.env) :
    PI X tg (.Call (.Name "range" p) [e] [] pos) (upI X.kx fun ta mu P => t ta mu fun x mu1 => ∃ j : Int, x = .int j ∧ (-(2 ^ 62) ≤ j ∧ j < 2 ^ 62) ∧ P (rngW 0 j.toNat) .free mu1) := by
  refine ⟨fun pins s st H R I h => (pi_range1 hg hm (w_cons he w_nil hs) hs).run pins s st H R I ?_⟩
  obtain ⟨ta, mu, P, S, h, k⟩ := h
  refine ⟨ta, mu, fun ws mu1 => ∃ j : Int, ws = [.int j] ∧ (-(2 ^ 62) ≤ j ∧ j < 2 ^ 62) ∧ P (rngW 0 j.toNat) .free mu1, S, ?_, fun ws mu1 vs H1 hw rr m1 f1 => ?_⟩
  · have e : (fun x mu1 => ∃ j : Int, [x] = [W.int j] ∧ (-(2 ^ 62) ≤ j ∧ j < 2 ^ 62) ∧ P (rngW 0 j.toNat) .free mu1) = fun x mu1 => ∃ j : Int, x = .int j ∧ (-(2 ^ 62) ≤ j ∧ j < 2 ^ 62) ∧ P (rngW 0 j.toNat) .free mu1 := by
      funext x mu1; simp only [List.cons.injEq, and_true]
    show t ta mu fun x mu1 => ∃ j : Int, [x] = [W.int j] ∧ (-(2 ^ 62) ≤ j ∧ j < 2 ^ 62) ∧ P (rngW 0 j.toNat) .free mu1
    rw [e]; exact h
  · obtain ⟨j, rfl, hj, hp⟩ := hw
    obtain ⟨v, rfl, r⟩ := rr.one
    cases r
    exact ⟨j, rfl, hj.1, hj.2, k _ _ mu1 H1 _ hp m1 f1 (wj_rng 0 j.toNat)⟩
theorem i_rg2 {a b tg : Expr} {ta tb : TW} {p pos : Pos} (hg : Gl X "range") (hm : X.mg "range" = none) (ha : PE X a (up X.kx ta)) (hb : PE X b (up X.kx tb)) (hs : starEach [a, b] X.env = (false, eval a X.env) :: starEach [b] X.env) (hs2 : starEach [b] X.env = (false, eval b X.env) :: starEach [] X.env) :
    PI X tg (.Call (.Name "range" p) [a, b] [] pos) (upI X.kx fun t mu P => ta t mu fun x mu1 => tb t mu1 fun y mu2 => ∃ i j : Int, x = .int i ∧ y = .int j ∧ (-(2 ^ 62) ≤ i ∧ i < 2 ^ 62 ∧ -(2 ^ 62) ≤ j ∧ j < 2 ^ 62) ∧ P (rngW i (j - i).toNat) .free mu2) := by
  refine ⟨fun pins s st H R I h => (pi_range2 hg hm (w_cons ha (w_cons hb w_nil hs2) hs) (by rw [hs, hs2] <;> rfl) hs2).run pins s st H R I ?_⟩
  obtain ⟨t, mu, P, S, h, k⟩ := h
  refine ⟨t, mu, fun ws mu1 => ∃ i j : Int, ws = [.int i, .int j] ∧ (-(2 ^ 62) ≤ i ∧ i < 2 ^ 62 ∧ -(2 ^ 62) ≤ j ∧ j < 2 ^ 62) ∧ P (rngW i (j - i).toNat) .free mu1, S, ?_, fun ws mu1 vs H1 hw rr m1 f1 => ?_⟩
  · have e : (fun x mu1 => tb t mu1 fun y mu2 => ∃ i j : Int, [x, y] = [W.int i, .int j] ∧ (-(2 ^ 62) ≤ i ∧ i < 2 ^ 62 ∧ -(2 ^ 62) ≤ j ∧ j < 2 ^ 62) ∧ P (rngW i (j - i).toNat) .free mu2) =
        fun x mu1 => tb t mu1 fun y mu2 => ∃ i j : Int, x = .int i ∧ y = .int j ∧ (-(2 ^ 62) ≤ i ∧ i < 2 ^ 62 ∧ -(2 ^ 62) ≤ j ∧ j < 2 ^ 62) ∧ P (rngW i (j - i).toNat) .free mu2 := by
      funext x mu1
      congr 1
      funext y mu2
      simp only [List.cons.injEq, and_true, and_assoc]
    show ta t mu fun x mu1 => tb t mu1 fun y mu2 => ∃ i j : Int, [x, y] = [W.int i, .int j] ∧ (-(2 ^ 62) ≤ i ∧ i < 2 ^ 62 ∧ -(2 ^ 62) ≤ j ∧ j < 2 ^ 62) ∧ P (rngW i (j - i).toNat) .free mu2
    rw [e]; exact h
  · obtain ⟨i, j, rfl, hj, hp⟩ := hw
    obtain ⟨v, u, rfl, r, r'⟩ := rr.two
    cases r; cases r'
    exact ⟨i, j, rfl, hj, k _ _ mu1 H1 _ hp m1 f1 (wj_rng i (j - i).toNat)⟩
end
end FF

/-! Statements. -/
namespace FF
open PySem PySem.Spec PyProof.Rows L2
abbrev SW := EndW → Tau → Mu → Prop
structure FinS (K : Kx) (H : Hp) (mu : Mu) (P : EndW) (D : Ends) : Prop where
  nx : ∀ ta' mu' s' H', P.nx ta' mu' → SR K s' ta' H' mu' → Frm H mu H' mu' → D.nx s' H'
  rt : ∀ w mu' v H', P.rt w mu' → Rp K H' mu' w v → MRel K H' mu' → Frm H mu H' mu' → D.rt v H'
  bk : ∀ ta' mu' s' H', P.bk ta' mu' → SR K s' ta' H' mu' → Frm H mu H' mu' → D.bk s' H'
  ct : ∀ ta' mu' s' H', P.ct ta' mu' → SR K s' ta' H' mu' → Frm H mu H' mu' → D.ct s' H'
def upS (K : Kx) (t : SW) : TS := fun D s H => ∃ ta mu P, SR K s ta H mu ∧ t P ta mu ∧ FinS K H mu P D
section
variable {K : Kx}
theorem FinS.pre {H H1 : Hp} {mu mu1 : Mu} {P : EndW} {D : Ends} (k : FinS K H mu P D) (f : Frm H mu H1 mu1) : FinS K H1 mu1 P D :=
  ⟨fun a b c d h S g => k.nx a b c d h S (f.trans g), fun a b c d h r m g => k.rt a b c d h r m (f.trans g), fun a b c d h S g => k.bk a b c d h S (f.trans g), fun a b c d h S g => k.ct a b c d h S (f.trans g)⟩
end
section
variable {X : Cx}
theorem PS.mn {e : Stmt} {t t' : TS} (h : PS X e t) (i : ∀ D s H, t' D s H → t D s H) : PS X e t' := ⟨fun pins s st H D I hw => h.run pins s st H D I (i D st H hw)⟩
theorem PSs.mn {e : List Stmt} {t t' : TS} (h : PSs X e t) (i : ∀ D s H, t' D s H → t D s H) : PSs X e t' := ⟨fun pins s st H D I hw => h.run pins s st H D I (i D st H hw)⟩
theorem PI.mn {tg e : Expr} {t t' : TI} (h : PI X tg e t) (i : ∀ s H R, t' s H R → t s H R) : PI X tg e t' := ⟨fun pins s st H R I hw => h.run pins s st H R I (i st H R hw)⟩
variable {pos : Pos} {x : Str} {a b e tg it : Expr} {es : List Expr} {ta tb te : TW} {g : GW} {gs : GsW} {is js : List Nat} {st : Stmt} {rest body bo : List Stmt} {s1 s2 : SW} {u1 : CW} {tas : AW}
theorem s_nil : PSs X [] (upS X.kx fun P t mu => P.nx t mu) := PSs.mn pss_nil fun D s H ⟨ta, mu, P, S, h, k⟩ => k.nx ta mu s H h S (Frm.refl _ _)
theorem s_cons (h1 : PS X st (upS X.kx s1)) (h2 : PSs X rest (upS X.kx s2)) : PSs X (st :: rest) (upS X.kx fun P t mu => s1 { P with nx := fun t1 mu1 => s2 P t1 mu1 } t mu) :=
  PSs.mn (pss_cons h1 h2) fun D s H ⟨ta, mu, P, S, h, k⟩ => ⟨ta, mu, _, S, h, ⟨fun a b c d h S g => ⟨a, b, P, S, h, k.pre g⟩, k.rt, k.bk, k.ct⟩⟩
theorem s_ret (he : PE X e (up X.kx te)) : PS X (.Return (some e) pos) (upS X.kx fun P t mu => te t mu P.rt) :=
  PS.mn (ps_ret he) fun D s H ⟨ta, mu, P, S, h, k⟩ => ⟨ta, mu, P.rt, S, h, fun w mu1 v H1 hw r m f => k.rt w mu1 v H1 hw r m f⟩
theorem s_ex (he : PE X e (up X.kx te)) (hs : swapsWith e none pos.line X.env = pure false) : PS X (.Expr e pos) (upS X.kx fun P t mu => te t mu fun _ mu1 => P.nx t mu1) :=
  PS.mn (ps_expr he hs) fun D s H ⟨ta, mu, P, S, h, k⟩ => ⟨ta, mu, _, S, h, fun w mu1 v H1 hw r m f => k.nx ta mu1 s H1 hw (S.step f m) f⟩
theorem s_if (hc : PT X e (upT X.kx u1)) (ha : PSs X body (upS X.kx s1)) (hb : PSs X bo (upS X.kx s2)) : PS X (.If e body bo pos) (upS X.kx fun P t mu => u1 t mu fun k mu1 => if k = true then s1 P t mu1 else s2 P t mu1) :=
  PS.mn (ps_if hc ha hb) fun D s H ⟨ta, mu, P, S, h, k⟩ => ⟨ta, mu, _, S, h, fun d mu1 H1 hd m f => by
    cases d with
    | true => exact ⟨ta, mu1, P, S.step f m, hd, k.pre f⟩
    | false => exact ⟨ta, mu1, P, S.step f m, hd, k.pre f⟩⟩
theorem s_pass : PS X (.Pass pos) (upS X.kx fun P t mu => P.nx t mu) := PS.mn ps_pass fun D s H ⟨ta, mu, P, S, h, k⟩ => k.nx ta mu s H h S (Frm.refl _ _)
theorem s_brk : PS X (.Break pos) (upS X.kx fun P t mu => P.bk t mu) := PS.mn ps_break fun D s H ⟨ta, mu, P, S, h, k⟩ => k.bk ta mu s H h S (Frm.refl _ _)
theorem s_cnt : PS X (.Continue pos) (upS X.kx fun P t mu => P.ct t mu) := PS.mn ps_continue fun D s H ⟨ta, mu, P, S, h, k⟩ => k.ct ta mu s H h S (Frm.refl _ _)
theorem s_nev : PS X st (upS X.kx fun _ _ _ => False) := PS.mn ps_never fun D s H ⟨ta, mu, P, S, h, k⟩ => h
theorem ss_nev : PSs X rest (upS X.kx fun _ _ _ => False) := PSs.mn pss_never fun D s H ⟨ta, mu, P, S, h, k⟩ => h
/-- a value, then a store -/
theorem asg_up (i : List Nat) : ∀ D s H, upS X.kx (fun P t mu => te t mu fun w mu1 => g w t mu1 P.nx) D s H → tAsg (up X.kx te) (upG X.kx i g) D s H := fun D s H ⟨ta, mu, P, S, h, k⟩ =>
  ⟨ta, mu, _, S, h, fun w mu1 v H1 hw r m f => ⟨w, ta, mu1, P.nx, r, S.step f m, hw, fun ta2 mu2 s2 H2 hp S2 f2 _ => k.nx ta2 mu2 s2 H2 hp S2 (f.trans f2)⟩⟩
theorem s_asg (he : PE X e (up X.kx te)) (hg : PG X tg (upG X.kx is g)) (hs : swapsWithSole [tg] e pos.line X.env = pure false) (hw : swappedStores [tg] e X.env = pure none) (h1 : (assignEach [tg] X.env).map (·.2) = [assign tg X.env]) :
    PS X (.Assign [tg] e pos) (upS X.kx fun P t mu => te t mu fun w mu1 => g w t mu1 P.nx) := PS.mn (ps_asg he hg hs hw h1) (asg_up is)
theorem s_par2 {i j : Nat} {x y : Str} {px py pt : Pos} {kt k2 pt2} (hc : X.calm = true) (hN : X.N.Nodup) (hi : X.N[i]? = some x) (hj : X.N[j]? = some y) (hij : i ≠ j)
    (hx : X.env.scope.names.lookup x = some .local) (hy : X.env.scope.names.lookup y = some .local) (ha : PA X [a, b] (upA X.kx tas))
    (hw : swappedStores [.Tuple [.Name x px, .Name y py] kt pt] (.Tuple [a, b] k2 pt2) X.env = pure (some [x, y])) :
    PS X (.Assign [.Tuple [.Name x px, .Name y py] kt pt] (.Tuple [a, b] k2 pt2) pos) (upS X.kx fun P t mu => tas t mu fun ws mu1 => match parT [i, j] ws t with | some t1 => P.nx t1 mu1 | none => False) :=
  PS.mn (ps_par hc hN hi hj hij hx hy ha hw) fun D s H ⟨ta, mu, P, S, h, k⟩ => ⟨ta, mu, _, S, h, fun ws mu1 vs H1 hw r m f => by
    match ws, r, hw with
    | [w, z], r, hw =>
      obtain ⟨v, u, rfl, r1, r2⟩ := r.two
      exact ⟨v, u, rfl, k.nx _ mu1 _ H1 hw (((S.step f m).set i r1).set j r2) f⟩
    | [], r, hw => exact hw.elim
    | [_], r, hw => exact hw.elim
    | _ :: _ :: _ :: _, r, hw => exact hw.elim⟩
theorem s_par3 {i j l : Nat} {x y z : Str} {c : Expr} {px py pz pt : Pos} {kt k2 pt2} (hc : X.calm = true) (hN : X.N.Nodup) (hi : X.N[i]? = some x) (hj : X.N[j]? = some y) (hl : X.N[l]? = some z) (hij : i ≠ j) (hil : i ≠ l) (hjl : j ≠ l)
    (hx : X.env.scope.names.lookup x = some .local) (hy : X.env.scope.names.lookup y = some .local) (hz : X.env.scope.names.lookup z = some .local) (ha : PA X [a, b, c] (upA X.kx tas))
    (hw : swappedStores [.Tuple [.Name x px, .Name y py, .Name z pz] kt pt] (.Tuple [a, b, c] k2 pt2) X.env = pure (some [x, y, z])) :
    PS X (.Assign [.Tuple [.Name x px, .Name y py, .Name z pz] kt pt] (.Tuple [a, b, c] k2 pt2) pos) (upS X.kx fun P t mu => tas t mu fun ws mu1 => match parT [i, j, l] ws t with | some t1 => P.nx t1 mu1 | none => False) :=
  PS.mn (ps_par3 hc hN hi hj hl hij hil hjl hx hy hz ha hw) fun D s H ⟨ta, mu, P, S, h, k⟩ => ⟨ta, mu, _, S, h, fun ws mu1 vs H1 hw r m f => by
    match ws, r, hw with
    | [w, z, y], .cons r1 (.cons r2 (.cons r3 .nil)), hw => exact ⟨_, _, _, rfl, k.nx _ mu1 _ H1 hw ((((S.step f m).set i r1).set j r2).set l r3) f⟩
    | [], r, hw => exact hw.elim
    | [_], r, hw => exact hw.elim
    | [_, _], r, hw => exact hw.elim
    | _ :: _ :: _ :: _ :: _, r, hw => exact hw.elim⟩
/-- name += e, name -= e: ints -/
theorem s_aug {i : Nat} {op : Operator} {pos' : Pos} (hN : X.N.Nodup) (hi : X.N[i]? = some x) (hx : Loc X.env.scope x) (he : PE X e (up X.kx te)) (hf : X.fn x = true ∨ X.env.scope.names.lookup x = some .local) (hop : op = .Add ∨ op = .Sub) :
    PS X (.AugAssign (.Name x pos') op e pos) (upS X.kx fun P t mu => getS t i fun x => te t mu fun y mu1 => augR op x y fun w => P.nx (t.set i (some w)) mu1) := by
  have go : ∀ (fi : Int → Int → Int), PIp X op (ipI fi) → (∀ x y Q, augR op x y Q → ∃ i j, x = .int i ∧ y = .int j ∧ Q (.int (fi i j))) →
      PS X (.AugAssign (.Name x pos') op e pos) (upS X.kx fun P t mu => getS t i fun x => te t mu fun y mu1 => augR op x y fun w => P.nx (t.set i (some w)) mu1) := fun fi hp hr => by
    refine PS.mn (ps_aug hN hi hx he hp hf) fun D s H ⟨ta, mu, P, S, h, k⟩ => ?_
    obtain ⟨w, e1, h⟩ := getS_ok h
    obtain ⟨v, e2, r⟩ := S.get i w e1
    refine ⟨v, e2, ta, mu, _, S, h, fun y mu1 u H1 hy ry m f => ?_⟩
    obtain ⟨i', j, rfl, rfl, hq⟩ := hr _ _ _ hy
    cases r
    cases ry
    exact ⟨_, _, rfl, rfl, k.nx _ mu1 _ H1 hq ((S.step f m).set i (.int _)) f⟩
  rcases hop with rfl | rfl
  · refine go _ ip_add fun x y Q h => ?_
    cases x <;> cases y <;> first
      | exact ⟨_, _, rfl, rfl, h⟩
      | exact (show False from h).elim
  · refine go _ ip_sub fun x y Q h => ?_
    cases x <;> cases y <;> first
      | exact ⟨_, _, rfl, rfl, h⟩
      | exact (show False from h).elim
/-! loops -/
theorem s_for {ti : IW} {sb : SW} (hp : PassesOwn (model X.prog X.w) X.A X.env X.xe) (hc : X.calm = true) (hi : PI X tg it (upI X.kx ti)) (hg : PG X tg (upG X.kx is g)) (hb : PSs X body (upS X.kx sb)) (hs : ∀ x, foldedSetIterable it X.env x = pure x) :
    PS X (.For tg it body [] pos) (upS X.kx fun P t mu => ti t mu fun ws src mu1 => forW g sb src P ws t mu1) := by
  refine PS.mn (ps_for hp hc hi hg hb hs) fun D s H ⟨ta, mu, P, S, h, k⟩ => ⟨ta, mu, _, S, h, fun ws src mu1 H1 J hw m1 f1 wj => ?_⟩
  refine ⟨fun i m s2 H2 => ∃ t2 mu2, SR X.kx s2 t2 H2 mu2 ∧ Frm H1 mu1 H2 mu2 ∧ i ≤ ws.length ∧ m = ws.length - i ∧ forW g sb src P (ws.drop i) t2 mu2, ⟨_, ta, mu1, S.step f1 m1, Frm.refl _ _, Nat.zero_le _, rfl, by rw [List.drop_zero]; exact hw⟩, ?_⟩
  rintro i m s2 H2 ⟨t2, mu2, S2, f2, hi, rfl, hF⟩
  by_cases hlt : i < ws.length
  · rw [List.drop_eq_getElem_cons hlt] at hF
    obtain ⟨st, hF⟩ := hF
    obtain ⟨q1, _⟩ := wj i H2 mu2 S2.m f2 st
    obtain ⟨go, yl⟩ := q1 _ (List.getElem?_eq_getElem hlt)
    refine .inr ⟨go, fun s3 H3 => ∃ t2 mu2, SR X.kx s3 t2 H3 mu2 ∧ Frm H1 mu1 H3 mu2 ∧ i + 1 ≤ ws.length ∧ forW g sb src P (ws.drop (i + 1)) t2 mu2, fun s3 H3 ⟨t3, mu3, S3, f3, h3, hF3⟩ => ⟨_, by omega, t3, mu3, S3, f3, h3, rfl, hF3⟩, fun x H3 hy => ?_⟩
    obtain ⟨rx, m3, f3⟩ := yl x H3 hy
    refine ⟨_, t2, mu2, _, rx, S2.step f3 m3, hF, fun t4 mu4 s4 H4 hp S4 f4 _ => ⟨t4, mu4, _, S4, hp, ?_⟩⟩
    have fb := (f2.trans f3).trans f4
    exact ⟨fun a b c d h S g => ⟨a, b, S, fb.trans g, hlt, h⟩, fun a b c d h r m g => k.rt a b c d h r m ((f1.trans fb).trans g), fun a b c d h S g => k.nx a b c d h S ((f1.trans fb).trans g), fun a b c d h S g => ⟨a, b, S, fb.trans g, hlt, h⟩⟩
  · have e : i = ws.length := by omega
    subst e
    rw [List.drop_length] at hF
    obtain ⟨st, hn⟩ := hF
    exact .inl ⟨(wj _ H2 mu2 S2.m f2 st).2 rfl, k.nx t2 mu2 s2 H2 hn S2 (f1.trans f2)⟩
theorem s_whl {sb : SW} (hp : PassesOwn (model X.prog X.w) X.A X.env X.xe) (hc : PT X e (upT X.kx u1)) (hb : PSs X body (upS X.kx sb)) :
    PS X (.While e body [] pos) (upS X.kx fun P t mu => ∃ Z : Nat → Tau → Mu → Prop, (∃ m, Z m t mu) ∧ ∀ m t mu, Z m t mu → u1 t mu fun k mu1 =>
      if k = true then sb { nx := fun t' mu' => ∃ m', m' < m ∧ Z m' t' mu', ct := fun t' mu' => ∃ m', m' < m ∧ Z m' t' mu', bk := P.nx, rt := P.rt } t mu1 else P.nx t mu1) := by
  refine PS.mn (ps_while hp hc hb) fun D s H ⟨ta, mu, P, S, ⟨Z, ⟨m0, z0⟩, hz⟩, k⟩ => ?_
  refine ⟨fun m s2 H2 => ∃ t2 mu2, SR X.kx s2 t2 H2 mu2 ∧ Frm H mu H2 mu2 ∧ Z m t2 mu2, ⟨m0, ta, mu, S, Frm.refl _ _, z0⟩, ?_⟩
  rintro m s2 H2 ⟨t2, mu2, S2, f2, hZ⟩
  refine ⟨t2, mu2, _, S2, hz m t2 mu2 hZ, fun d mu3 H3 hd m3 f3 => ?_⟩
  cases d with
  | true =>
    have fb := f2.trans f3
    exact ⟨fun s4 H4 => ∃ m', m' < m ∧ ∃ t4 mu4, SR X.kx s4 t4 H4 mu4 ∧ Frm H mu H4 mu4 ∧ Z m' t4 mu4, fun s4 H4 h => h, t2, mu3, _, S2.step f3 m3, hd,
      ⟨fun a b c d ⟨m', hm, h⟩ S g => ⟨m', hm, a, b, S, fb.trans g, h⟩, fun a b c d h r m g => k.rt a b c d h r m (fb.trans g), fun a b c d h S g => k.nx a b c d h S (fb.trans g), fun a b c d ⟨m', hm, h⟩ S g => ⟨m', hm, a, b, S, fb.trans g, h⟩⟩⟩
  | false => exact k.nx t2 mu3 s2 H3 hd (S2.step f3 m3) (f2.trans f3)
/-! comprehensions -/
theorem wipe_get : ∀ (vs : List Nat) (s : L2.St) (j : Nat), j ∉ vs → (wipe s vs)[j]? = s[j]?
  | [], _, _, _ => rfl
  | v :: vs, s, j, h => by
    unfold wipe
    rw [List.getElem?_set_ne (fun z => h (by rw [z]; exact List.mem_cons_self ..))]
    exact wipe_get vs s j fun z => h (List.mem_cons_of_mem _ z)
theorem wipe_in : ∀ (vs : List Nat) (s : L2.St) (j : Nat), j ∈ vs → (wipe s vs)[j]? = if j < s.length then some none else none
  | v :: vs, s, j, h => by
    unfold wipe
    by_cases e : v = j
    · subst e
      by_cases hl : v < s.length
      · rw [if_pos hl, List.getElem?_set_self (by rw [wipe_length]; exact hl)]
      · rw [if_neg hl, List.getElem?_eq_none (by rw [List.length_set, wipe_length]; omega)]
    · rw [List.getElem?_set_ne e]
      rcases List.mem_cons.mp h with z | z
      · exact absurd z.symm e
      · exact wipe_in vs s j z
theorem wipe_same {is vs : List Nat} {s s' : L2.St} (h : Same is s s') (i : ∀ k ∈ is, k ∈ vs) : wipe s' vs = wipe s vs := by
  refine List.ext_getElem? fun j => ?_
  by_cases hj : j ∈ vs
  · rw [wipe_in vs s' j hj, wipe_in vs s j hj, h.1]
  · rw [wipe_get vs s' j hj, wipe_get vs s j hj]
    exact h.2 j fun z => hj (i j z)
theorem wipe_wipe {vs : List Nat} {s : L2.St} : wipe (wipe s vs) vs = wipe s vs := by
  refine List.ext_getElem? fun j => ?_
  by_cases hj : j ∈ vs
  · rw [wipe_in vs _ j hj, wipe_in vs s j hj, wipe_length]
  · rw [wipe_get vs _ j hj]
theorem wipeW_some : ∀ {vs : List Nat} {t : Tau} {i : Nat} {w : W}, (wipeW t vs)[i]? = some (some w) → i ∉ vs ∧ t[i]? = some (some w)
  | [], _, _, _, h => ⟨fun z => (nomatch z), h⟩
  | v :: vs, t, i, w, h => by
    unfold wipeW at h
    by_cases e : v = i
    · subst e
      by_cases hl : v < (wipeW t vs).length
      · rw [List.getElem?_set_self hl] at h; cases h
      · rw [List.getElem?_eq_none (by simpa using hl)] at h; cases h
    · rw [List.getElem?_set_ne e] at h
      obtain ⟨h1, h2⟩ := wipeW_some h
      exact ⟨fun z => (List.mem_cons.mp z).elim (fun q => e q.symm) h1, h2⟩
theorem wipeW_len (t : Tau) : ∀ vs : List Nat, (wipeW t vs).length = t.length
  | [] => rfl
  | v :: vs => by unfold wipeW; rw [List.length_set, wipeW_len t vs]
theorem SR.wipe {K : Kx} {s : L2.St} {t : Tau} {H : Hp} {mu : Mu} (S : SR K s t H mu) (vs : List Nat) : SR K (wipe s vs) (wipeW t vs) H mu := by
  refine ⟨by rw [wipe_length, wipeW_len]; exact S.len, fun i w e => ?_, S.m⟩
  obtain ⟨h1, h2⟩ := wipeW_some e
  obtain ⟨v, e1, r⟩ := S.get i w h2
  exact ⟨v, by rw [wipe_get vs s i h1]; exact e1, r⟩
theorem SR.cong {K : Kx} {s s' : L2.St} {t : Tau} {H : Hp} {mu : Mu} (S : SR K s t H mu) (e : s' = s) : SR K s' t H mu := by rw [e]; exact S
/-- the list that a comprehension makes, at the end -/
theorem MRel.dellL {K : Kx} {H : Hp} {mu : Mu} {p : Addr} {ws : List W} {vs : List V} (m : MRel K H mu) (e : mu p = some (.lst ws)) (h : H p = some (.lst vs)) (r : Rps K H mu ws vs) : MRel K H (FF.dell mu p) ∧ Rp K H (FF.dell mu p) (.lst ws) (.ref p) := by
  obtain ⟨m', f⟩ := m.dell p
  exact ⟨m', .lst h (if_pos rfl) (r.frm m f)⟩
theorem Frm.out {K : Kx} {H H' : Hp} {mu mu' : Mu} {p : Addr} {u : HO} {o : O} (f : Frm (upd H p u) (sett mu p o) H' mu') (hp : H p = none) (m : MRel K H mu) : Frm H mu H' mu' ∧ Frm H mu H' (dell mu' p) := by
  have g : Frm H mu H' mu' := (Frm.freshO hp).trans f
  refine ⟨g, ⟨g.rd, g.ls, g.ts, fun a n h => ?_, g.st⟩⟩
  unfold FF.dell
  split
  · rfl
  · exact g.nn a n h
/-- what comes of it -/
def lcR (own : Bool) (p : Addr) (Q : QW) : List W → Mu → Prop := fun acc mu2 => if own = true then Q (.ref p) mu2 else Q (.lst acc) (dell mu2 p)
theorem lc_up {own : Bool} {ti : IW} {cd : CW} {el : TW} {ss : List Nat} (hss : ∀ k ∈ is, k ∈ ss) : ∀ (s : L2.St) (H : Hp) (Q : VK),
    up X.kx (fun t mu P => ti t mu fun ws src mu1 => ∀ p, mu1 p = none → compW g cd el ss src t p (lcR own p P) ws [] (sett mu1 p (.lst []))) s H Q →
      tLc (upI X.kx ti) (upG X.kx is g) (upT X.kx cd) (up X.kx el) ss s H Q := by
  rintro s H Q ⟨t, mu, P, S, h, k⟩
  refine ⟨t, mu, _, S, h, fun ws src mu1 H1 J hw m1 f1 wj D hD => ?_⟩
  have hw := hw D (m1.none_of hD)
  have f0 : Frm H1 mu1 (upd H1 D (.lst [])) (sett mu1 D (.lst [])) := Frm.freshO hD
  have m0 : MRel X.kx (upd H1 D (.lst [])) (sett mu1 D (.lst [])) := m1.freshO hD ⟨[], upd_same, .nil⟩
  have S0 : SR X.kx s t (upd H1 D (.lst [])) (sett mu1 D (.lst [])) := (S.step f1 m1).step f0 m0
  refine ⟨fun i m H2 => ∃ acc mu2, SR X.kx s t H2 mu2 ∧ Frm (upd H1 D (.lst [])) (sett mu1 D (.lst [])) H2 mu2 ∧ i ≤ ws.length ∧ m = ws.length - i ∧ compW g cd el ss src t D (lcR own D P) (ws.drop i) acc mu2, ⟨_, [], _, S0, Frm.refl _ _, Nat.zero_le _, rfl, by rw [List.drop_zero]; exact hw⟩, ?_⟩
  rintro i m H2 ⟨acc, mu2, S2, f2, hi, rfl, hF⟩
  obtain ⟨g1, g2⟩ := f2.out hD m1
  by_cases hlt : i < ws.length
  · rw [List.drop_eq_getElem_cons hlt] at hF
    obtain ⟨sty, hF⟩ := hF
    obtain ⟨q1, _⟩ := wj i H2 mu2 S2.m g1 sty
    obtain ⟨go, yl⟩ := q1 _ (List.getElem?_eq_getElem hlt)
    refine .inr ⟨go, fun H3 => ∃ acc mu3, SR X.kx s t H3 mu3 ∧ Frm (upd H1 D (.lst [])) (sett mu1 D (.lst [])) H3 mu3 ∧ i + 1 ≤ ws.length ∧ compW g cd el ss src t D (lcR own D P) (ws.drop (i + 1)) acc mu3, fun H3 ⟨a3, mu3, S3, f3, h3, hF3⟩ => ⟨_, by omega, a3, mu3, S3, f3, h3, rfl, hF3⟩, fun x H3 hy => ?_⟩
    obtain ⟨rx, m3, f3⟩ := yl x H3 hy
    refine ⟨_, _, mu2, _, rx, (S2.step f3 m3).wipe ss, hF, fun t4 mu4 s4 H4 hp S4 f4 sm => ⟨(wipe_same sm hss).trans wipe_wipe, t4, mu4, _, S4, hp, fun b mu5 H5 hb m5 f5 => ?_⟩⟩
    have fb := ((f2.trans f3).trans f4).trans f5
    have S5 : SR X.kx s t H5 mu5 := S2.step ((f3.trans f4).trans f5) m5
    cases b with
    | true =>
      refine ⟨t4, mu5, _, S4.step f5 m5, hb, fun y mu6 v H6 hy' r6 m6 f6 => ?_⟩
      obtain ⟨e6, hz, hc⟩ := hy'
      obtain ⟨vs, hv, rr⟩ := m6 D _ e6
      have ne : mu6 D ≠ none := by rw [e6]; exact fun z => nomatch z
      have f7 : Frm H6 mu6 (upd H6 D (.lst (vs ++ [v]))) (sett mu6 D (.lst (acc ++ [y]))) := Frm.write m6 ne
      have rr7 : Rps X.kx (upd H6 D (.lst (vs ++ [v]))) (sett mu6 D (.lst (acc ++ [y]))) (acc ++ [y]) (vs ++ [v]) := (rr.append (.cons r6 .nil)).frm m6 f7
      have m7 := m6.write ne (u := .lst (vs ++ [v])) (o := .lst (acc ++ [y])) ⟨_, upd_same, rr7⟩
      exact ⟨vs, hv, by rw [← rr.length]; exact hz, _, _, (S5.step f6 m6).step f7 m7, (fb.trans f6).trans f7, hlt, hc⟩
    | false => exact ⟨acc, mu5, S5, fb, hlt, hb⟩
  · have e : i = ws.length := by omega
    subst e
    rw [List.drop_length] at hF
    obtain ⟨sty, ed, hn⟩ := hF
    refine .inl ⟨(wj _ H2 mu2 S2.m g1 sty).2 rfl, ?_⟩
    unfold lcR at hn
    cases own with
    | true => exact k _ mu2 _ H2 hn (.ref D) S2.m (f1.trans g1)
    | false =>
      obtain ⟨vs, hv, rr⟩ := S2.m D _ ed
      obtain ⟨m', r'⟩ := S2.m.dellL ed hv rr
      exact k _ _ _ H2 hn r' m' (f1.trans g2)
end
end FF

/-! enumerate of a list, of a tuple. -/
namespace FF
open PySem PySem.Spec PyProof.Rows L2
/-- a list or a tuple -/
def SqB (K : Kx) (H : Hp) (l : Bool) (a : Addr) (xs : List V) : Prop := if l = true then H a = some (.lst xs) else TX H a xs
/-- its items in new pairs, numbered -/
def ItE (K : Kx) (l : Bool) (a : Addr) : It :=
  ⟨fun i H => ∃ (xs : List V) (x : V), SqB K H l a xs ∧ xs[i]? = some x,
    fun i H v H' => ∃ (T : Addr) (x : V) (o : Obj), v = .ref T ∧ H T = none ∧ o.dict = none ∧ H' = upd H T (.frz o (.tup [.int (i : Nat), x])) ∧ ∀ xs, SqB K H l a xs → xs[i]? = some x,
    fun i H => ∃ xs : List V, SqB K H l a xs ∧ i = xs.length⟩
/-- how the iterator of either stands -/
def ItrAt (l : Bool) (h : Heap) (it a : Addr) (i : Nat) : Prop := if l = true then h.IsListIter it a i else h.IsTupleIter it a i
theorem ItrAt.at {l : Bool} {h h' : Heap} {it a : Addr} {i : Nat} (x : ItrAt l h it a i) (k : ∀ o, h.get? it = some o → h'.get? it = some o) : ItrAt l h' it a i := by
  unfold ItrAt at *
  split
  · rename_i e; rw [if_pos e] at x; exact x.at k
  · rename_i e; rw [if_neg e] at x; exact x.at k
theorem ItrAt.obj {l : Bool} {h : Heap} {it a : Addr} {i : Nat} (x : ItrAt l h it a i) : ∃ o, h.get? it = some o ∧ ∀ v, o.data ≠ .cell v := by
  unfold ItrAt at x
  split at x
  · obtain ⟨o, e, _, d⟩ := x; exact ⟨o, e, fun v z => by rw [d] at z; cases z⟩
  · obtain ⟨o, e, _, d⟩ := x; exact ⟨o, e, fun v z => by rw [d] at z; cases z⟩
section
variable {X : Cx} {pins : List (Addr × Obj)} {st : L2.St} {H : Hp} {s : Shared}
theorem sqB_inj (I : Inv X pins st H s) {l : Bool} {a : Addr} {xs ys : List V} (h1 : SqB X.kx H l a xs) (h2 : SqB X.kx H l a ys) : xs = ys := by
  unfold SqB at *
  split at h1
  · rename_i e; rw [if_pos e] at h2; exact I.list_inj (SqL.of h1) (SqL.of h2)
  · rename_i e; rw [if_neg e] at h2; exact I.tuple_inj h1.sq h2.sq
theorem sqB_ne {l : Bool} {a : Addr} {xs : List V} (h : SqB X.kx H l a xs) : H a ≠ none := by
  unfold SqB at h
  split at h
  · rw [h]; exact fun z => nomatch z
  · obtain ⟨o, _, e⟩ := h; rw [e]; exact fun z => nomatch z
/-- its iterator draws its items -/
theorem sqB_draws (I : Inv X pins st H s) {l : Bool} {a it : Addr} {xs : List V} (h : SqB X.kx H l a xs) (hne : a ≠ it) (A : Around) (hh : A.handled = none) :
    ∃ (its : List Value) (Sq : Heap → Prop), Vals xs its ∧ Sq s.heap ∧ (∀ h h', Sq h → (∀ o, h.get? a = some o → h'.get? a = some o) → Sq h') ∧
      Draws X.prog X.w A it [it, a] its.toArray.size (fun i v => its.toArray[i]? = some v) (fun i h => ItrAt l h it a i ∧ Sq h) := by
  unfold SqB at h
  split at h
  · rename_i e
    obtain ⟨its, rv, p, hz⟩ := I.list (SqL.of h)
    refine ⟨its, fun h => h.IsList a its.toArray, rv, p.isList, fun h h' x k => x.at k, ?_⟩
    have D := Draws.list (prog := X.prog) (w := X.w) (A := A) hh it a hne its.toArray
    unfold ItrAt
    simp only [e, if_true]
    exact D
  · rename_i e
    obtain ⟨its, rv, p, hz⟩ := I.tuple h.sq
    refine ⟨its, fun h => h.IsTuple a its.toArray, rv, p, fun h h' x k => x.at k, ?_⟩
    have D := Draws.tuple (prog := X.prog) (w := X.w) (A := A) hh it a hne its.toArray
    unfold ItrAt
    simp only [e, if_false]
    exact D
end
theorem turn_enB {P : Program} {w : World} {K : PySem.W.Frag} {elts : List Expr} {kk : Nat} {tpos : Pos} (l : Bool) (a e it : Addr) :
    Turn P w K (.Tuple elts kk tpos) (ItE ⟨P, w, K⟩ l a) [e, it] e (fun i h => (∃ old, IsEnum h e it ((i : Nat) : Int) old) ∧ ItrAt l h it a i ∧ e ≠ it) where
  mem := by simp
  obj := fun i h st b hb => by
    obtain ⟨⟨old, he⟩, hi, _⟩ := st
    have e' : b = e ∨ b = it := by simpa using hb
    rcases e' with z | z
    · rw [z]; exact ⟨_, he, fun v q => nomatch q⟩
    · rw [z]; exact hi.obj
  keep := fun i h h' st k => let ⟨⟨old, he⟩, hi, hne⟩ := st; ⟨⟨old, k e (by simp) _ he⟩, hi.at fun o q => k it (by simp) o q, hne⟩
  item := by
    intro X hP hw hK hc i pins s st H E I hf sti hg
    subst hP hw hK
    obtain ⟨⟨old, he⟩, hit, hne⟩ := sti
    obtain ⟨xs, x, hq, hx⟩ := hg
    have hea : e ≠ a := fun z => sqB_ne hq (by rw [← z]; exact (hf e (by simp)).1)
    have hai : a ≠ it := fun z => sqB_ne hq (by rw [z]; exact (hf it (by simp)).1)
    obtain ⟨its, Sq, rv, hSq, hkp, D⟩ := sqB_draws I hq hai X.A.in1 (I.ok.hd hc)
    obtain ⟨u, hu, ru⟩ := rv.get hx
    have hlt : i < its.toArray.size := by
      have := (List.getElem?_eq_some_iff.mp hu).1
      simpa using this
    have hel : e < s.heap.objs.size := Heap.lt_size he
    have hil : it < s.heap.objs.size := by obtain ⟨_, q, _⟩ := hit.obj; exact Heap.lt_size q
    refine wpAny_pyNext_enum_itemD D he ⟨hit, hSq⟩ hlt hne (by simp only [List.mem_cons, List.mem_singleton, List.not_mem_nil, or_false, not_or]; exact ⟨hne, hea⟩) fun u' h' tk hP ho hst' hT hsz hk => ?_
    have eu : u' = u := by
      rw [List.getElem?_toArray, hu] at hP
      exact (Option.some.inj hP).symm
    subst eu
    refine ⟨_, rfl, wpAny_letOwnedTupleGo_enum (s := { s with heap := h', toks := tk + 1 }) ho fun h'' he' sb => ?_⟩
    have hT2 : h''.get? s.heap.objs.size = some { cls := .type "tuple", data := .seq #[.int i tk, u'] } := (sb.2 _ (Nat.ne_of_gt hel)).trans hT
    have new : ObjOk X.prog X.w (upd H s.heap.objs.size (.frz { cls := .type "tuple", data := .seq #[.int i tk, u'] } (.tup [.int (i : Nat), x]))) h'' s.heap.objs.size (.frz { cls := .type "tuple", data := .seq #[.int i tk, u'] } (.tup [.int (i : Nat), x])) :=
      ⟨hT2, by show 2 ≤ sizeLine; decide, [.int i tk, u'], .cons ⟨_, rfl⟩ (.cons ru .nil), ⟨_, hT2, rfl, _, rfl⟩⟩
    have I1 : Inv X pins st (upd H s.heap.objs.size (.frz { cls := .type "tuple", data := .seq #[.int i tk, u'] } (.tup [.int (i : Nat), x]))) { s with heap := h'', toks := tk + 1 } :=
      I.turnedNew (ch := [e, it]) (fun b ob hb q => (sb.2 b (fun z => hb (by simp [z]))).trans (hk b ob (fun z => hb (by simp [z])) (fun z => hb (by simp [z])) q)) hf (Nat.le_refl _) new
    refine ⟨.ref s.heap.objs.size, _, I1, rfl, ⟨_, x, _, rfl, I.hok.fresh (Nat.le_refl _), rfl, rfl, fun ys hy => by rw [sqB_inj I hy hq]; exact hx⟩, ⟨⟨u', ?_⟩, hst'.1.at fun o q => (sb.2 it (Ne.symm hne)).trans q, hne⟩, fun b hb => ?_⟩
    · have e1 : ((i + 1 : Nat) : Int) = (i : Int) + 1 := by omega
      rw [e1]; exact he'
    · have hb' : b < s.heap.objs.size := by
        have e' : b = e ∨ b = it := by simpa using hb
        rcases e' with z | z
        · rw [z]; exact hel
        · rw [z]; exact hil
      rw [upd_ne (Nat.ne_of_lt hb')]
      exact (hf b hb).1
  done := by
    intro X hP hw hK hc i pins s st H E I hf sti hg
    subst hP hw hK
    obtain ⟨⟨old, he⟩, hit, hne⟩ := sti
    obtain ⟨xs, hq, hx⟩ := hg
    have hai : a ≠ it := fun z => sqB_ne hq (by rw [z]; exact (hf it (by simp)).1)
    obtain ⟨its, Sq, rv, hSq, hkp, D⟩ := sqB_draws I hq hai X.A.in1 (I.ok.hd hc)
    obtain ⟨f0, f1, f2, f3, f4, f5⟩ := hf it (by simp)
    have ei : i = its.toArray.size := by rw [List.size_toArray, ← rv.length]; exact hx
    rw [ei] at hit
    exact wpAny_pyNext_enum_endD D he ⟨hit, hSq⟩ fun h' eb => ⟨rfl, I.turned (t' := s.toks) (fun b o hb q => eb b o hb q) f0 f1 f3 f4 f5⟩
  self := fun A i s Q E st h => let ⟨⟨_, he⟩, _⟩ := st; wpAny_pyIter_enum he h
set_option maxHeartbeats 1000000 in
theorem meets_en1 {v : Value} {o : Obj} {Hy : Heap → Prop} (B : Begins v o Hy) :
    Meets (Builtin.«enumerate.__new__» ⟨[.type "enumerate", v], []⟩) (fun _ R s => Hy s.heap ∧
      R (.ok (.ret (.ref (s.heap.push o).objs.size))) { s with heap := (s.heap.push o).push { cls := .type "enumerate", data := .fields #[.none, .bool false, .ref s.heap.objs.size, rawInt 0, .none, .none] } }) :=
  .of_wp fun prog w A R s h => by
    obtain ⟨hp, g, d, tk, os⟩ := s; obtain ⟨h1, h⟩ := h
    have hsub := sub_enumerate
    have q1 : ∀ {A' : Around} {E : Value → Shared → Prop} {Q : Value → Shared → Prop}, Q (.ref hp.objs.size) ⟨hp.push o, g, d, tk, os⟩ → wpAny (model prog w) A' (pyIter v) Q E ⟨hp, g, d, tk, os⟩ :=
      fun q => B.iter prog w _ _ ⟨hp, g, d, tk, os⟩ _ h1 q
    wp_walk using q1
    refine wpAny_stack_any fun _ => wpAny_pure ?_
    split
    · rename_i c _ _ _ _ _
      cases (c == Value.type "enumerate")
      · wp_walk using q1
        exact ⟨_, rfl, h⟩
      · wp_walk using q1
        exact ⟨_, rfl, h⟩
    · wp_walk using q1
      exact ⟨_, rfl, h⟩
theorem call_en1 {P : Program} {w : World} {A : Around} {E : Value → Shared → Prop} {s : Shared} {v : Value} {o : Obj} {Hy : Heap → Prop} {Q : Value → Shared → Prop} (B : Begins v o Hy) (h1 : Hy s.heap)
    (h : ∀ h', IsEnum h' (s.heap.objs.size + 1) s.heap.objs.size 0 .none → h'.get? s.heap.objs.size = some o → h'.objs.size = s.heap.objs.size + 2 →
      (∀ b o, s.heap.get? b = some o → h'.get? b = some o) → Q (.ref (s.heap.objs.size + 1)) { s with heap := h' }) :
    wpAny (model P w) A (call (.type "enumerate") [v]) Q E s := by
  refine callType_new F.called_enumerate (by decide) (F.typeCall_enumerate_1 _) (F.newCall_enumerate_1 _) (fun obj => F.args_object_init_2 obj _) F.entry_enumerate_new (meets_en1 B) ⟨h1, ?_⟩
  have hz : (s.heap.push o).objs.size = s.heap.objs.size + 1 := Heap.size_push ..
  show _ ∧ _
  rw [hz]
  have he : IsEnum ((s.heap.push o).push { cls := .type "enumerate", data := .fields #[.none, .bool false, .ref s.heap.objs.size, rawInt 0, .none, .none] }) (s.heap.objs.size + 1) s.heap.objs.size 0 .none := by
    have := Heap.get?_push_size (s.heap.push o) (o := { cls := .type "enumerate", data := .fields #[.none, .bool false, .ref s.heap.objs.size, rawInt 0, .none, .none] }) rfl
    rw [hz] at this; exact this
  exact ⟨⟨_, he, rfl⟩, h _ he (Heap.get?_push_of_some _ (Heap.get?_push_size _ B.free)) (by rw [Heap.size_push, hz]) fun b o x => Heap.get?_push_of_some _ (Heap.get?_push_of_some _ x)⟩
section
variable {X : Cx}
theorem enuW_get : ∀ (ws : List W) (k i : Nat) (w : W), (enuW k ws)[i]? = some w → ∃ u, ws[i]? = some u ∧ w = .tup [.int ((k + i : Nat) : Int), u]
  | [], k, i, w, h => by unfold enuW at h; simp at h
  | u :: ws, k, 0, w, h => by unfold enuW at h; cases h; exact ⟨u, rfl, rfl⟩
  | u :: ws, k, i + 1, w, h => by
    unfold enuW at h
    obtain ⟨z, h1, h2⟩ := enuW_get ws (k + 1) i w (by simpa using h)
    refine ⟨z, by simpa using h1, ?_⟩
    rw [h2, show k + 1 + i = k + (i + 1) by omega]
theorem enuW_len : ∀ (ws : List W) (k : Nat), (enuW k ws).length = ws.length
  | [], _ => rfl
  | u :: ws, k => by unfold enuW; rw [List.length_cons, List.length_cons, enuW_len ws (k + 1)]
theorem wj_enu {K : Kx} {H : Hp} {mu : Mu} {ws : List W} {src : Src} {l : Bool} {a : Addr} (hq : ∀ H1 mu1, MRel K H1 mu1 → Frm H mu H1 mu1 → stays src mu1 → ∃ xs, SqB K H1 l a xs ∧ Rps K H1 mu1 ws xs) : WJ K (ItE K l a) (enuW 0 ws) src H mu := fun i H1 mu1 m1 f st => by
  obtain ⟨xs, hx, r⟩ := hq H1 mu1 m1 f st
  refine ⟨fun w e => ?_, fun e => ⟨xs, hx, by rw [e, enuW_len, r.length]⟩⟩
  obtain ⟨u, e1, rfl⟩ := enuW_get ws 0 i w e
  rw [Nat.zero_add]
  obtain ⟨v, ev, rv⟩ := r.get e1
  refine ⟨⟨xs, v, hx, ev⟩, fun x H' ⟨T, x', o, e2, hT, ho, e3, h4⟩ => ?_⟩
  subst e2 e3
  have e5 := h4 xs hx
  rw [ev] at e5
  cases e5
  have f2 : Frm H1 mu1 (upd H1 T (.frz o (.tup [.int (i : Nat), v]))) mu1 := Frm.fresh hT
  exact ⟨.tup ⟨o, ho, upd_same⟩ (.cons (.int _) (.cons (rv.frm m1 f2) .nil)), m1.fresh hT, f2⟩
theorem i_enu {e : Expr} {es : List Expr} {k : Nat} {t : TW} {p pos tpos : Pos} (hc : X.calm = true) (hg : Gl X "enumerate") (hm : X.mg "enumerate" = none) (he : PE X e (up X.kx t)) (hs : starEach [e] X.env = (false, eval e X.env) :: starEach [] X.env) :
    PI X (.Tuple es k tpos) (.Call (.Name "enumerate" p) [e] [] pos) (upI X.kx fun ta mu P => t ta mu fun x mu1 => ∃ ws, itemsOf mu1 x = some ws ∧ P (enuW 0 ws) (srcOf mu1 x) mu1) := by
  refine ⟨fun pins s st H R I h => ?_⟩
  obtain ⟨ta, mu, P, S, h, kf⟩ := h
  refine Call_ (ld_blt I hg hm boot_enumerate (PyProof.Rows.callWith_type1 (args_cons (thn (he.run pins s st H (fun v H1 => ∃ x mu1, Rp X.kx H1 mu1 x v ∧ MRel X.kx H1 mu1 ∧ Frm H mu H1 mu1 ∧ ∃ ws, itemsOf mu1 x = some ws ∧ P (enuW 0 ws) (srcOf mu1 x) mu1) I ⟨ta, mu, _, S, h, fun x mu1 v H1 hx rx m1 g1 => ⟨x, mu1, rx, m1, g1, hx⟩⟩) fun v s1 ⟨xv, H1, I1, r1, x, mu1, rx, m1, g1, ws, e1, hx⟩ => args_nil ?_) hs) hs rfl))
  obtain ⟨a, l, rfl, vs0, hl0, hq⟩ : ∃ a l, xv = .ref a ∧ ∃ vs0, SqB X.kx H1 l a vs0 ∧ ∀ H2 mu2, MRel X.kx H2 mu2 → Frm H1 mu1 H2 mu2 → stays (srcOf mu1 x) mu2 → ∃ xs, SqB X.kx H2 l a xs ∧ Rps X.kx H2 mu2 ws xs := by
    have vq := vw_ok m1 rx
    unfold itemsOf at e1
    split at e1
    · rename_i ws' e2
      cases e1
      rw [e2] at vq
      obtain ⟨a, vs, rfl, hp, rr⟩ := vq.tupE
      exact ⟨a, false, rfl, vs, hp, fun H2 mu2 m2 f2 _ => ⟨vs, hp.frm f2, rr.frm m1 f2⟩⟩
    · rename_i ws' e2
      cases e1
      cases rx with
      | ref p =>
        cases em : mu1 p with
        | none =>
          have z : vw mu1 (.ref p) = .ref p := by unfold vw; simp only [em]
          rw [z] at e2; cases e2
        | some ob =>
          cases ob with
          | lst ws'' =>
            have z : vw mu1 (.ref p) = .lst ws'' := by unfold vw; simp only [em]
            rw [z] at e2; cases e2
            have q : srcOf mu1 (.ref p) = .own p ws := by unfold srcOf; simp only [em]
            rw [q]
            obtain ⟨vs, hv, _⟩ := m1 p _ em
            exact ⟨p, true, rfl, vs, hv, fun H2 mu2 m2 f2 sy => m2 p _ sy⟩
          | dct t kvs =>
            have z : vw mu1 (.ref p) = .dct t kvs := by unfold vw; simp only [em]
            rw [z] at e2; cases e2
      | lst hp n rr => cases e2; exact ⟨_, true, rfl, _, hp, fun H2 mu2 m2 f2 _ => ⟨_, f2.ls _ _ n hp, rr.frm m1 f2⟩⟩
      | non => cases e2
      | bl _ => cases e2
      | int _ => cases e2
      | str _ => cases e2
      | tup _ _ => cases e2
      | dK _ _ _ => cases e2
      | dT _ _ _ => cases e2
      | scr _ => cases e2
    · cases e1
  cases r1
  have fin : ∀ h', IsEnum h' (s1.heap.objs.size + 1) s1.heap.objs.size 0 .none → ItrAt l h' s1.heap.objs.size a 0 → h'.objs.size = s1.heap.objs.size + 2 → (∀ b o, s1.heap.get? b = some o → h'.get? b = some o) →
      wpAny (model X.prog X.w) X.A (pyIter (.ref (s1.heap.objs.size + 1))) (PIE X pins st (.Tuple es k tpos) R) X.xe { s1 with heap := h' } := fun h' he' hit hsz hk => by
    refine wpAny_pyIter_enum he' ?_
    have I2 : Inv X pins st H1 { s1 with heap := h' } := I1.kept (t' := s1.toks) hk
    refine ⟨s1.heap.objs.size + 1, [s1.heap.objs.size + 1, s1.heap.objs.size], _, _, H1, rfl, I2, turn_enB l a (s1.heap.objs.size + 1) s1.heap.objs.size, ⟨⟨.none, he'⟩, hit, Nat.succ_ne_self _⟩, fun b hb => ?_, kf _ _ mu1 H1 _ hx m1 g1 (wj_enu hq)⟩
    have e' : b = s1.heap.objs.size + 1 ∨ b = s1.heap.objs.size := by simpa using hb
    rcases e' with z | z
    · subst z; exact I1.fpOk (Nat.le_succ _) (I1.hok.fresh (Nat.le_succ _))
    · subst z; exact I1.fpOk (Nat.le_refl _) (I1.hok.fresh (Nat.le_refl _))
  cases l with
  | true =>
    obtain ⟨its, rv, pl, hz⟩ := I1.list (SqL.of (show H1 a = some (.lst vs0) from hl0))
    exact call_en1 (begins_list a its.toArray) pl.isList fun h' he' hit hsz hk => fin h' he' ⟨_, hit, rfl, rfl⟩ hsz hk
  | false =>
    obtain ⟨its, rv, pl, hz⟩ := I1.tuple (show TX H1 a vs0 from hl0).sq
    exact call_en1 (begins_tuple a its.toArray) (show s1.heap.IsTuple a its.toArray from pl) fun h' he' hit hsz hk => fin h' he' ⟨_, hit, rfl, rfl⟩ hsz hk
end
end FF

/-! What matches does what it asks. -/
namespace FF
open PySem PySem.Spec PyProof.Rows L2

/-- a promise about trees -/
def spUp (K : Kx) (r : SpW) : Sp := fun vs H Q _ => ∃ ws mu P, Rps K H mu ws vs ∧ MRel K H mu ∧ r ws mu P ∧ Fin K H mu P Q
/-- the names of built-in things that are used -/
def bltL : List Str := ["len", "abs", "max", "min", "int", "repr", "str", "sum", "all", "any", "sorted", "tuple", "list", "dict", "set", "range", "enumerate", "zip", "reversed", "isinstance", "bool"]
structure Good (X : Cx) (g : Gm) (F : Fe) : Prop where
  N : X.N = g.N
  nd : X.N.Nodup
  sc : X.env.scope = g.sc
  fn : X.fn = g.fn
  kind : g.sc.kind = .function
  calm : X.calm = true
  hu : X.A.units + 65 < cLine
  xe : X.xe = fun _ _ => False
  bl : ∀ x ∈ bltL, X.mg x = none
  cs : ∀ x w, F.cs x = some w → ∃ u v, X.mg x = some u ∧ RelV v u ∧ ∀ H mu, Rp X.kx H mu w v
  cal : ∀ f, g.fns f = true → ∃ (k : Nat) (fa : Addr) (fd : FuncData) (ps : List Str), FnOk X.prog X.w X.K X.mg X.base CX0 k fa fd ps (spUp X.kx (F.fn f)) ∧ Room k X.A ∧ X.mg f = some (.ref fa) ∧ PySem.W.keepIn X.K (.ref fa) = true ∧ Binds X.K fd ps []
  gd : g.rp = true → X.A.guards = some []
theorem Good.blk {X : Cx} {g : Gm} {F : Fe} (G : Good X g F) {scope : Scope} (hk : scope.kind = .function) (s : Shared) (H : Hp) (C : Addr) (cl : List (Str × Addr)) (fp : List Addr) : Good (X.blk s H scope (compEnvC scope cl C X.env) fp) (g.blk scope) F :=
  ⟨G.N, G.nd, by show relS scope X.env.scope = relS scope g.sc; rw [G.sc], rfl, hk, G.calm, G.hu, rfl, G.bl, G.cs, G.cal, G.gd⟩
section
variable {X : Cx} {g : Gm} {F : Fe}
theorem Good.gl (G : Good X g F) {x : Str} (h : g.gl x = true) : Gl X x ∧ (x == ("__debug__" : Str)) = false ∧ x ≠ "__name__" := by
  unfold Gm.gl at h
  simp only [Bool.and_eq_true, decide_eq_true_eq] at h
  obtain ⟨⟨h1, h2⟩, h3⟩ := h
  refine ⟨?_, by simpa using h2, h3⟩
  show X.env.scope.names.lookup x = some .globalImplicit
  rw [G.sc]
  split at h1
  · assumption
  · cases h1
theorem Good.bn (G : Good X g F) {x y : Str} (h : g.bn x y = true) : x = y ∧ Gl X y ∧ (y == ("__debug__" : Str)) = false ∧ y ≠ "__name__" := by
  unfold Gm.bn at h
  simp only [Bool.and_eq_true, decide_eq_true_eq] at h
  obtain ⟨rfl, h⟩ := h
  exact ⟨rfl, G.gl h⟩
theorem Good.at (G : Good X g F) {i : Nat} {x : Str} (h : g.at i x = true) : X.N[i]? = some x := by
  unfold Gm.at at h
  rw [G.N]
  simpa using h
theorem Good.vis (G : Good X g F) {x : Str} (h : g.vis x = true) : Vis X.env.scope x := by
  unfold Gm.vis at h
  rw [G.sc]
  unfold Vis
  split at h
  · exact .inl (by assumption)
  · exact .inr (.inl (by assumption))
  · exact .inr (.inr (by assumption))
  · cases h
theorem Good.loc (G : Good X g F) {x : Str} (h : g.loc x = true) : L2.Loc X.env.scope x ∧ (X.fn x = true ∨ X.env.scope.names.lookup x = some .local) := by
  unfold Gm.loc at h
  rw [G.sc, G.fn]
  unfold L2.Loc
  split at h
  · rename_i e; exact ⟨.inl e, .inr e⟩
  · rename_i e; exact ⟨.inr e, .inl h⟩
  · cases h
theorem Good.ll (G : Good X g F) {x : Str} (h : g.ll x = true) : X.env.scope.names.lookup x = some .local := by
  unfold Gm.ll at h
  rw [G.sc]
  split at h
  · assumption
  · cases h
end
/-- the forms that are read -/
def fineE : Expr → Bool
  | .Starred _ _ => false
  | .Set _ _ _ => false
  | .Slice _ _ _ _ => false
  | .SetComp _ _ _ _ => false
  | .DictComp _ _ _ _ _ => false
  | _ => true
mutual
theorem E.fine {g : Gm} : ∀ (m : E) (e : Expr), m.mat g e = true → fineE e = true
  | .cnd c, e, h => by unfold E.mat at h; exact C.fineV c e h
  | .var _, e, h => by unfold E.mat at h; split at h <;> first | rfl | cases h
  | .con _, e, h => by unfold E.mat at h; split at h <;> first | rfl | cases h
  | .glb _, e, h => by unfold E.mat at h; split at h <;> first | rfl | cases h
  | .bin _ _ _, e, h => by unfold E.mat at h; split at h <;> first | rfl | cases h
  | .neg _, e, h => by unfold E.mat at h; split at h <;> first | rfl | cases h
  | .inv _, e, h => by unfold E.mat at h; split at h <;> first | rfl | cases h
  | .cmp _ _ _, e, h => by unfold E.mat at h; split at h <;> first | rfl | cases h
  | .chn _ _ _ _ _, e, h => by unfold E.mat at h; split at h <;> first | rfl | cases h
  | .ifx _ _ _, e, h => by unfold E.mat at h; split at h <;> first | rfl | cases h
  | .tup _, e, h => by unfold E.mat at h; split at h <;> first | rfl | cases h
  | .mk _ _, e, h => by unfold E.mat at h; split at h <;> first | rfl | cases h
  | .lof _ _, e, h => by unfold E.mat at h; split at h <;> first | rfl | cases h
  | .lrg _ _, e, h => by unfold E.mat at h; split at h <;> first | rfl | cases h
  | .trg _ _, e, h => by unfold E.mat at h; split at h <;> first | rfl | cases h
  | .dnw _ _, e, h => by unfold E.mat at h; split at h <;> first | rfl | cases h
  | .dc1 _ _ _, e, h => by unfold E.mat at h; split at h <;> first | rfl | cases h
  | .dcp _ _ _, e, h => by unfold E.mat at h; split at h <;> first | rfl | cases h
  | .cmp1 _ _ _ _ _ _, e, h => by unfold E.mat at h; split at h <;> first | rfl | cases h
  | .idx _ _, e, h => by unfold E.mat at h; split at h <;> first | rfl | cases h
  | .sl _ _ _ _, e, h => by unfold E.mat at h; split at h <;> first | rfl | cases h
  | .sst _ _ _, e, h => by unfold E.mat at h; split at h <;> first | rfl | cases h
  | .cal _ _, e, h => by unfold E.mat at h; split at h <;> first | rfl | cases h
  | .bif _ _, e, h => by unfold E.mat at h; split at h <;> first | rfl | cases h
  | .isi _ _, e, h => by unfold E.mat at h; split at h <;> first | rfl | cases h
  | .lns _, e, h => by unfold E.mat at h; split at h <;> first | rfl | cases h
  | .mth _ _ _, e, h => by unfold E.mat at h; split at h <;> first | rfl | cases h
theorem C.fineV {g : Gm} : ∀ (m : C) (e : Expr), m.matV g e = true → fineE e = true
  | .val a, e, h => by unfold C.matV at h; exact E.fine a e h
  | .and _ _, e, h => by unfold C.matV at h; split at h <;> first | rfl | cases h
  | .or _ _, e, h => by unfold C.matV at h; split at h <;> first | rfl | cases h
  | .not _, e, h => by unfold C.matV at h; split at h <;> first | rfl | cases h
end
theorem star_fine {e : Expr} (h : fineE e = true) (es : List Expr) (env : Env) : starEach (e :: es) env = (false, eval e env) :: starEach es env := by
  cases e <;> first | rfl | cases h
theorem beh_fine {e : Expr} (h : fineE e = true) (op : CmpOp) : behindInMarks op e = false := by
  cases e <;> first | rfl | cases h
theorem fold_fine {e : Expr} (h : fineE e = true) (env : Env) (x : Value) : foldedSetIterable e env x = pure x := by
  cases e <;> first | rfl | cases h
theorem ix_fine {e : Expr} (h : fineE e = true) : PlainIx e := by
  intro o i
  cases e <;> first | rfl | cases h
theorem EL.fine {g : Gm} : ∀ (m : EL) (es : List Expr), m.mat g es = true → ∀ e ∈ es, fineE e = true
  | .nil, es, h => by unfold EL.mat at h; split at h <;> first | (intro e he; exact absurd he (by simp)) | cases h
  | .cons m r, es, h => by
    unfold EL.mat at h
    split at h
    · rename_i x xs
      simp only [Bool.and_eq_true] at h
      intro e he
      rcases List.mem_cons.mp he with z | z
      · subst z; exact E.fine m _ h.1
      · exact EL.fine r xs h.2 e z
    · cases h
theorem back_fine {pos : Pos} {env : Env} : ∀ {es : List Expr}, (∀ e ∈ es, fineE e = true) → (backTo pos (starEach es env)).any (·.1) = false ∧ (backTo pos (starEach es env)).all (fun x => !x.1) = true
  | [], _ => ⟨rfl, rfl⟩
  | e :: es, h => by
    obtain ⟨h1, h2⟩ := back_fine (pos := pos) (env := env) (es := es) fun e he => h e (List.mem_cons_of_mem _ he)
    rw [star_fine (h e (List.mem_cons_self ..))]
    refine ⟨?_, ?_⟩
    · show (false || (backTo pos (starEach es env)).any (·.1)) = false
      rw [h1] <;> rfl
    · show (!false && (backTo pos (starEach es env)).all (fun x => !x.1)) = true
      rw [h2] <;> rfl

theorem spUp_call {X : Cx} {tas : AW} {r : SpW} : ∀ (s : L2.St) (H : Hp) (Q : VK), up X.kx (fun t mu P => tas t mu fun ws mu1 => r ws mu1 P) s H Q → tCall (spUp X.kx r) [] (fun _ _ _ => False) (upA X.kx tas) s H Q := fun s H Q h =>
  upA_fin (r := r) h fun ws vs mu1 H1 P hw rr m k => by
    rw [List.append_nil]
    exact ⟨ws, mu1, P, rr, m, hw, k⟩
section
variable {g : Gm} {F : Fe} {X : Cx}
theorem w_cal {f : Str} {a : Expr} {es : List Expr} {tas : AW} {x : Str} {p pos : Pos} (G : Good X g F) (hb : g.bn x f = true) (hf : g.fns f = true) (ha : PA X (a :: es) (upA X.kx tas)) (hfine : ∀ e ∈ a :: es, fineE e = true) :
    PE X (.Call (.Name x p) (a :: es) [] pos) (up X.kx fun t mu P => tas t mu fun ws mu1 => F.fn f ws mu1 P) := by
  obtain ⟨rfl, g1, g2, g3⟩ := G.bn hb
  obtain ⟨k, fa, fd, ps, hF, hr, hm, hk, hbi⟩ := G.cal x hf
  refine PE.mn (pe_call hF hr g1 hm hk hbi .nil (fun pins st H s e s' I h => ?_) ha g2 (star_fine (hfine a (List.mem_cons_self ..)) es X.env) (back_fine fun e he => hfine e (List.mem_cons_of_mem _ he)).1) (spUp_call (r := F.fn x))
  exact (show False from h).elim
theorem boot_intF : bootBuiltins "int" = some (.type "int") := by decide +kernel
/-- a built-in function by its name -/
theorem w_blt (b : Bf) {a : Expr} {es : List Expr} {tas : AW} {x : Str} {p pos : Pos} (G : Good X g F) (hp : b.plain g.rp = true) (hb : g.bn x b.nm = true) (ha : PA X (a :: es) (upA X.kx tas)) (hfine : ∀ e ∈ a :: es, fineE e = true) :
    PE X (.Call (.Name x p) (a :: es) [] pos) (up X.kx fun t mu P => tas t mu fun ws mu1 => bifR b ws mu1 P) := by
  obtain ⟨rfl, g1, g2, g3⟩ := G.bn hb
  have h1 := star_fine (hfine a (List.mem_cons_self ..)) es X.env
  have h2 := (back_fine (pos := pos) (env := X.env) fun e he => hfine e (List.mem_cons_of_mem _ he)).1
  have hu := G.hu
  have hc := G.calm
  cases b with
  | len => exact w_callB (r := bifR .len) len_ok g1 (G.bl _ (by decide)) PySem.boot_len ha g3 g2 h1 h2
  | abs => exact w_callB (r := bifR .abs) abs_ok g1 (G.bl _ (by decide)) PyProof.Rows.boot_abs ha g3 g2 h1 h2
  | max2 => exact w_callB (r := bifR .max2) (max2_ok hc) g1 (G.bl _ (by decide)) PyProof.Rows.boot_max ha g3 g2 h1 h2
  | min2 => exact w_callB (r := bifR .min2) (min2_ok hc) g1 (G.bl _ (by decide)) PyProof.Rows.boot_min ha g3 g2 h1 h2
  | int => exact w_callT (r := bifR .int) int_ok g1 (G.bl _ (by decide)) boot_intF ha g3 g2 h1 h2
  | rpr => exact w_callB (r := bifR .rpr) (rpr_ok (G.gd hp) hu) g1 (G.bl _ (by decide)) PyProof.Rows.boot_repr ha g3 g2 h1 h2
  | str => cases hp
  | sum => exact w_callB (r := bifR .sum) (sum_ok hc) g1 (G.bl _ (by decide)) PyProof.Rows.boot_sum ha g3 g2 h1 h2
  | all => exact w_callB (r := bifR .all) (all_ok hc) g1 (G.bl _ (by decide)) PyProof.Rows.boot_all ha g3 g2 h1 h2
  | any => exact w_callB (r := bifR .any) (any_ok hc) g1 (G.bl _ (by decide)) PyProof.Rows.boot_any ha g3 g2 h1 h2
  | minL => exact w_callB (r := bifR .minL) (minL_ok hc) g1 (G.bl _ (by decide)) PyProof.Rows.boot_min ha g3 g2 h1 h2
  | maxL => exact w_callB (r := bifR .maxL) (maxL_ok hc) g1 (G.bl _ (by decide)) PyProof.Rows.boot_max ha g3 g2 h1 h2
  | sorted => exact w_callB (r := bifR .sorted) (sorted_ok hc hu) g1 (G.bl _ (by decide)) PyProof.Rows.boot_sorted ha g3 g2 h1 h2
  | tuple => exact w_callT (r := bifR .tuple) tuple_ok g1 (G.bl _ (by decide)) PyProof.Rows.boot_tuple ha g3 g2 h1 h2
  | lenset => cases hp
  | isi T => cases hp
theorem boot_dictF : bootBuiltins "dict" = some (.type "dict") := by decide +kernel
theorem isT_boot {T : String} (h : isT T = true) : bootBuiltins (Str.ofString T) = some (.type T) ∧ (Str.ofString T) ∈ bltL := by
  unfold isT at h
  simp only [Bool.or_eq_true, decide_eq_true_eq] at h
  rcases h with ((((rfl | rfl) | rfl) | rfl) | rfl) | rfl <;> exact ⟨by decide +kernel, by decide +kernel⟩
theorem obj_base {o : Expr} (h : isObjE o = true) (nm : Str) (env : Env) : attributeBase o nm env (eval o env) = eval o env := by
  cases o <;> first | rfl | cases h
theorem EL.len {g : Gm} : ∀ (m : EL) (es : List Expr), m.mat g es = true → True := fun _ _ _ => True.intro
end
theorem ownOf_snd (N : List Str) : ∀ ss : List Nat, (ownOf N ss).map (·.2) = ss
  | [] => rfl
  | i :: is => by unfold ownOf; rw [List.map_cons, ownOf_snd N is]
theorem I.fine {g : Gm} : ∀ (m : I) (tg e : Expr), m.mat g tg e = true → fineE e = true
  | .of a, tg, e, h => by unfold I.mat at h; exact E.fine a e h
  | .rg1 _, tg, e, h => by unfold I.mat at h; split at h <;> first | rfl | cases h
  | .rg2 _ _, tg, e, h => by unfold I.mat at h; split at h <;> first | rfl | cases h
  | .enu _, tg, e, h => by unfold I.mat at h; split at h <;> first | rfl | cases h
  | .zip _ _, tg, e, h => by unfold I.mat at h; cases h
  | .rev _, tg, e, h => by unfold I.mat at h; cases h
theorem T.fine {g : Gm} : ∀ (m : T) (e : Expr), m.mat g e = true → fineE e = true
  | .nam _, e, h => by unfold T.mat at h; split at h <;> first | rfl | cases h
  | .tup _, e, h => by unfold T.mat at h; split at h <;> first | rfl | cases h
  | .sub _ _, e, h => by unfold T.mat at h; split at h <;> first | rfl | cases h
theorem asg_fine {e : Expr} (h : fineE e = true) {es : List Expr} {env : Env} : assignEach (e :: es) env = (false, assign e env) :: assignEach es env := by
  cases e <;> first | rfl | cases h
theorem asgSub_fine {o i : Expr} {pos : Pos} {env : Env} {v : Value} (h : fineE i = true) : assign (.Subscript o i pos) env v = (do
      let ov ← holding [v] (eval o env)
      let iv ← holding [v, ov] (eval i env)
      standAt pos
      holding [v, ov, iv] (setItem ov iv v)
      release [v, ov, iv] []) := by
  rw [PySem.assign_Subscript]
  cases i <;> first | rfl | cases h
theorem TL.side {g : Gm} : ∀ (m : TL) (es : List Expr), m.mat g es = true → ∀ env : Env, (assignEach es env).length = m.len ∧ (assignEach es env).findIdx? (·.1) = none
  | .nil, es, h, env => by
    unfold TL.mat at h
    split at h
    · exact ⟨rfl, rfl⟩
    · cases h
  | .cons m r, es, h, env => by
    unfold TL.mat at h
    split at h
    · simp only [Bool.and_eq_true] at h
      obtain ⟨h1, h2⟩ := TL.side r _ h.2 env
      rw [asg_fine (T.fine m _ h.1)]
      refine ⟨by rw [List.length_cons, h1]; rfl, ?_⟩
      rw [List.findIdx?_cons, h2] <;> rfl
    · cases h
theorem plain_test {e : Expr} (h : (match e with | .BoolOp _ _ _ => false | .UnaryOp .Not _ _ => false | .IfExp _ _ _ _ => false | .Compare _ _ _ _ => false | _ => true) = true) {env : Env} : ∀ whole, isTrue e env whole = (do let v ← whole; standAt e.pos; holding [v] (truthy v)) := by
  intro whole
  cases e <;> first | rfl | cases h | skip
  rename_i op x pos
  cases op <;> first | rfl | cases h
section
variable {X : Cx} {g : Gm} {F : Fe}
theorem E.cgx {e : Expr} {t t' : TW} (h : PE X e (up X.kx t)) (i : ∀ {ta mu P}, t' ta mu P → t ta mu P) : PE X e (up X.kx t') := PE.mn h fun s H Q ⟨a, b, c, S, hw, k⟩ => ⟨a, b, c, S, i hw, k⟩
theorem C.cgx {e : Expr} {t t' : CW} (h : PT X e (upT X.kx t)) (i : ∀ {ta mu P}, t' ta mu P → t ta mu P) : PT X e (upT X.kx t') := PT.mn h fun s H Q ⟨a, b, c, S, hw, k⟩ => ⟨a, b, c, S, i hw, k⟩
theorem C.cgv {e : Expr} {t t' : CW} (h : PE X e (up X.kx (upV t))) (i : ∀ {ta mu P}, t' ta mu P → t ta mu P) : PE X e (up X.kx (upV t')) := PE.mn h fun s H Q ⟨a, b, c, S, hw, k⟩ => ⟨a, b, c, S, i hw, k⟩
theorem EL.cgx {e : List Expr} {t t' : AW} (h : PA X e (upA X.kx t)) (i : ∀ {ta mu P}, t' ta mu P → t ta mu P) : PA X e (upA X.kx t') := PA.mn h fun s H Q ⟨a, b, c, S, hw, k⟩ => ⟨a, b, c, S, i hw, k⟩
theorem EO.cgx {e : Option Expr} {t t' : OW} (h : PO X e (upO X.kx t)) (i : ∀ {ta mu P}, t' ta mu P → t ta mu P) : PO X e (upO X.kx t') := PO.mn h fun s H Q ⟨a, b, c, S, hw, k⟩ => ⟨a, b, c, S, i hw, k⟩
theorem CO.cgx {e : List Expr} {t t' : CW} (h : PTs X e (upT X.kx t)) (i : ∀ {ta mu P}, t' ta mu P → t ta mu P) : PTs X e (upT X.kx t') := PTs.mn h fun s H Q ⟨a, b, c, S, hw, k⟩ => ⟨a, b, c, S, i hw, k⟩
theorem T.cgx {e : Expr} {is : List Nat} {t t' : GW} (h : PG X e (upG X.kx is t)) (i : ∀ {w ta mu P}, t' w ta mu P → t w ta mu P) : PG X e (upG X.kx is t') := PG.mn h fun v s H Q ⟨w, a, b, c, r, S, hw, k⟩ => ⟨w, a, b, c, r, S, i hw, k⟩
theorem TL.cgx {e : List Expr} {is : List Nat} {t t' : GsW} (h : PGs X e (upGs X.kx is t)) (i : ∀ {w ta mu P}, t' w ta mu P → t w ta mu P) : PGs X e (upGs X.kx is t') := PGs.mn h fun v s H Q ⟨w, a, b, c, r, S, hw, k⟩ => ⟨w, a, b, c, r, S, i hw, k⟩
theorem I.cgx {tg e : Expr} {t t' : IW} (h : PI X tg e (upI X.kx t)) (i : ∀ {ta mu P}, t' ta mu P → t ta mu P) : PI X tg e (upI X.kx t') := PI.mn h fun s H Q ⟨a, b, c, S, hw, k⟩ => ⟨a, b, c, S, i hw, k⟩
end
mutual
theorem E.ok {F : Fe} : ∀ (m : E) {X : Cx} {g : Gm} (G : Good X g F) (e : Expr), m.mat g e = true → PE X e (up X.kx (m.wp F))
  | .var i, X, g, G, e, h => by
    unfold E.mat at h
    split at h
    · simp only [Bool.and_eq_true, decide_eq_true_eq] at h
      obtain ⟨⟨⟨h1, h2⟩, h3⟩, h4⟩ := h
      exact E.cgx (w_var (G.at h1) (G.vis h2) (by simpa using h3) (by simpa using h4)) fun hh => by unfold E.wp at hh; exact hh
    · cases h
  | .con c, X, g, G, e, h => by
    unfold E.mat at h
    split at h
    · exact E.cgx (w_con h) fun hh => by unfold E.wp at hh; exact hh
    · cases h
  | .glb x, X, g, G, e, h => by
    unfold E.mat at h
    split at h
    · obtain ⟨rfl, g1, g2, g3⟩ := G.bn h
      refine E.cgx (t := fun ta mu P => optQ (F.cs _) fun w => P w mu) ?_ fun hh => by unfold E.wp at hh; exact hh
      cases ec : F.cs _ with
      | none => exact ⟨fun pins s st H Q I ⟨t, mu, P, S, hw, k⟩ => (show False from hw).elim⟩
      | some w =>
        obtain ⟨u, v, hm, r, q⟩ := G.cs _ w ec
        exact w_glb g1 hm r q g2
    · cases h
  | .bin op a b, X, g, G, e, h => by
    unfold E.mat at h
    split at h
    · simp only [Bool.and_eq_true, decide_eq_true_eq] at h
      obtain ⟨⟨rfl, h1⟩, h2⟩ := h
      exact E.cgx (w_bin (E.ok a G _ h1) (E.ok b G _ h2)) fun hh => by unfold E.wp at hh; exact hh
    · cases h
  | .neg a, X, g, G, e, h => by
    unfold E.mat at h
    split at h
    · simp only [Bool.and_eq_true, decide_eq_true_eq] at h
      obtain ⟨rfl, h1⟩ := h
      exact E.cgx (w_neg (E.ok a G _ h1)) fun hh => by unfold E.wp at hh; exact hh
    · cases h
  | .inv a, X, g, G, e, h => by
    unfold E.mat at h
    split at h
    · simp only [Bool.and_eq_true, decide_eq_true_eq] at h
      obtain ⟨rfl, h1⟩ := h
      exact E.cgx (w_inv (E.ok a G _ h1)) fun hh => by unfold E.wp at hh; exact hh
    · cases h
  | .cmp op a b, X, g, G, e, h => by
    unfold E.mat at h
    split at h
    · simp only [Bool.and_eq_true, decide_eq_true_eq] at h
      obtain ⟨⟨rfl, h1⟩, h2⟩ := h
      exact E.cgx (w_cmp G.hu (E.ok a G _ h1) (E.ok b G _ h2) (beh_fine (E.fine b _ h2) _)) fun hh => by unfold E.wp at hh; exact hh
    · cases h
  | .chn o1 o2 a b c, X, g, G, e, h => by
    unfold E.mat at h
    split at h
    · simp only [Bool.and_eq_true, decide_eq_true_eq] at h
      obtain ⟨⟨⟨⟨rfl, rfl⟩, h1⟩, h2⟩, h3⟩ := h
      exact E.cgx (w_chn G.hu (E.ok a G _ h1) (E.ok b G _ h2) (E.ok c G _ h3) (beh_fine (E.fine c _ h3) _)) fun hh => by unfold E.wp at hh; exact hh
    · cases h
  | .ifx c a b, X, g, G, e, h => by
    unfold E.mat at h
    split at h
    · simp only [Bool.and_eq_true] at h
      obtain ⟨⟨h1, h2⟩, h3⟩ := h
      exact E.cgx (w_ifx ((C.ok c G).1 _ h1) (E.ok a G _ h2) (E.ok b G _ h3)) fun hh => by unfold E.wp at hh; exact hh
    · cases h
  | .cnd c, X, g, G, e, h => by
    unfold E.mat at h
    exact E.cgx (C.okV c G e h) fun hh => by unfold E.wp at hh; exact hh
  | .tup es, X, g, G, e, h => by
    unfold E.mat at h
    split at h
    · exact E.cgx (w_tup (EL.ok es G _ h)) fun hh => by unfold E.wp at hh; exact hh
    · cases h
  | .mk own es, X, g, G, e, h => by
    unfold E.mat at h
    split at h
    · exact E.cgx (w_mk (EL.ok es G _ h)) fun hh => by unfold E.wp at hh; exact hh
    · cases h
  | .lof own a, X, g, G, e, h => by
    unfold E.mat at h
    split at h
    · simp only [Bool.and_eq_true] at h
      obtain ⟨h1, h2⟩ := h
      obtain ⟨rfl, g1, g2, g3⟩ := G.bn h1
      have f := E.fine a _ h2
      exact E.cgx (PE.mn (w_callT (lof_ok (X := X) own) g1 (G.bl _ (by decide)) PyProof.Rows.boot_list (w_cons (E.ok a G _ h2) w_nil (star_fine f [] X.env)) g3 g2 (star_fine f [] X.env) rfl) fun s H Q h => h) fun hh => by unfold E.wp at hh; exact hh
    · cases h
  | .lrg own a, X, g, G, e, h => by
    unfold E.mat at h
    split at h
    · simp only [Bool.and_eq_true] at h
      obtain ⟨⟨h1, h2⟩, h3⟩ := h
      obtain ⟨rfl, g1, g2, g3⟩ := G.bn h1
      obtain ⟨rfl, k1, k2, k3⟩ := G.bn h2
      have f := E.fine a _ h3
      exact E.cgx (w_lrg G.calm g1 (G.bl _ (by decide)) k1 (G.bl _ (by decide)) (E.ok a G _ h3) (star_fine f [] X.env)) fun hh => by unfold E.wp at hh; exact hh
    · cases h
  | .trg a b, X, g, G, e, h => by
    unfold E.mat at h
    split at h
    · simp only [Bool.and_eq_true] at h
      obtain ⟨⟨⟨h1, h2⟩, h3⟩, h4⟩ := h
      obtain ⟨rfl, g1, g2, g3⟩ := G.bn h1
      obtain ⟨rfl, k1, k2, k3⟩ := G.bn h2
      have f := E.fine a _ h3
      have f' := E.fine b _ h4
      exact E.cgx (w_trg G.calm g1 (G.bl _ (by decide)) k1 (G.bl _ (by decide)) (E.ok a G _ h3) (E.ok b G _ h4) (star_fine f _ X.env) (star_fine f' [] X.env) (by rw [star_fine f' [] X.env]; rfl)) fun hh => by unfold E.wp at hh; exact hh
    · cases h
  | .dnw own t, X, g, G, e, h => by
    unfold E.mat at h
    split at h
    · exact E.cgx (w_dnw) fun hh => by unfold E.wp at hh; exact hh
    · cases h
  | .dc1 own k v, X, g, G, e, h => ⟨fun pins s st H Q I ⟨t, mu, P, S, hw, kk⟩ => by unfold E.wp at hw; exact hw.elim⟩
  | .dcp own tt a, X, g, G, e, h => by
    unfold E.mat at h
    split at h
    · simp only [Bool.and_eq_true] at h
      obtain ⟨h1, h2⟩ := h
      obtain ⟨rfl, g1, g2, g3⟩ := G.bn h1
      have f := E.fine a _ h2
      exact E.cgx (PE.mn (w_callT (dcp_ok (X := X) own G.calm G.hu) g1 (G.bl _ (by decide)) boot_dictF (w_cons (E.ok a G _ h2) w_nil (star_fine f [] X.env)) g3 g2 (star_fine f [] X.env) rfl) fun s H Q h => h) fun hh => by unfold E.wp at hh; exact hh
    · cases h
  | .cmp1 own ss tg it c el, X, g, G, e, h => by
    unfold E.mat at h
    split at h
    · simp only [Bool.and_eq_true, decide_eq_true_eq, List.all_eq_true, List.contains_iff_mem] at h
      obtain ⟨⟨⟨⟨⟨⟨rfl, hs⟩, hb⟩, h1⟩, h2⟩, h3⟩, h4⟩ := h
      rw [← G.N, ← G.sc] at hb
      have ok := blkOk_by hb
      have q := fun pos => pe_lc (pos := pos) (wi := upI X.kx (it.wp F)) (g := upG X.kx tg.nms (tg.wp F)) (tt := upT X.kx (c.wp F)) (te := up X.kx (el.wp F)) G.calm G.nd (I.ok it G _ _ h1) ok (fun s H C cl fp => T.ok tg (G.blk ok.kind s H C cl fp) _ h2) (fun s H C cl fp => CO.ok c (G.blk ok.kind s H C cl fp) _ h3) (fun s H C cl fp => E.ok el (G.blk ok.kind s H C cl fp) _ h4) (fun x => fold_fine (I.fine it _ _ h1) X.env x)
      simp only [ownOf_snd] at q
      exact E.cgx (PE.mn (q _) (lc_up (own := own) hs)) fun hh => by unfold E.wp at hh; exact hh
    · cases h
  | .idx a b, X, g, G, e, h => by
    unfold E.mat at h
    split at h
    · simp only [Bool.and_eq_true] at h
      exact E.cgx (w_idx G.hu (E.ok a G _ h.1) (E.ok b G _ h.2) (ix_fine (E.fine b _ h.2))) fun hh => by unfold E.wp at hh; exact hh
    · cases h
  | .sl own a lo hi, X, g, G, e, h => by
    unfold E.mat at h
    split at h
    · simp only [Bool.and_eq_true] at h
      exact E.cgx (w_sl (E.ok a G _ h.1.1) (EO.ok lo G _ h.1.2) (EO.ok hi G _ h.2)) fun hh => by unfold E.wp at hh; exact hh
    · cases h
  | .sst own a k, X, g, G, e, h => by
    unfold E.mat at h
    split at h
    · simp only [Bool.and_eq_true, decide_eq_true_eq] at h
      obtain ⟨⟨rfl, rfl⟩, h1⟩ := h
      exact E.cgx (w_sst oC_neg (E.ok a G _ h1)) fun hh => by unfold E.wp at hh; exact hh
    · simp only [Bool.and_eq_true, decide_eq_true_eq] at h
      obtain ⟨rfl, h1⟩ := h
      exact E.cgx (w_sst oC_pos (E.ok a G _ h1)) fun hh => by unfold E.wp at hh; exact hh
    · cases h
  | .cal f es, X, g, G, e, h => by
    unfold E.mat at h
    split at h
    · simp only [Bool.and_eq_true] at h
      obtain ⟨⟨h1, h2⟩, h3⟩ := h
      exact E.cgx (w_cal G h1 h2 (EL.ok es G _ h3) (EL.fine es _ h3)) fun hh => by unfold E.wp at hh; exact hh
    · cases h
  | .isi T m, X, g, G, e, h => by
    unfold E.mat at h
    split at h
    · simp only [Bool.and_eq_true] at h
      obtain ⟨⟨⟨h1, h2⟩, h3⟩, h4⟩ := h
      obtain ⟨rfl, g1, g2, g3⟩ := G.bn h1
      obtain ⟨rfl, k1, k2, k3⟩ := G.bn h2
      obtain ⟨b1, b2⟩ := isT_boot h3
      exact E.cgx (w_isi g1 (G.bl _ (by decide)) k1 (G.bl _ b2) b1 k3 k2 (E.ok m G _ h4) (star_fine (E.fine m _ h4) _ X.env)) fun hh => by unfold E.wp at hh; exact hh
    · cases h
  | .lns m, X, g, G, e, h => by
    unfold E.mat at h
    split at h
    · simp only [Bool.and_eq_true] at h
      obtain ⟨⟨h1, h2⟩, h4⟩ := h
      obtain ⟨rfl, g1, g2, g3⟩ := G.bn h1
      obtain ⟨rfl, k1, k2, k3⟩ := G.bn h2
      exact E.cgx (w_lenset G.calm g1 (G.bl _ (by decide)) k1 (G.bl _ (by decide)) (E.ok m G _ h4) (star_fine (E.fine m _ h4) _ X.env)) fun hh => by unfold E.wp at hh; exact hh
    · cases h
  | .bif b es, X, g, G, e, h => by
    unfold E.mat at h
    split at h
    · simp only [Bool.and_eq_true] at h
      obtain ⟨⟨h1, h2⟩, h3⟩ := h
      exact E.cgx (w_blt b G h1 h2 (EL.ok es G _ h3) (EL.fine es _ h3)) fun hh => by unfold E.wp at hh; exact hh
    · cases h
  | .mth m o es, X, g, G, e, h => by
    unfold E.mat at h
    split at h
    · rename_i x a p ys cpos
      simp only [Bool.and_eq_true, decide_eq_true_eq] at h
      obtain ⟨⟨⟨⟨⟨h0, h1⟩, rfl⟩, h2⟩, h3⟩, h4⟩ := h
      have hf := EL.fine es _ h4
      have hq := EL.ok es G _ h4
      cases ys with
      | nil =>
        have en : es = .nil := by cases es <;> first | rfl | (simp only [EL.mat, Bool.false_eq_true] at h4)
        exact E.cgx (w_mth0 G.calm G.hu (E.ok o G _ h3) (obj_base h1 _ _) h2) fun hh => by rw [en] at hh; unfold E.wp EL.wp at hh; exact hh
      | cons y ys =>
        obtain ⟨b1, b2⟩ := back_fine (pos := cpos) (env := X.env) hf
        have b3 := (back_fine (pos := cpos) (env := X.env) fun e he => hf e (List.mem_cons_of_mem _ he)).1
        refine E.cgx (w_mth G.calm G.hu (E.ok o G _ h3) hq (obj_base h1 _ _) ?_ h2 (star_fine (hf y (List.mem_cons_self ..)) ys X.env) b3) fun hh => by unfold E.wp at hh; exact hh
        rw [b2]
        show (true && true && decide ((y :: ys).length + 0 + 0 < 30)) = true
        simp only [Bool.and_self, Bool.true_and, decide_eq_true_eq]
        omega
    · cases h
theorem EL.ok {F : Fe} : ∀ (m : EL) {X : Cx} {g : Gm} (G : Good X g F) (es : List Expr), m.mat g es = true → PA X es (upA X.kx (m.wp F))
  | .nil, X, g, G, es, h => by
    unfold EL.mat at h
    split at h
    · exact EL.cgx (w_nil) fun hh => by unfold EL.wp at hh; exact hh
    · cases h
  | .cons m r, X, g, G, es, h => by
    unfold EL.mat at h
    split at h
    · simp only [Bool.and_eq_true] at h
      exact EL.cgx (w_cons (E.ok m G _ h.1) (EL.ok r G _ h.2) (star_fine (E.fine m _ h.1) _ X.env)) fun hh => by unfold EL.wp at hh; exact hh
    · cases h
theorem EO.ok {F : Fe} : ∀ (m : EO) {X : Cx} {g : Gm} (G : Good X g F) (e : Option Expr), m.mat g e = true → PO X e (upO X.kx (m.wp F))
  | .none, X, g, G, e, h => by
    unfold EO.mat at h
    split at h
    · exact EO.cgx (w_oN) fun hh => by unfold EO.wp at hh; exact hh
    · cases h
  | .some m, X, g, G, e, h => by
    unfold EO.mat at h
    split at h
    · exact EO.cgx (w_oS (E.ok m G _ h)) fun hh => by unfold EO.wp at hh; exact hh
    · cases h
theorem CO.ok {F : Fe} : ∀ (m : CO) {X : Cx} {g : Gm} (G : Good X g F) (es : List Expr), m.mat g es = true → PTs X es (upT X.kx (m.wp F))
  | .none, X, g, G, es, h => by
    unfold CO.mat at h
    split at h
    · exact CO.cgx (PTs.mn pts_nil fun s H Q ⟨t, mu, P, S, h, k⟩ => k true mu H h S.m (Frm.refl _ _)) fun hh => by unfold CO.wp at hh; exact hh
    · cases h
  | .some c, X, g, G, es, h => by
    unfold CO.mat at h
    split at h
    · exact CO.cgx (pts_one ((C.ok c G).1 _ h)) fun hh => by unfold CO.wp at hh; exact hh
    · cases h
theorem C.ok {F : Fe} : ∀ (m : C) {X : Cx} {g : Gm} (G : Good X g F), (∀ e, m.mat g e = true → PT X e (upT X.kx (m.wp F))) ∧ (∀ es pos, m.matA g es = true → PW X (.BoolOp .And es pos) (upT X.kx (m.wp F))) ∧ (∀ es pos, m.matO g es = true → PW X (.BoolOp .Or es pos) (upT X.kx (m.wp F)))
  | .val a, X, g, G => by
    have p1 : ∀ e, (C.val a).mat g e = true → PT X e (upT X.kx ((C.val a).wp F)) := fun e h => by
      unfold C.mat at h
      simp only [Bool.and_eq_true] at h
      exact C.cgx (w_valT (PT.mn (pt_val (E.ok a G e h.2) (plain_test h.1)) fun s H Q h => h)) fun hh => by unfold C.wp at hh; exact hh
    refine ⟨p1, fun es pos h => ?_, fun es pos h => ?_⟩
    · unfold C.matA at h
      split at h
      · exact pw_and1 (p1 _ (by unfold C.mat; exact h))
      · cases h
    · unfold C.matO at h
      split at h
      · exact pw_or1 (p1 _ (by unfold C.mat; exact h))
      · cases h
  | .cmp op a b, X, g, G => by
    have p1 : ∀ e, (C.cmp op a b).mat g e = true → PT X e (upT X.kx ((C.cmp op a b).wp F)) := fun e h => by
      unfold C.mat at h
      split at h
      · simp only [Bool.and_eq_true, decide_eq_true_eq] at h
        obtain ⟨⟨rfl, h1⟩, h2⟩ := h
        exact C.cgx (w_cmpT G.hu (E.ok a G _ h1) (E.ok b G _ h2) (beh_fine (E.fine b _ h2) _)) fun hh => by unfold C.wp at hh; exact hh
      · cases h
    refine ⟨p1, fun es pos h => ?_, fun es pos h => ?_⟩
    · unfold C.matA at h
      split at h
      · exact pw_and1 (p1 _ (by unfold C.mat; exact h))
      · cases h
    · unfold C.matO at h
      split at h
      · exact pw_or1 (p1 _ (by unfold C.mat; exact h))
      · cases h
  | .chn o1 o2 a b c, X, g, G => by
    have p1 : ∀ e, (C.chn o1 o2 a b c).mat g e = true → PT X e (upT X.kx ((C.chn o1 o2 a b c).wp F)) := fun e h => by
      unfold C.mat at h
      split at h
      · simp only [Bool.and_eq_true, decide_eq_true_eq] at h
        obtain ⟨⟨⟨⟨rfl, rfl⟩, h1⟩, h2⟩, h3⟩ := h
        exact C.cgx (w_chnT G.hu (E.ok a G _ h1) (E.ok b G _ h2) (E.ok c G _ h3) (beh_fine (E.fine c _ h3) _)) fun hh => by unfold C.wp at hh; exact hh
      · cases h
    refine ⟨p1, fun es pos h => ?_, fun es pos h => ?_⟩
    · unfold C.matA at h
      split at h
      · exact pw_and1 (p1 _ (by unfold C.mat; exact h))
      · cases h
    · unfold C.matO at h
      split at h
      · exact pw_or1 (p1 _ (by unfold C.mat; exact h))
      · cases h
  | .and a b, X, g, G => by
    have p0 : ∀ x y r pos, a.mat g x = true → b.matA g (y :: r) = true → PW X (.BoolOp .And (x :: y :: r) pos) (upT X.kx ((C.and a b).wp F)) := fun x y r pos h1 h2 => by
      have q := w_andW ((C.ok a G).1 _ h1) ((C.ok b G).2.1 _ pos h2)
      exact PW.mn q fun s H Q ⟨t, mu, P, S, hw, k⟩ => ⟨t, mu, P, S, by unfold C.wp at hw; exact hw, k⟩
    have p1 : ∀ e, (C.and a b).mat g e = true → PT X e (upT X.kx ((C.and a b).wp F)) := fun e h => by
      unfold C.mat at h
      split at h
      · simp only [Bool.and_eq_true] at h
        exact (p0 _ _ _ _ h.1 h.2).pt
      · cases h
    refine ⟨p1, fun es pos h => ?_, fun es pos h => ?_⟩
    · unfold C.matA at h
      split at h
      · simp only [Bool.and_eq_true] at h
        exact p0 _ _ _ _ h.1 h.2
      · exact pw_and1 (p1 _ (by unfold C.mat; exact h))
      · cases h
    · unfold C.matO at h
      split at h
      · exact pw_or1 (p1 _ (by unfold C.mat; exact h))
      · cases h
  | .or a b, X, g, G => by
    have p0 : ∀ x y r pos, a.mat g x = true → b.matO g (y :: r) = true → PW X (.BoolOp .Or (x :: y :: r) pos) (upT X.kx ((C.or a b).wp F)) := fun x y r pos h1 h2 => by
      have q := w_orW ((C.ok a G).1 _ h1) ((C.ok b G).2.2 _ pos h2)
      exact PW.mn q fun s H Q ⟨t, mu, P, S, hw, k⟩ => ⟨t, mu, P, S, by unfold C.wp at hw; exact hw, k⟩
    have p1 : ∀ e, (C.or a b).mat g e = true → PT X e (upT X.kx ((C.or a b).wp F)) := fun e h => by
      unfold C.mat at h
      split at h
      · simp only [Bool.and_eq_true] at h
        exact (p0 _ _ _ _ h.1 h.2).pt
      · cases h
    refine ⟨p1, fun es pos h => ?_, fun es pos h => ?_⟩
    · unfold C.matA at h
      split at h
      · exact pw_and1 (p1 _ (by unfold C.mat; exact h))
      · cases h
    · unfold C.matO at h
      split at h
      · simp only [Bool.and_eq_true] at h
        exact p0 _ _ _ _ h.1 h.2
      · exact pw_or1 (p1 _ (by unfold C.mat; exact h))
      · cases h
  | .not a, X, g, G => by
    have p1 : ∀ e, (C.not a).mat g e = true → PT X e (upT X.kx ((C.not a).wp F)) := fun e h => by
      unfold C.mat at h
      split at h
      · exact C.cgx (w_not ((C.ok a G).1 _ h)) fun hh => by unfold C.wp at hh; exact hh
      · cases h
    refine ⟨p1, fun es pos h => ?_, fun es pos h => ?_⟩
    · unfold C.matA at h
      split at h
      · exact pw_and1 (p1 _ (by unfold C.mat; exact h))
      · cases h
    · unfold C.matO at h
      split at h
      · exact pw_or1 (p1 _ (by unfold C.mat; exact h))
      · cases h
theorem C.okV {F : Fe} : ∀ (m : C) {X : Cx} {g : Gm} (G : Good X g F) (e : Expr), m.matV g e = true → PE X e (up X.kx (upV (m.wp F)))
  | .val a, X, g, G, e, h => by
    unfold C.matV at h
    exact C.cgv (w_valV (E.ok a G e h)) fun hh => by unfold C.wp at hh; exact hh
  | .and a b, X, g, G, e, h => by
    unfold C.matV at h
    split at h
    · simp only [Bool.and_eq_true] at h
      exact C.cgv (w_andV (C.okV a G _ h.1) (pe_one (C.okV b G _ h.2))) fun hh => by unfold C.wp at hh; exact hh
    · cases h
  | .or a b, X, g, G, e, h => by
    unfold C.matV at h
    split at h
    · simp only [Bool.and_eq_true] at h
      exact C.cgv (w_orV (C.okV a G _ h.1) (pe_one (C.okV b G _ h.2))) fun hh => by unfold C.wp at hh; exact hh
    · cases h
  | .cmp _ _ _, X, g, G, e, h => by unfold C.matV at h; cases h
  | .chn _ _ _ _ _, X, g, G, e, h => by unfold C.matV at h; cases h
  | .not a, X, g, G, e, h => by
    unfold C.matV at h
    split at h
    · exact C.cgv (w_notV (C.okV a G _ h)) fun hh => by unfold C.wp at hh; exact hh
    · cases h
theorem T.ok {F : Fe} : ∀ (m : T) {X : Cx} {g : Gm} (G : Good X g F) (e : Expr), m.mat g e = true → PG X e (upG X.kx m.nms (m.wp F))
  | .nam i, X, g, G, e, h => by
    unfold T.mat at h
    split at h
    · simp only [Bool.and_eq_true] at h
      obtain ⟨h1, h2⟩ := G.loc h.2
      unfold T.nms
      exact T.cgx (g_name G.nd (G.at h.1) h1 h2) fun hh => by unfold T.wp at hh; exact hh
    · cases h
  | .tup ts, X, g, G, e, h => by
    unfold T.mat at h
    split at h
    · obtain ⟨a1, a2⟩ := TL.side ts _ h X.env
      unfold T.nms
      exact T.cgx (g_tup G.calm (TL.ok ts G _ h) a1 a2) fun hh => by unfold T.wp at hh; exact hh
    · cases h
  | .sub o i, X, g, G, e, h => by
    unfold T.mat at h
    split at h
    · simp only [Bool.and_eq_true] at h
      unfold T.nms
      exact T.cgx (g_sub G.hu (E.ok o G _ h.1) (E.ok i G _ h.2) (fun v => asgSub_fine (E.fine i _ h.2))) fun hh => by unfold T.wp at hh; exact hh
    · cases h
theorem TL.ok {F : Fe} : ∀ (m : TL) {X : Cx} {g : Gm} (G : Good X g F) (es : List Expr), m.mat g es = true → PGs X es (upGs X.kx m.nms (m.wp F))
  | .nil, X, g, G, es, h => by
    unfold TL.mat at h
    split at h
    · unfold TL.nms
      exact TL.cgx g_nil fun {w ta mu P} hh => by cases w <;> (unfold TL.wp at hh; exact hh)
    · cases h
  | .cons m r, X, g, G, es, h => by
    unfold TL.mat at h
    split at h
    · simp only [Bool.and_eq_true] at h
      unfold TL.nms
      exact TL.cgx (g_cons (T.ok m G _ h.1) (TL.ok r G _ h.2) (by rw [asg_fine (T.fine m _ h.1)]; rfl)) fun {w ta mu P} hh => by cases w <;> (unfold TL.wp at hh; exact hh)
    · cases h
theorem I.ok {F : Fe} : ∀ (m : I) {X : Cx} {g : Gm} (G : Good X g F) (tg e : Expr), m.mat g tg e = true → PI X tg e (upI X.kx (m.wp F))
  | .of a, X, g, G, tg, e, h => by
    unfold I.mat at h
    exact I.cgx (i_of G.calm (E.ok a G e h)) fun hh => by unfold I.wp at hh; exact hh
  | .rg1 a, X, g, G, tg, e, h => by
    unfold I.mat at h
    split at h
    · simp only [Bool.and_eq_true] at h
      obtain ⟨rfl, g1, g2, g3⟩ := G.bn h.1
      exact I.cgx (i_rg1 g1 (G.bl _ (by decide)) (E.ok a G _ h.2) (star_fine (E.fine a _ h.2) [] X.env)) fun hh => by unfold I.wp at hh; exact hh
    · cases h
  | .rg2 a b, X, g, G, tg, e, h => by
    unfold I.mat at h
    split at h
    · simp only [Bool.and_eq_true] at h
      obtain ⟨rfl, g1, g2, g3⟩ := G.bn h.1.1
      exact I.cgx (i_rg2 g1 (G.bl _ (by decide)) (E.ok a G _ h.1.2) (E.ok b G _ h.2) (star_fine (E.fine a _ h.1.2) _ X.env) (star_fine (E.fine b _ h.2) [] X.env)) fun hh => by unfold I.wp at hh; exact hh
    · cases h
  | .enu a, X, g, G, tg, e, h => by
    unfold I.mat at h
    split at h
    · simp only [Bool.and_eq_true] at h
      obtain ⟨⟨h0, h1⟩, h2⟩ := h
      obtain ⟨rfl, g1, g2, g3⟩ := G.bn h1
      split at h0
      · exact I.cgx (i_enu G.calm g1 (G.bl _ (by decide)) (E.ok a G _ h2) (star_fine (E.fine a _ h2) [] X.env)) fun hh => by unfold I.wp at hh; exact hh
      · cases h0
    · cases h
  | .zip a b, X, g, G, tg, e, h => by unfold I.mat at h; cases h
  | .rev a, X, g, G, tg, e, h => by unfold I.mat at h; cases h
end
end FF

/-! Statements do what they ask. -/
namespace FF
open PySem PySem.Spec PyProof.Rows L2
theorem sw_fine {v : Expr} (h : fineE v = true) (hl : isLc v = false) (o : Option Expr) (l : Nat) (env : Env) : swapsWith v o l env = pure false := by
  cases v <;> first | rfl | exact Bool.noConfusion h | exact Bool.noConfusion hl
section
variable {X : Cx} {g : Gm} {F : Fe}
theorem Good.llB (G : Good X g F) (x : Str) : (X.env.kindOf x == some NameKind.local) = g.ll x := by
  have e : X.env.kindOf x = g.sc.names.lookup x := by unfold Env.kindOf; rw [G.sc]
  rw [e]
  unfold Gm.ll
  cases g.sc.names.lookup x with
  | none => rfl
  | some k => cases k <;> rfl
theorem Good.bk (G : Good X g F) : X.env.blockKind = .function := by
  unfold Env.blockKind
  rw [G.sc, G.kind]
  rfl
theorem swS_ok (G : Good X g F) {ts vs : List Expr} {k k2 : Nat} {p p2 : Pos} {r : Option (List Str)} (hf : ∀ e ∈ vs, fineE e = true) (h : swS g.ll ts vs = some r) : swappedStores [.Tuple ts k p] (.Tuple vs k2 p2) X.env = pure r := by
  have hs : (vs.any fun | .Starred .. => true | _ => false) = false := by
    rw [List.any_eq_false]
    intro e he
    have := hf e he
    cases e <;> first | exact Bool.noConfusion this | (intro z; cases z)
  have hb : (X.env.blockKind != ScopeKind.function) = false := by rw [G.bk]; rfl
  unfold swappedStores
  unfold swS at h
  simp only [G.llB, hb, hs, Bool.or_false]
  split at h
  · rename_i c
    cases h
    simp only [c, if_true]
    first | done | rfl
  · rename_i c
    simp only [c, if_false]
    refine (if_neg Bool.false_ne_true).trans ?_
    refine (if_neg (by rw [Bool.not_eq_true]; exact hs)).trans ?_
    dsimp only at h
    split at h
    · rename_i c2
      cases h
      exact if_pos c2
    · rename_i c2
      refine (if_neg c2).trans ?_
      split at h
      · rename_i c3
        cases h
        exact if_pos c3
      · rename_i c3
        refine (if_neg c3).trans ?_
        split at h
        · cases h
        · rename_i c4
          cases h
          exact if_neg c4
theorem nopar_ok (G : Good X g F) {t v : Expr} (ht : fineE t = true) (hv : fineE v = true) (hve : ∀ ts k p, v = .Tuple ts k p → ∀ e ∈ ts, fineE e = true) (h : noPar g.ll t v = true) : swappedStores [t] v X.env = pure none := by
  cases t with
  | Tuple ts k p =>
    cases v with
    | Tuple vs k2 p2 =>
      unfold noPar at h
      dsimp only at h
      split at h
      · rename_i e
        exact swS_ok G (hve vs k2 p2 rfl) e
      · exact Bool.noConfusion h
    | _ => rfl
  | List _ _ => exact Bool.noConfusion h
  | _ => cases v <;> rfl
end
mutual
/-- a tuple's items are of the forms that are read -/
theorem E.tupFine {g : Gm} : ∀ (m : E) {ts : List Expr} {k : Nat} {p : Pos}, m.mat g (.Tuple ts k p) = true → ∀ e ∈ ts, fineE e = true
  | .tup es, _, _, _, h => by unfold E.mat at h; exact EL.fine es _ h
  | .cnd c, _, _, _, h => by unfold E.mat at h; exact C.tupFine c h
  | .var _, _, _, _, h => by unfold E.mat at h; exact Bool.noConfusion h
  | .con _, _, _, _, h => by unfold E.mat at h; exact Bool.noConfusion h
  | .glb _, _, _, _, h => by unfold E.mat at h; exact Bool.noConfusion h
  | .bin _ _ _, _, _, _, h => by unfold E.mat at h; exact Bool.noConfusion h
  | .neg _, _, _, _, h => by unfold E.mat at h; exact Bool.noConfusion h
  | .inv _, _, _, _, h => by unfold E.mat at h; exact Bool.noConfusion h
  | .cmp _ _ _, _, _, _, h => by unfold E.mat at h; exact Bool.noConfusion h
  | .chn _ _ _ _ _, _, _, _, h => by unfold E.mat at h; exact Bool.noConfusion h
  | .ifx _ _ _, _, _, _, h => by unfold E.mat at h; exact Bool.noConfusion h
  | .mk _ _, _, _, _, h => by unfold E.mat at h; exact Bool.noConfusion h
  | .lof _ _, _, _, _, h => by unfold E.mat at h; exact Bool.noConfusion h
  | .lrg _ _, _, _, _, h => by unfold E.mat at h; exact Bool.noConfusion h
  | .trg _ _, _, _, _, h => by unfold E.mat at h; exact Bool.noConfusion h
  | .dnw _ _, _, _, _, h => by unfold E.mat at h; exact Bool.noConfusion h
  | .dc1 _ _ _, _, _, _, h => by unfold E.mat at h; exact Bool.noConfusion h
  | .dcp _ _ _, _, _, _, h => by unfold E.mat at h; exact Bool.noConfusion h
  | .cmp1 _ _ _ _ _ _, _, _, _, h => by unfold E.mat at h; exact Bool.noConfusion h
  | .idx _ _, _, _, _, h => by unfold E.mat at h; exact Bool.noConfusion h
  | .sl _ _ _ _, _, _, _, h => by unfold E.mat at h; exact Bool.noConfusion h
  | .sst _ _ _, _, _, _, h => by unfold E.mat at h; exact Bool.noConfusion h
  | .cal _ _, _, _, _, h => by unfold E.mat at h; exact Bool.noConfusion h
  | .bif _ _, _, _, _, h => by unfold E.mat at h; exact Bool.noConfusion h
  | .isi _ _, _, _, _, h => by unfold E.mat at h; exact Bool.noConfusion h
  | .lns _, _, _, _, h => by unfold E.mat at h; exact Bool.noConfusion h
  | .mth _ _ _, _, _, _, h => by unfold E.mat at h; exact Bool.noConfusion h
theorem C.tupFine {g : Gm} : ∀ (m : C) {ts : List Expr} {k : Nat} {p : Pos}, m.matV g (.Tuple ts k p) = true → ∀ e ∈ ts, fineE e = true
  | .val a, _, _, _, h => by unfold C.matV at h; exact E.tupFine a h
  | .cmp _ _ _, _, _, _, h => by unfold C.matV at h; exact Bool.noConfusion h
  | .chn _ _ _ _ _, _, _, _, h => by unfold C.matV at h; exact Bool.noConfusion h
  | .and _ _, _, _, _, h => by unfold C.matV at h; exact Bool.noConfusion h
  | .or _ _, _, _, _, h => by unfold C.matV at h; exact Bool.noConfusion h
  | .not _, _, _, _, h => by unfold C.matV at h; exact Bool.noConfusion h
end
section
variable {X : Cx} {g : Gm} {F : Fe}
theorem S.cgx {e : Stmt} {t t' : SW} (h : PS X e (upS X.kx t)) (i : ∀ {P ta mu}, t' P ta mu → t P ta mu) : PS X e (upS X.kx t') := PS.mn h fun D s H ⟨a, b, c, S, hw, k⟩ => ⟨a, b, c, S, i hw, k⟩
theorem SL.cgx {e : List Stmt} {t t' : SW} (h : PSs X e (upS X.kx t)) (i : ∀ {P ta mu}, t' P ta mu → t P ta mu) : PSs X e (upS X.kx t') := PSs.mn h fun D s H ⟨a, b, c, S, hw, k⟩ => ⟨a, b, c, S, i hw, k⟩
/-- name = [..] whose store is swapped -/
theorem s_lc {own : Bool} {ss : List Nat} {tg : T} {it : I} {c : CO} {el : E} {i : Nat} {elt tge ite : Expr} {ifs : List Expr} {z : Int} {scope : Scope} {lp py spos : Pos} {y : Str} (G : Good X g F) (hi : g.at i y = true) (hy : X.env.scope.names.lookup y = some .local)
    (hm : (E.cmp1 own ss tg it c el).mat g (.ListComp elt [⟨tge, ite, ifs, z⟩] scope lp) = true) (hsw : swapsWith (.ListComp elt [⟨tge, ite, ifs, z⟩] scope lp) (some (.Name y py)) spos.line X.env = pure true) :
    PS X (.Assign [.Name y py] (.ListComp elt [⟨tge, ite, ifs, z⟩] scope lp) spos) (upS X.kx fun P t mu => (E.cmp1 own ss tg it c el).wp F t mu fun w mu1 => P.nx (t.set i (some w)) mu1) := by
  unfold E.mat at hm
  simp only [Bool.and_eq_true, decide_eq_true_eq, List.all_eq_true, List.contains_iff_mem] at hm
  obtain ⟨⟨⟨⟨⟨⟨rfl, hs⟩, hb⟩, h1⟩, h2⟩, h3⟩, h4⟩ := hm
  rw [← G.N, ← G.sc] at hb
  have ok := blkOk_by hb
  have q := ps_setLc (spos := spos) (py := py) (pos := lp) (wi := upI X.kx (it.wp F)) (g := upG X.kx tg.nms (tg.wp F)) (tt := upT X.kx (c.wp F)) (te := up X.kx (el.wp F)) G.calm G.nd (G.at hi) hy hsw (I.ok it G _ _ h1) ok (fun s H C cl fp => T.ok tg (G.blk ok.kind s H C cl fp) _ h2) (fun s H C cl fp => CO.ok c (G.blk ok.kind s H C cl fp) _ h3) (fun s H C cl fp => E.ok el (G.blk ok.kind s H C cl fp) _ h4) (fun x => fold_fine (I.fine it _ _ h1) X.env x)
  simp only [ownOf_snd] at q
  refine PS.mn q fun D s H ⟨ta, mu, P, S, hw, k⟩ => ?_
  refine lc_up (own := own) hs s H _ ⟨ta, mu, fun w mu1 => P.nx (ta.set i (some w)) mu1, S, by unfold E.wp at hw; exact hw, fun w mu1 v H1 hw r m f => k.nx _ mu1 _ H1 hw ((S.step f m).set i r) f⟩
theorem fm_all {α β : Type} (f : α → Option β) (k : α → β) (hk : ∀ a b, f a = some b → b = k a) : ∀ l : List α, (l.filterMap f).length = l.length → l.filterMap f = l.map k
  | [], _ => rfl
  | a :: l, h => by
    rw [List.filterMap_cons] at h ⊢
    cases e : f a with
    | none =>
      rw [e] at h
      have := List.length_filterMap_le f l
      rw [List.length_cons] at h
      dsimp only at h
      omega
    | some b =>
      rw [e] at h
      rw [List.map_cons, ← hk a b e, ← fm_all f k hk l (by simpa using h)]
def nameE : Expr → Str
  | .Name x _ => x
  | _ => ""
theorem swS_some {ll : Str → Bool} {ts vs : List Expr} {names : List Str} (h : swS ll ts vs = some (some names)) : (ts.length = 2 ∨ ts.length = 3) ∧ vs.length = ts.length ∧ names = ts.map nameE := by
  unfold swS at h
  split at h
  · cases h
  · rename_i c1
    dsimp only at h
    split at h
    · cases h
    · rename_i c2
      split at h
      · cases h
      · split at h
        · cases h
        · cases h
          rw [Bool.not_eq_true, Bool.or_eq_false_iff] at c1 c2
          obtain ⟨a1, a2⟩ := c1
          obtain ⟨b1, _⟩ := c2
          refine ⟨by have a1' : ¬ ts.length = 2 → ts.length = 3 := by simpa using a1
                     omega, by simpa using a2, fm_all _ _ (fun a b e => ?_) ts (by simpa using b1)⟩
          split at e
          · split at e
            · cases e; rfl
            · cases e
          · cases e
theorem par_names : ∀ {is : List Nat} {ts : List Expr}, parM g is ts = true → ∃ ns : List (Str × Pos), ts = ns.map (fun n => Expr.Name n.1 n.2) ∧ ns.length = is.length ∧ ∀ (j : Nat) n, ns[j]? = some n → ∃ i, is[j]? = some i ∧ g.at i n.1 = true ∧ g.ll n.1 = true
  | [], [], _ => ⟨[], rfl, rfl, fun j n e => by simp at e⟩
  | [], _ :: _, h => by unfold parM at h; exact Bool.noConfusion h
  | i :: is, ts, h => by
    unfold parM at h
    split at h
    · rename_i x p r
      simp only [Bool.and_eq_true] at h
      obtain ⟨ns, h1, h2, h3⟩ := par_names h.2
      refine ⟨(x, p) :: ns, by rw [h1]; rfl, by rw [List.length_cons, List.length_cons, h2], fun j n e => ?_⟩
      cases j with
      | zero => cases e; exact ⟨i, rfl, h.1.1, h.1.2⟩
      | succ j => exact h3 j n e
    · exact Bool.noConfusion h
end
mutual
theorem S.ok {F : Fe} : ∀ (m : S) {X : Cx} {g : Gm} (G : Good X g F) (e : Stmt), m.mat g e = true → PS X e (upS X.kx (m.wp F))
  | .asg tg v, X, g, G, e, h => by
    unfold S.mat at h
    split at h
    · rename_i t ve spos
      simp only [Bool.and_eq_true] at h
      obtain ⟨⟨⟨h1, h2⟩, h3⟩, h4⟩ := h
      have fv := E.fine v _ h2
      have ft := T.fine tg _ h1
      have hw := nopar_ok G ft fv (fun ts k p ev => by subst ev; exact E.tupFine v h2) h3
      have ha : (assignEach [t] X.env).map (·.2) = [assign t X.env] := by rw [asg_fine ft]; rfl
      have norm : swapsWith ve (some t) spos.line X.env = pure false → PS X (.Assign [t] ve spos) (upS X.kx ((S.asg tg v).wp F)) := fun hs =>
        S.cgx (s_asg (E.ok v G _ h2) (T.ok tg G _ h1) hs hw ha) fun hh => by unfold S.wp at hh; exact hh
      by_cases hl : isLc ve = true
      · rw [hl] at h4
        have hE : v.isLcE = true := by simpa using h4
        cases ve <;> first | exact Bool.noConfusion hl | skip
        rename_i elt gens scope lp
        cases t <;> first | exact norm rfl | skip
        rename_i y py
        have e : swapsWith (.ListComp elt gens scope lp) (some (.Name y py)) spos.line X.env = pure (X.env.blockKind == .function && X.env.kindOf y == some .local && py.line == lp.line && !(scope.names.any fun (n, k) => n == y && (k == .local || k == .cell))) := rfl
        by_cases hc : (X.env.blockKind == .function && X.env.kindOf y == some .local && py.line == lp.line && !(scope.names.any fun (n, k) => n == y && (k == .local || k == .cell))) = true
        · rw [hc] at e
          simp only [Bool.and_eq_true, beq_iff_eq] at hc
          have hy : X.env.scope.names.lookup y = some .local := hc.1.1.2
          cases tg with
          | nam i =>
            have hi : g.at i y = true := by
              unfold T.mat at h1
              simp only [Bool.and_eq_true] at h1
              exact h1.1
            have q : ∃ own ss tg' it c el tge ite ifs z, v = .cmp1 own ss tg' it c el ∧ gens = [⟨tge, ite, ifs, z⟩] := by
              cases v <;> first | exact Bool.noConfusion hE | skip
              unfold E.mat at h2
              split at h2
              · rename_i eq
                cases eq
                exact ⟨_, _, _, _, _, _, _, _, _, _, rfl, rfl⟩
              · exact Bool.noConfusion h2
            obtain ⟨own, ss, tg', it, c, el, tge, ite, ifs, z, rfl, rfl⟩ := q
            exact S.cgx (s_lc G hi hy h2 e) fun hh => by unfold S.wp T.wp at hh; exact hh
          | tup ts => unfold T.mat at h1; exact Bool.noConfusion h1
          | sub o i => unfold T.mat at h1; exact Bool.noConfusion h1
        · rw [Bool.not_eq_true] at hc
          rw [hc] at e
          exact norm e
      · exact norm (sw_fine fv (by simpa using hl) _ _ _)
    · cases h
  | .par is es, X, g, G, e, h => by
    unfold S.mat at h
    split at h
    · rename_i ts k p vs k2 p2 spos
      simp only [Bool.and_eq_true, decide_eq_true_eq] at h
      obtain ⟨⟨⟨h0, h1⟩, h2⟩, h3⟩ := h
      have hf := EL.fine es _ h2
      have hes := EL.ok es G _ h2
      obtain ⟨ns, rfl, hl, hn⟩ := par_names h1
      split at h3
      · rename_i names e
        obtain ⟨e1, e2, e3⟩ := swS_some e
        have hw := swS_ok (k := k) (k2 := k2) (p := p) (p2 := p2) G hf e
        rw [e3] at hw
        rw [List.length_map] at e1 e2
        match ns, is, vs, hl, hn, e1, e2, hw, h0, hes with
        | [(x, px), (y, py)], [i, j], [a, b], _, hn, _, _, hw, h0, hes =>
          obtain ⟨i', q1, q2, q3⟩ := hn 0 _ rfl
          obtain ⟨j', r1, r2, r3⟩ := hn 1 _ rfl
          cases q1; cases r1
          have hij : i ≠ j := by simpa using h0
          exact S.cgx (s_par2 G.calm G.nd (G.at q2) (G.at r2) hij (G.ll q3) (G.ll r3) hes hw) fun hh => by unfold S.wp at hh; exact hh
        | [(x, px), (y, py), (z, pz)], [i, j, l], [a, b, c], _, hn, _, _, hw, h0, hes =>
          obtain ⟨i', q1, q2, q3⟩ := hn 0 _ rfl
          obtain ⟨j', r1, r2, r3⟩ := hn 1 _ rfl
          obtain ⟨l', t1, t2, t3⟩ := hn 2 _ rfl
          cases q1; cases r1; cases t1
          have hd : (i ≠ j ∧ i ≠ l) ∧ j ≠ l := by simpa using h0
          exact S.cgx (s_par3 G.calm G.nd (G.at q2) (G.at r2) (G.at t2) hd.1.1 hd.1.2 hd.2 (G.ll q3) (G.ll r3) (G.ll t3) hes hw) fun hh => by unfold S.wp at hh; exact hh
        | [], _, _, _, _, e1, _, _, _, _ => exfalso; simp at e1
        | [_], _, _, _, _, e1, _, _, _, _ => exfalso; simp at e1
        | _ :: _ :: _ :: _ :: _, _, _, _, _, e1, _, _, _, _ => exfalso; simp at e1
      · exact Bool.noConfusion h3
    · cases h
  | .aug i op v, X, g, G, e, h => by
    unfold S.mat at h
    split at h
    · simp only [Bool.and_eq_true, decide_eq_true_eq] at h
      obtain ⟨⟨⟨⟨rfl, h1⟩, h2⟩, h3⟩, h4⟩ := h
      have hx := G.ll h3
      refine S.cgx (s_aug G.nd (G.at h2) (.inl hx) (E.ok v G _ h4) (.inr hx) ?_) fun hh => by unfold S.wp at hh; exact hh
      split at h1 <;> first | exact .inl rfl | exact .inr rfl | exact Bool.noConfusion h1
    · cases h
  | .ex v, X, g, G, e, h => by
    unfold S.mat at h
    split at h
    · simp only [Bool.and_eq_true] at h
      exact S.cgx (s_ex (E.ok v G _ h.1) (sw_fine (E.fine v _ h.1) (by simpa using h.2) _ _ _)) fun hh => by unfold S.wp at hh; exact hh
    · cases h
  | .ret v, X, g, G, e, h => by
    unfold S.mat at h
    split at h
    · exact S.cgx (s_ret (E.ok v G _ h)) fun hh => by unfold S.wp at hh; exact hh
    · cases h
  | .iff c a b, X, g, G, e, h => by
    unfold S.mat at h
    split at h
    · simp only [Bool.and_eq_true] at h
      exact S.cgx (s_if ((C.ok c G).1 _ h.1.1) (SL.ok a G _ h.1.2) (SL.ok b G _ h.2)) fun hh => by unfold S.wp at hh; exact hh
    · cases h
  | .for tg it b, X, g, G, e, h => by
    unfold S.mat at h
    split at h
    · simp only [Bool.and_eq_true] at h
      exact S.cgx (s_for (by rw [G.xe]; exact PassesOwn.never) G.calm (I.ok it G _ _ h.1.2) (T.ok tg G _ h.1.1) (SL.ok b G _ h.2) (fun x => fold_fine (I.fine it _ _ h.1.2) X.env x)) fun hh => by unfold S.wp at hh; exact hh
    · cases h
  | .whl c b, X, g, G, e, h => by
    unfold S.mat at h
    split at h
    · simp only [Bool.and_eq_true] at h
      exact S.cgx (s_whl (by rw [G.xe]; exact PassesOwn.never) ((C.ok c G).1 _ h.1) (SL.ok b G _ h.2)) fun hh => by unfold S.wp at hh; exact hh
    · cases h
  | .brk, X, g, G, e, h => by
    unfold S.mat at h
    split at h
    · exact S.cgx s_brk fun hh => by unfold S.wp at hh; exact hh
    · cases h
  | .cnt, X, g, G, e, h => by
    unfold S.mat at h
    split at h
    · exact S.cgx s_cnt fun hh => by unfold S.wp at hh; exact hh
    · cases h
  | .pas, X, g, G, e, h => by
    unfold S.mat at h
    split at h
    · exact S.cgx s_pass fun hh => by unfold S.wp at hh; exact hh
    · cases h
  | .nev, X, g, G, e, h => S.cgx s_nev fun hh => by unfold S.wp at hh; exact hh
theorem SL.ok {F : Fe} : ∀ (m : SL) {X : Cx} {g : Gm} (G : Good X g F) (e : List Stmt), m.mat g e = true → PSs X e (upS X.kx (m.wp F))
  | .nil, X, g, G, e, h => by
    unfold SL.mat at h
    split at h
    · exact SL.cgx s_nil fun hh => by unfold SL.wp at hh; exact hh
    · cases h
  | .nev, X, g, G, e, h => SL.cgx ss_nev fun hh => by unfold SL.wp at hh; exact hh
  | .cons s r, X, g, G, e, h => by
    unfold SL.mat at h
    split at h
    · simp only [Bool.and_eq_true] at h
      exact SL.cgx (s_cons (S.ok s G _ h.1) (SL.ok r G _ h.2)) fun hh => by unfold SL.wp at hh; exact hh
    · cases h
end
end FF

/-! Calls: a def's promise from what its body asks; the law's own call, where nothing stands around it. -/
namespace FF
open PySem PySem.Spec PyProof.Rows L2
def startW (N : List Str) (ws : List W) : Tau := ws.map some ++ List.replicate (N.length - ws.length) none
theorem sr_start {K : Kx} {N : List Str} {H : Hp} {mu : Mu} {ws : List W} {vs : List V} (r : Rps K H mu ws vs) (m : MRel K H mu) : SR K (L2.start N vs) (startW N ws) H mu := by
  have hl := r.length
  refine ⟨?_, fun i w e => ?_, m⟩
  · unfold L2.start startW
    rw [List.length_append, List.length_append, List.length_map, List.length_map, List.length_replicate, List.length_replicate, hl]
  · unfold startW at e
    by_cases hi : i < ws.length
    · rw [List.getElem?_append_left (by simpa using hi), List.getElem?_map] at e
      cases q : ws[i]? with
      | none => rw [q] at e; cases e
      | some z =>
        rw [q] at e; cases e
        obtain ⟨v, ev, rv⟩ := r.get q
        refine ⟨v, ?_, rv⟩
        unfold L2.start
        rw [List.getElem?_append_left (by rw [List.length_map, ← hl]; exact hi), List.getElem?_map, ev]
        rfl
    · rw [List.getElem?_append_right (by simpa using hi), List.getElem?_replicate] at e
      split at e <;> cases e
def gmOf (st : Stmt) (N : List Str) (fns : Str → Bool) (rp : Bool) : Gm := ⟨N, defScope st, fun _ => true, fns, rp⟩
def endOf (Q : QW) : EndW := { nx := fun _ mu' => Q .non mu', rt := Q }
section
variable {P : Program} {w : World} {K : PySem.W.Frag} {mg : Str → Option Value} {base : Heap}
/-- the names that a body may use -/
structure Nms (P : Program) (w : World) (K : PySem.W.Frag) (mg : Str → Option Value) (base : Heap) (F : Fe) (fns : Str → Bool) (k : Nat) : Prop where
  bl : ∀ x ∈ bltL, mg x = none
  cs : ∀ x w', F.cs x = some w' → ∃ u v, mg x = some u ∧ RelV v u ∧ ∀ H mu, Rp ⟨P, w, K⟩ H mu w' v
  cal : ∀ f, fns f = true → ∃ (fa : Addr) (fd : FuncData) (ps : List Str), FnOk P w K mg base L2.CX0 k fa fd ps (spUp ⟨P, w, K⟩ (F.fn f)) ∧ mg f = some (.ref fa) ∧ PySem.W.keepIn K (.ref fa) = true ∧ Binds K fd ps []
/-- what a body asks makes its promise -/
theorem good_of {x : Str} {st : Stmt} {f : Addr} {N ps : List Str} {k : Nat} {F : Fe} {fns : Str → Bool} {rp : Bool} {cdv : Value} {A : Around} {outer : List Env} {s : Shared} {H : Hp} {E : XK} (S : FnScope N ps (defScope st)) (nm : Nms P w K mg base F fns k)
    (hr : Room k (A.deeper (envOfC x (defScope st) s.heap.objs.size f cdv))) (hg : rp = true → A.guards = some []) : Good (cxOf L2.CX0 P w K mg base N x (defScope st) f cdv A outer s H E).nox (gmOf st N fns rp) F := by
  refine ⟨rfl, S.nd, rfl, rfl, S.kind, rfl, ?_, rfl, nm.bl, nm.cs, fun y hy => ?_, fun h => ?_⟩
  · have := hr.un
    show (A.deeper _).units + 65 < cLine
    omega
  · obtain ⟨fa, fd, ps', h1, h2, h3, h4⟩ := nm.cal y hy
    exact ⟨k, fa, fd, ps', h1, hr, h2, h3, h4⟩
  · have := hg h
    show (A.deeper _).guards = some []
    exact this
theorem fin_end {K : Kx} {H : Hp} {mu : Mu} {P : QW} {Q : VK} (k : Fin K H mu P Q) : FinS K H mu (endOf P) { nx := fun _ H' => Q .non H', rt := Q } :=
  ⟨fun _ mu' _ H' h S f => k .non mu' .non H' h .non S.m f, fun w mu' v H' h r m f => k w mu' v H' h r m f, fun _ _ _ _ h _ _ => h.elim, fun _ _ _ _ h _ _ => h.elim⟩
theorem fn_up {x : Str} {st : Stmt} {f : Addr} {fd : FuncData} {N ps : List Str} {k : Nat} {F : Fe} {fns : Str → Bool} {r : SpW} (m : SL) (Fn : Fun K x x st f fd) (S : FnScope N ps (defScope st)) (hm : m.mat (gmOf st N fns false) (defBody st) = true) (nm : Nms P w K mg base F fns k)
    (spec : ∀ ws mu Q, r ws mu Q → ws.length = ps.length ∧ m.wp F (endOf Q) (startW N ws) mu) : FnOk P w K mg base L2.CX0 (k + 1) f fd ps (spUp ⟨P, w, K⟩ r) := by
  refine Fn.ok S (fun vs H Q E h => ?_) fun cdv A outer s H vs Q E hr h => ?_
  · obtain ⟨ws, mu, R, rr, _, hw, _⟩ := h
    rw [← rr.length]
    exact (spec ws mu R hw).1
  · obtain ⟨ws, mu, R, rr, mm, hw, kf⟩ := h
    exact ⟨_, SL.ok m (good_of S nm hr (fun z => Bool.noConfusion z)) _ hm, startW N ws, mu, endOf R, sr_start rr mm, (spec ws mu R hw).2, fin_end kf⟩
/-- a def called from A alone, its body's reading at hand -/
theorem fn_at {x : Str} {st : Stmt} {f : Addr} {fd : FuncData} {N ps : List Str} {k : Nat} {m : SL} {F : Fe} {fns : Str → Bool} {rp : Bool} (Fn : Fun K x x st f fd) (S : FnScope N ps (defScope st)) (hm : m.mat (gmOf st N fns rp) (defBody st) = true) (nm : Nms P w K mg base F fns k)
    {A : Around} {outer : List Env} {s : Shared} {H : Hp} {args : Args} {us : List Value} {vs : List V} {ws : List W} {mu : Mu} {R : QW} {Q : VK} (hA : rp = true → A.guards = some []) (room : Room (k + 1) A) (e0 : Env0 P w K mg base A outer s H)
    (hb : BindsTo s fd args (ps.zip us)) (rv : Vals vs us) (rr : Rps ⟨P, w, K⟩ H mu ws vs) (mm : MRel ⟨P, w, K⟩ H mu) (hl : ws.length = ps.length) (hw : m.wp F (endOf R) (startW N ws) mu) (kf : Fin ⟨P, w, K⟩ H mu R Q) :
    codeAny (model P w) A (.call (.ref f) args) (fun r s' => ∃ u, r = .ok (.ret u) ∧ CE outer P w H s Q u s') s := by
  obtain ⟨oc, od, kV, doc, pm, an, cdv, ct, osl, rfl, look, code⟩ := Fn.ex
  have KX : K.In s.heap := e0.mod.kin.keeps fun b o e => (e0.bs b o e).1
  have here : ∀ y ∈ ps.zip us, (defScope st).names.lookup y.1 = some .local ∨ ((defScope st).names.lookup y.1 = some .cell ∧ ((cellsFrom (s.heap.objs.size + 1) (defScope st).names []).lookup y.1).isSome = true) := by
    rintro ⟨n, v⟩ hy
    exact (S.par n (List.of_mem_zip hy).1).imp id fun q => ⟨q, PySem.W.cellsFrom_some _ _ _ (.inl q)⟩
  refine codeAny_call_function room.depth (KX _ _ look) rfl S.co S.gen rfl (PySem.W.codeRec_of KX code) (hb _ _ _ _ (wpAny_newFunctionEnv_cells S.kind here fun env he s1 xx => ?_))
  subst he
  refine ⟨(e0.mod.nolimit.keeps fun b o e => (e0.bs b o e).1).keeps xx.toInCall.keep, codeAny_func ?_⟩
  have I1 := inv_start (CX := L2.CX0) (N := N) (E := fun _ _ _ => False) S room.hd e0 (by rw [← rr.length]; exact hl) rv xx
  have body := SL.ok m (good_of (x := x) (outer := outer) (H := H) (E := fun _ _ _ => False) S nm (room.deeper (envOfC x (defScope st) s.heap.objs.size f cdv)) hA) _ hm
  refine wpAny_mono (body.run [] s1 (L2.start N vs) H { nx := fun _ H' => Q .non H', rt := Q } (I1.wish _) ⟨startW N ws, mu, endOf R, sr_start rr mm, hw, fin_end kf⟩) (fun fl s' got => ?_) fun e s' z => z.elim
  have got := got.unwish
  cases fl with
  | ret u =>
    obtain ⟨v, _, H', J, ru, q⟩ := got
    exact ⟨u, rfl, v, H', J.os, J.bare, J.base, J.hok, ru, q⟩
  | next =>
    obtain ⟨_, H', J, q⟩ := got
    exact ⟨.none, rfl, .non, H', J.os, J.bare, J.base, J.hok, rfl, q⟩
  | brk => obtain ⟨_, _, _, q⟩ := got; exact q.elim
  | cont => obtain ⟨_, _, _, q⟩ := got; exact q.elim
/-- the law, called with its script: the script alone is known -/
theorem law_top {mb : Str → Option Value} {x y : Str} {st : Stmt} {fa a : Addr} {fd : FuncData} {N : List Str} {k : Nat} {m : SL} {F : Fe} {fns : Str → Bool} {s₁ : Shared} {vs : List Value} {ns : List Int}
    (KX : K.In s₁.heap) (gl : s₁.heap.Ns mainGlobals mg) (bt : s₁.heap.Ns builtinsNs mb) (bb : ∀ z : Str, z ≠ "__name__" → mb z = bootBuiltins z) (nolim : s₁.heap.NoLimit) (nogen : s₁.gens = #[]) (ha : s₁.heap.get? a = some { cls := .type "list", data := .seq vs.toArray })
    (hi : IntsAre vs ns) (hl : ns.length ≤ sizeLine) (room : Room (k + 1) callerA) (Fn : Fun K x x st fa fd) (S : FnScope N [y] (defScope st)) (hm : m.mat (gmOf st N fns true) (defBody st) = true) (hbi : ∀ (s : Shared) (u : Value), BindsTo s fd ⟨[u], []⟩ [(y, u)])
    (nm : ∀ base : Heap, K.In base → base.Ns mainGlobals mg → Nms P w K mg base F fns k) (spec : m.wp F (endOf fun w' _ => w' = .bl true) (startW N [.scr ns]) fun _ => none) :
    codeAny (model P w) callerA (.call (.ref fa) ⟨[.ref a], []⟩) (fun r s' => r = .ok (.ret (.bool true)) ∧ OldK s₁.heap s'.heap ∧ s'.os = s₁.os ∧ AllBare s'.gens) s₁ := by
  have rv := vals_ints hi
  have main : ∀ H : Hp, (∀ b, H b = none ∨ (b = a ∧ H b = some (.frz { cls := .type "list", data := .seq vs.toArray } (.lst (ns.map V.int))))) → Scr ⟨P, w, K⟩ H (fun _ => none) a ns → (H a ≠ none → K.lookup a = none) →
      codeAny (model P w) callerA (.call (.ref fa) ⟨[.ref a], []⟩) (fun r s' => r = .ok (.ret (.bool true)) ∧ OldK s₁.heap s'.heap ∧ s'.os = s₁.os ∧ AllBare s'.gens) s₁ := by
    intro H only scr hK
    have hok : HOk P w H s₁.heap := fun b u e => by
      rcases only b with z | ⟨rfl, z⟩
      · rw [z] at e; cases e
      · rw [z] at e; cases e
        exact ⟨ha, by rw [List.length_map]; exact hl, vs, _, rv, ha⟩
    have isA : ∀ b, H b ≠ none → b = a := fun b z => (only b).elim (fun q => absurd q z) fun q => q.1
    have notdict : ∀ {b : Addr} {o : Obj} {es : Array DictEntry} {ep : Nat}, s₁.heap.get? b = some o → o.data = .dict es ep → H b = none := fun {b o es ep} e d => by
      rcases only b with z | ⟨rfl, z⟩
      · exact z
      · rw [ha] at e
        cases e
        exact Data.noConfusion d
    have hidNs : ∀ {b : Addr} {f : Str → Option Value}, s₁.heap.Ns b f → (hidT s₁.heap H).Ns b f := fun ⟨o, es, ep, e, d, r⟩ => ⟨o, es, ep, hidT_get e (notdict e d), d, r⟩
    have hidIn : K.In (hidT s₁.heap H) := fun b o e => hidT_get (KX b o e) (by
      rcases only b with z | ⟨rfl, z⟩
      · exact z
      · rw [hK (by rw [z]; exact fun q => nomatch q)] at e; cases e)
    have e0 : Env0 P w K mg (hidT s₁.heap H) callerA [] s₁ H := by
      refine ⟨rfl, ⟨hidIn, hidNs gl, ⟨mb, hidNs bt, bb⟩, ?_⟩, fun b o e => of_hidT e, Nat.le_of_eq (hidT_size _ _), trivial, fun b hb => ?_, hok, .of_eq nogen⟩
      · obtain ⟨mc, h1, h2⟩ := nolim
        exact ⟨mc, hidNs h1, h2⟩
      · exact absurd hb (by simp [frs])
    have rs : Rps ⟨P, w, K⟩ H (fun _ => none) [.scr ns] [.ref a] := .cons (.scr scr) .nil
    refine codeAny_mono (fn_at (rp := true) (us := [.ref a]) (Q := fun v _ => v = .bl true) Fn S hm (nm _ hidIn (hidNs gl)) (fun _ => rfl) room e0 (hbi s₁ (.ref a)) (.cons (show RelV (.ref a) (.ref a) from rfl) .nil) rs (fun b o e => nomatch e) rfl spec ?_) fun r s' ⟨u, er, v, H', os, bare, un, hok', ru, q⟩ => ?_
    · intro w' mu' v H' e r _ _
      subst e
      exact blE r
    · subst er
      have q' : v = .bl true := q
      subst q'
      cases (show u = Value.bool true from ru)
      refine ⟨rfl, OldK.of_keep fun b o e => ?_, os, bare⟩
      rcases only b with z | ⟨rfl, z⟩
      · exact un.keep b o e z (fun q => absurd q (by simp [frs])) (by simp)
      · obtain ⟨e1, _⟩ := hok' b _ (un.frzs b _ _ z)
        rw [ha] at e
        cases e
        exact e1
  cases hk : K.lookup a with
  | some o =>
    have e := KX a o hk
    rw [ha] at e
    cases e
    exact main (fun _ => none) (fun _ => .inl rfl) (.inr ⟨_, vs.toArray, _, hk, rfl, rfl, rfl, by rw [List.size_toArray, hi.length]; exact hl, by simpa using rv⟩) fun z => absurd rfl z
  | none =>
    refine main (fun b => if b = a then some (.frz { cls := .type "list", data := .seq vs.toArray } (.lst (ns.map V.int))) else none) (fun b => ?_) (.inl ⟨rfl, .inr ⟨_, if_pos rfl⟩⟩) fun _ => hk
    by_cases hb : b = a
    · exact .inr ⟨hb, if_pos hb⟩
    · exact .inl (if_neg hb)
end
/-- the end of a law: what is left of it is what its own def asks of trees -/
theorem walk_up {l : PySem.W.OpenLaw} {q : Program} {loose : List Str} {XP : (Str → Option Value) → Heap → Prop} {YP : World → Heap → Prop} {d : DefRec} {K : Params → PySem.W.Frag} {x y : Str} {st : Stmt} {N : List Str} {k : Nat} {m : SL} {F : Fe} {fns : Str → Bool}
    (hn : l.most = some 63) (hdf : d.params.defaults = []) (room : Room (k + 1) callerA) (hY : ∀ (w : World) (h : Heap), YP w h → (K w.params).In h) (S : FnScope N [y] (defScope st)) (hm : m.mat (gmOf st N fns true) (defBody st) = true)
    (top : ∀ (w : World) (mg : Str → Option Value) (fa : Addr) (h : Heap), (K w.params).In h → h.Ns mainGlobals mg → mg d.name = some (.ref fa) →
      ∃ fd : FuncData, Fun (K w.params) x x st fa fd ∧ (∀ (s : Shared) (u : Value), BindsTo s fd ⟨[u], []⟩ [(y, u)]) ∧ ∀ base : Heap, (K w.params).In base → base.Ns mainGlobals mg → Nms l.prog w (K w.params) mg base F fns k)
    (spec : ∀ ns : List Int, ns.length ≤ 63 → m.wp F (endOf fun w' _ => w' = .bl true) (startW N [.scr ns]) fun _ => none) : PySem.W.WalkO q loose XP YP l.row.toRowW d [] (fun f vs => PySem.call f vs) := by
  refine Att.attach_call hn hdf fun w s₀ s₁ mg mb fa o pm cd doc a vs ns G Y ho hd hcd hmg hobj hints hlen hg => ?_
  have KX := hY w _ Y
  obtain ⟨fd, Fn, hb, nm⟩ := top w mg fa _ KX G.T.g hmg
  exact law_top KX G.T.g G.T.b G.T.builtins G.T.nolimit hg hobj hints (Nat.le_trans hlen (by decide)) room Fn S hm hb nm (spec ns hlen)
end FF

/-! The end of a def: what is not handed out is let go, what is handed out may become a tree. Loops by invariants. -/
namespace FF
open PySem PySem.Spec PyProof.Rows L2
/-- some of the owned objects are let go -/
def Sub (mu2 mu1 : Mu) : Prop := ∀ a, mu2 a = mu1 a ∨ mu2 a = none
theorem Sub.refl (mu : Mu) : Sub mu mu := fun _ => .inl rfl
theorem Sub.trans {m1 m2 m3 : Mu} (h : Sub m1 m2) (k : Sub m2 m3) : Sub m1 m3 := fun a => (h a).elim (fun e => (k a).imp (fun e2 => e.trans e2) fun e2 => e.trans e2) .inr
theorem Sub.sett {mu mu' : Mu} {p : Addr} {o : O} (hp : mu p = none) (h : Sub mu mu') : Sub mu (FF.sett mu' p o) := fun a => by
  by_cases e : a = p
  · subst e; exact .inr hp
  · rw [sett_ne e]; exact h a
theorem Sub.dell {mu mu' : Mu} {p : Addr} (hp : mu p = none) (h : Sub mu mu') : Sub mu (FF.dell mu' p) := fun a => by
  unfold FF.dell
  by_cases e : a = p
  · subst e; exact .inr hp
  · rw [if_neg e]; exact h a
theorem dell_sett {mu : Mu} {p : Addr} {o : O} (hp : mu p = none) : dell (sett mu p o) p = mu := by
  funext a
  unfold dell sett
  by_cases e : a = p
  · rw [if_pos e, e, hp]
  · rw [if_neg e, if_neg e]
theorem sett_sett {mu : Mu} {p : Addr} {o o' : O} : sett (sett mu p o) p o' = sett mu p o' := by
  funext a
  unfold sett
  by_cases e : a = p
  · rw [if_pos e, if_pos e]
  · rw [if_neg e, if_neg e, if_neg e]
theorem sett_comm {mu : Mu} {p q : Addr} {o o' : O} (h : p ≠ q) : sett (sett mu p o) q o' = sett (sett mu q o') p o := by
  funext a
  unfold sett
  by_cases e : a = q
  · subst e
    rw [if_pos rfl, if_neg (Ne.symm h), if_pos rfl]
  · rw [if_neg e]
    by_cases e2 : a = p
    · rw [if_pos e2, if_pos e2]
    · rw [if_neg e2, if_neg e2, if_neg e]
mutual
/-- what was owned becomes a tree -/
inductive Fz (m1 m2 : Mu) : W → W → Prop
  | same (w : W) : Fz m1 m2 w w
  | tup {ws ws' : List W} (h : Fzs m1 m2 ws ws') : Fz m1 m2 (.tup ws) (.tup ws')
  | lst {ws ws' : List W} (h : Fzs m1 m2 ws ws') : Fz m1 m2 (.lst ws) (.lst ws')
  | refL {a : Addr} {ws ws' : List W} (e : m1 a = some (.lst ws)) (n : m2 a = none) (h : Fzs m1 m2 ws ws') : Fz m1 m2 (.ref a) (.lst ws')
  | refD {a : Addr} {t : Bool} {kvs : List (W × W)} (e : m1 a = some (.dct t kvs)) (n : m2 a = none) : Fz m1 m2 (.ref a) (.dct t kvs)
inductive Fzs (m1 m2 : Mu) : List W → List W → Prop
  | nil : Fzs m1 m2 [] []
  | cons {w w' : W} {ws ws' : List W} (h : Fz m1 m2 w w') (t : Fzs m1 m2 ws ws') : Fzs m1 m2 (w :: ws) (w' :: ws')
end
theorem Sub.mrel {K : Kx} {H : Hp} {m1 m2 : Mu} (m : MRel K H m1) (s : Sub m2 m1) : MRel K H m2 ∧ Frm H m1 H m2 := by
  have f : Frm H m1 H m2 := ⟨fun _ _ _ _ h => h, fun _ _ _ h => h, fun _ _ _ h => h, fun c n _ => (s c).elim (fun e => e.trans n) id, fun _ h => h⟩
  refine ⟨fun c o e => ?_, f⟩
  rcases s c with z | z
  · rw [z] at e; exact (m c o e).frm m f fun _ h => h
  · rw [z] at e; cases e
mutual
theorem Fz.ok {K : Kx} {H : Hp} {m1 m2 : Mu} (m : MRel K H m1) (f : Frm H m1 H m2) : ∀ {w w' : W} {v : V}, Fz m1 m2 w w' → Rp K H m1 w v → Rp K H m2 w' v
  | _, _, _, .same w, r => r.frm m f
  | _, _, _, .tup h, .tup hx r => .tup (hx.frm f) (Fzs.ok m f h r)
  | _, _, _, .lst h, .lst hx n r => .lst hx (f.nn _ n (by rw [hx]; exact fun z => nomatch z)) (Fzs.ok m f h r)
  | _, _, _, .refL (a := a) e n h, r => by
    cases r
    obtain ⟨vs, hx, r⟩ := m a _ e
    exact .lst hx n (Fzs.ok m f h r)
  | _, _, _, .refD (a := a) (t := t) e n, r => by
    cases r
    have q := m a _ e
    cases t with
    | false => obtain ⟨ks, hx, r⟩ := q; exact .dK (.inl hx) n (r.frm m f)
    | true => obtain ⟨ks, hx, r⟩ := q; exact .dT (.inl hx) n (r.frm m f)
theorem Fzs.ok {K : Kx} {H : Hp} {m1 m2 : Mu} (m : MRel K H m1) (f : Frm H m1 H m2) : ∀ {w w' : List W} {v : List V}, Fzs m1 m2 w w' → Rps K H m1 w v → Rps K H m2 w' v
  | _, _, _, .nil, .nil => .nil
  | _, _, _, .cons h t, .cons r s => .cons (Fz.ok m f h r) (Fzs.ok m f t s)
end
/-- handed out -/
def RetR (Q : QW) (w : W) (m1 : Mu) : Prop := ∃ w' m2, Sub m2 m1 ∧ Fz m1 m2 w w' ∧ Q w' m2
def endR (Q : QW) : EndW := { nx := fun _ mu' => RetR Q .non mu', rt := RetR Q }
theorem ret_go {Q : QW} {w : W} {mu mu' : Mu} (s : Sub mu mu') (h : Q w mu) : RetR Q w mu' := ⟨w, mu, s, .same w, h⟩
theorem ret_same {Q : QW} {w : W} {mu : Mu} (h : Q w mu) : RetR Q w mu := ret_go (Sub.refl mu) h
theorem fin_endR {K : Kx} {H : Hp} {mu : Mu} {P : QW} {Q : VK} (k : Fin K H mu P Q) : FinS K H mu (endR P) { nx := fun _ H' => Q .non H', rt := Q } := by
  refine ⟨fun _ mu' _ H' h S f => ?_, fun w mu' v H' h r m f => ?_, fun _ _ _ _ h _ _ => h.elim, fun _ _ _ _ h _ _ => h.elim⟩
  · obtain ⟨w', m2, s, fz, hp⟩ := h
    obtain ⟨m', f'⟩ := s.mrel S.m
    exact k w' m2 .non H' hp (fz.ok S.m f' .non) m' (f.trans f')
  · obtain ⟨w', m2, s, fz, hp⟩ := h
    obtain ⟨m', f'⟩ := s.mrel m
    exact k w' m2 v H' hp (fz.ok m f' r) m' (f.trans f')
section
variable {P : Program} {w : World} {K : PySem.W.Frag} {mg : Str → Option Value} {base : Heap}
theorem fn_upR {x : Str} {st : Stmt} {f : Addr} {fd : FuncData} {N ps : List Str} {k : Nat} {F : Fe} {fns : Str → Bool} {r : SpW} (m : SL) (Fn : Fun K x x st f fd) (S : FnScope N ps (defScope st)) (hm : m.mat (gmOf st N fns false) (defBody st) = true) (nm : Nms P w K mg base F fns k)
    (spec : ∀ ws mu Q, r ws mu Q → ws.length = ps.length ∧ m.wp F (endR Q) (startW N ws) mu) : FnOk P w K mg base L2.CX0 (k + 1) f fd ps (spUp ⟨P, w, K⟩ r) := by
  refine Fn.ok S (fun vs H Q E h => ?_) fun cdv A outer s H vs Q E hr h => ?_
  · obtain ⟨ws, mu, R, rr, _, hw, _⟩ := h
    rw [← rr.length]
    exact (spec ws mu R hw).1
  · obtain ⟨ws, mu, R, rr, mm, hw, kf⟩ := h
    exact ⟨_, SL.ok m (good_of S nm hr (fun z => Bool.noConfusion z)) _ hm, startW N ws, mu, endR R, sr_start rr mm, (spec ws mu R hw).2, fin_endR kf⟩
end
/-! ### loops by invariants -/
theorem forW_inv {bind : W → Tau → Mu → (Tau → Mu → Prop) → Prop} {body : EndW → Tau → Mu → Prop} {src : Src} {P : EndW} {ws : List W} {t : Tau} {mu : Mu} (I : Nat → Tau → Mu → Prop) (h0 : I 0 t mu)
    (hs : ∀ i t mu, i ≤ ws.length → I i t mu → stays src mu)
    (step : ∀ i w t mu (K : Tau → Mu → Prop), ws[i]? = some w → I i t mu → (∀ t' mu', I (i + 1) t' mu' → K t' mu') → bind w t mu fun t2 mu2 => body { nx := K, ct := K, bk := P.nx, rt := P.rt } t2 mu2)
    (hend : ∀ t mu, I ws.length t mu → P.nx t mu) : forW bind body src P ws t mu := by
  have go : ∀ n i t mu, n = ws.length - i → i ≤ ws.length → I i t mu → forW bind body src P (ws.drop i) t mu := by
    intro n
    induction n with
    | zero =>
      intro i t mu e hi h
      have e2 : i = ws.length := by omega
      subst e2
      rw [List.drop_length]
      exact ⟨hs _ _ _ (Nat.le_refl _) h, hend t mu h⟩
    | succ n ih =>
      intro i t mu e hi h
      have hlt : i < ws.length := by omega
      rw [List.drop_eq_getElem_cons hlt]
      exact ⟨hs _ _ _ hi h, step i _ t mu _ (List.getElem?_eq_getElem hlt) h fun t' mu' h' => ih (i + 1) t' mu' (by omega) hlt h'⟩
  have := go _ 0 t mu rfl (Nat.zero_le _) h0
  rwa [List.drop_zero] at this
theorem compW_inv {bind : W → Tau → Mu → (Tau → Mu → Prop) → Prop} {cd : Tau → Mu → (Bool → Mu → Prop) → Prop} {el : Tau → Mu → QW → Prop} {ss : List Nat} {src : Src} {t : Tau} {p : Addr} {K : List W → Mu → Prop} {ws : List W} {mu : Mu} (I : Nat → List W → Mu → Prop) (h0 : I 0 [] mu)
    (hs : ∀ i acc mu, i ≤ ws.length → I i acc mu → stays src mu ∧ mu p = some (.lst acc))
    (step : ∀ i w acc mu (R : List W → Mu → Prop), ws[i]? = some w → I i acc mu → (∀ acc' mu', I (i + 1) acc' mu' → R acc' mu') → bind w (wipeW t ss) mu fun t2 mu2 => cd t2 mu2 fun b mu3 =>
      if b = true then el t2 mu3 fun y mu4 => mu4 p = some (.lst acc) ∧ acc.length < sizeLine ∧ R (acc ++ [y]) (sett mu4 p (.lst (acc ++ [y]))) else R acc mu3)
    (hend : ∀ acc mu, I ws.length acc mu → K acc mu) : compW bind cd el ss src t p K ws [] mu := by
  have go : ∀ n i acc mu, n = ws.length - i → i ≤ ws.length → I i acc mu → compW bind cd el ss src t p K (ws.drop i) acc mu := by
    intro n
    induction n with
    | zero =>
      intro i acc mu e hi h
      have e2 : i = ws.length := by omega
      subst e2
      rw [List.drop_length]
      exact ⟨(hs _ _ _ (Nat.le_refl _) h).1, (hs _ _ _ (Nat.le_refl _) h).2, hend acc mu h⟩
    | succ n ih =>
      intro i acc mu e hi h
      have hlt : i < ws.length := by omega
      rw [List.drop_eq_getElem_cons hlt]
      exact ⟨(hs _ _ _ hi h).1, step i _ acc mu _ (List.getElem?_eq_getElem hlt) h fun t' mu' h' => ih (i + 1) t' mu' (by omega) hlt h'⟩
  have := go _ 0 [] mu rfl (Nat.zero_le _) h0
  rwa [List.drop_zero] at this
/-- a comprehension whose parts change nothing: f of each that passes c -/
theorem comp_pure {bind : W → Tau → Mu → (Tau → Mu → Prop) → Prop} {cd : Tau → Mu → (Bool → Mu → Prop) → Prop} {el : Tau → Mu → QW → Prop} {ss : List Nat} {t : Tau} {p : Addr} {K : List W → Mu → Prop} {ws : List W} {mu : Mu} (hp : mu p = none) (c : W → Bool) (f : W → W) (hz : ws.length ≤ sizeLine) (src : Src) (hsrc : stays src mu)
    (step : ∀ w m (R : List W → Mu → Prop) (acc : List W), w ∈ ws → m = sett mu p (.lst acc) → (if c w = true then R (acc ++ [f w]) (sett mu p (.lst (acc ++ [f w]))) else R acc m) →
      bind w (wipeW t ss) m fun t2 mu2 => cd t2 mu2 fun b mu3 => if b = true then el t2 mu3 fun y mu4 => mu4 p = some (.lst acc) ∧ acc.length < sizeLine ∧ R (acc ++ [y]) (sett mu4 p (.lst (acc ++ [y]))) else R acc mu3)
    (hend : K ((ws.filter c).map f) (sett mu p (.lst ((ws.filter c).map f)))) : compW bind cd el ss src t p K ws [] (sett mu p (.lst [])) := by
  refine compW_inv (fun i acc m => acc = ((ws.take i).filter c).map f ∧ m = sett mu p (.lst acc)) ⟨rfl, rfl⟩ (fun i acc m _ ⟨_, h⟩ => ?_) (fun i w acc m R hw ⟨h1, h2⟩ k => ?_) fun acc m ⟨h1, h2⟩ => ?_
  · subst h
    refine ⟨?_, sett_same⟩
    cases src with
    | free => exact True.intro
    | own a zs =>
      have e : a ≠ p := fun z => by
        have q : mu a = some (.lst zs) := hsrc
        rw [z, hp] at q; cases q
      show sett mu p _ a = _
      rw [sett_ne e]; exact hsrc
  · have hi : i < ws.length := (List.getElem?_eq_some_iff.mp hw).1
    refine step w m R acc (List.mem_of_getElem? hw) h2 ?_
    have e : (ws.take (i + 1)).filter c = (ws.take i).filter c ++ (if c w = true then [w] else []) := by
      rw [List.take_add_one, hw, List.filter_append]
      by_cases hc : c w = true
      · rw [if_pos hc]; simp [hc]
      · rw [if_neg hc]; simp [hc]
    split
    · rename_i hc
      exact k _ _ ⟨by rw [e, if_pos hc, h1, List.map_append]; rfl, rfl⟩
    · rename_i hc
      exact k _ _ ⟨by rw [e, if_neg hc, h1, List.append_nil], h2⟩
  · rw [List.take_length] at h1
    subst h1
    rw [h2]
    exact hend
end FF

/-! The defs of the law's text as terms of the small language. -/
namespace FF
open PySem PySem.Spec PyProof.Rows L2
def tp (i : Nat) : Stmt := PySem.Challenge.pw_fewfilled_k64_papers_of_rings_by_any_han.main.body.getD i (.Pass ⟨0, 0, 0, 0⟩)
/-- is_whole(thing): slots 0 thing -/
def n_is_whole : List Str := ["thing"]
def c_is_whole : List Str := []
def b_is_whole : SL := .cons (.ret (.cnd (.and (.val (.isi "int" (.var 0))) (.not (.val (.isi "bool" (.var 0))))))) .nil
/-- neighbour_rows(web): slots 0 web, 1 found, 2 place, 3 i, 4 k, 5 row -/
def n_neighbour_rows : List Str := ["web", "found", "place", "i", "k", "row"]
def c_neighbour_rows : List Str := []
def b_neighbour_rows_1b0 : SL := .cons (.ex (.mth .append (.idx (.var 1) (.var 3)) (.cons (.var 4) .nil))) .nil
def b_neighbour_rows_2 : SL := .cons (.ret (.cmp1 false [5] (.nam 5) (.of (.var 1)) .none (.bif .tuple (.cons (.var 5) .nil)))) .nil
def b_neighbour_rows_1 : SL := .cons (.for (.tup (.cons (.nam 3) (.cons (.nam 4) .nil))) (.of (.idx (.var 0) (.con (.int 1)))) b_neighbour_rows_1b0) b_neighbour_rows_2
def b_neighbour_rows : SL := .cons (.asg (.nam 1) (.cmp1 false [2] (.nam 2) (.rg1 (.idx (.var 0) (.con (.int 0)))) .none (.mk true .nil))) b_neighbour_rows_1
/-- are_places(many, thing): slots 0 many, 1 thing, 2 one -/
def n_are_places : List Str := ["many", "thing", "one"]
def c_are_places : List Str := ["is_whole"]
def b_are_places_0t0 : SL := .cons (.ret (.con (.bl false))) .nil
def b_are_places_1 : SL := .cons (.ret (.cmp .Eq (.lns (.var 1)) (.bif .len (.cons (.var 1) .nil)))) .nil
def b_are_places : SL := .cons (.iff (.or (.not (.val (.isi "tuple" (.var 1)))) (.not (.val (.bif .all (.cons (.cmp1 false [2] (.nam 2) (.of (.var 1)) .none (.cnd (.and (.val (.cal "is_whole" (.cons (.var 2) .nil))) (.val (.chn .LtE .Lt (.con (.int 0)) (.var 2) (.var 0)))))) .nil))))) b_are_places_0t0 .nil) b_are_places_1
/-- is_ring(web, thing): slots 0 web, 1 thing, 2 near, 3 at, 4 one, 5 there, 6 is_next -/
def n_is_ring : List Str := ["web", "thing", "near", "at", "one", "there", "is_next"]
def c_is_ring : List Str := ["are_places", "neighbour_rows"]
def b_is_ring_0t0 : SL := .cons (.ret (.con (.bl false))) .nil
def b_is_ring_2b0b1t0 : SL := .cons (.ret (.con (.bl false))) .nil
def b_is_ring_2b0b1 : SL := .cons (.iff (.cmp .NotEq (.cmp .In (.idx (.var 1) (.var 5)) (.idx (.var 2) (.var 4))) (.var 6)) b_is_ring_2b0b1t0 .nil) .nil
def b_is_ring_2b0b0 : SL := .cons (.asg (.nam 6) (.cnd (.or (.val (.cmp .Eq (.var 5) (.bin .Add (.var 3) (.con (.int 1))))) (.and (.val (.cmp .Eq (.var 3) (.con (.int 0)))) (.val (.cmp .Eq (.var 5) (.bin .Sub (.bif .len (.cons (.var 1) .nil)) (.con (.int 1))))))))) b_is_ring_2b0b1
def b_is_ring_2b0 : SL := .cons (.for (.nam 5) (.rg2 (.bin .Add (.var 3) (.con (.int 1))) (.bif .len (.cons (.var 1) .nil))) b_is_ring_2b0b0) .nil
def b_is_ring_3 : SL := .cons (.ret (.con (.bl true))) .nil
def b_is_ring_2 : SL := .cons (.for (.tup (.cons (.nam 3) (.cons (.nam 4) .nil))) (.enu (.var 1)) b_is_ring_2b0) b_is_ring_3
def b_is_ring_1 : SL := .cons (.asg (.nam 2) (.cal "neighbour_rows" (.cons (.var 0) .nil))) b_is_ring_2
def b_is_ring : SL := .cons (.iff (.or (.not (.val (.cal "are_places" (.cons (.idx (.var 0) (.con (.int 0))) (.cons (.var 1) .nil))))) (.cmp .Lt (.bif .len (.cons (.var 1) .nil)) (.glb "LEAST_RING"))) b_is_ring_0t0 .nil) b_is_ring_1
/-- unlike_pairs(web, places): slots 0 web, 1 places, 2 cells, 3 cell, 4 rising, 5 found, 6 at, 7 i, 8 k -/
def n_unlike_pairs : List Str := ["web", "places", "cells", "cell", "rising", "found", "at", "i", "k"]
def c_unlike_pairs : List Str := []
def b_unlike_pairs_3b0 : SL := .cons (.ex (.mth .extend (.var 5) (.cons (.cmp1 false [8] (.nam 8) (.of (.sl false (.var 4) (.some (.bin .Add (.var 6) (.con (.int 1)))) .none)) (.some (.cmp .NotIn (.tup (.cons (.var 7) (.cons (.var 8) .nil))) (.var 2))) (.tup (.cons (.var 7) (.cons (.var 8) .nil)))) .nil))) .nil
def b_unlike_pairs_4 : SL := .cons (.ret (.var 5)) .nil
def b_unlike_pairs_3 : SL := .cons (.for (.tup (.cons (.nam 6) (.cons (.nam 7) .nil))) (.enu (.var 4)) b_unlike_pairs_3b0) b_unlike_pairs_4
def b_unlike_pairs_2 : SL := .cons (.asg (.nam 5) (.mk true .nil)) b_unlike_pairs_3
def b_unlike_pairs_1 : SL := .cons (.asg (.nam 4) (.bif .sorted (.cons (.var 1) .nil))) b_unlike_pairs_2
def b_unlike_pairs : SL := .cons (.asg (.nam 2) (.dcp false true (.cmp1 false [3] (.nam 3) (.of (.idx (.var 0) (.con (.int 1)))) .none (.tup (.cons (.var 3) (.cons (.con (.bl true)) .nil)))))) b_unlike_pairs_1
/-- are_apart(web, rings): slots 0 web, 1 rings, 2 known, 3 ring, 4 pair -/
def n_are_apart : List Str := ["web", "rings", "known", "ring", "pair"]
def c_are_apart : List Str := ["unlike_pairs"]
def b_are_apart_1b0b0t0 : SL := .cons (.ret (.con (.bl false))) .nil
def b_are_apart_1b0b1 : SL := .cons (.asg (.sub (.var 2) (.var 4)) (.con (.bl true))) .nil
def b_are_apart_1b0b0 : SL := .cons (.iff (.cmp .In (.var 4) (.var 2)) b_are_apart_1b0b0t0 .nil) b_are_apart_1b0b1
def b_are_apart_1b0 : SL := .cons (.for (.nam 4) (.of (.cal "unlike_pairs" (.cons (.var 0) (.cons (.var 3) .nil)))) b_are_apart_1b0b0) .nil
def b_are_apart_2 : SL := .cons (.ret (.con (.bl true))) .nil
def b_are_apart_1 : SL := .cons (.for (.nam 3) (.of (.var 1)) b_are_apart_1b0) b_are_apart_2
def b_are_apart : SL := .cons (.asg (.nam 2) (.dnw true true)) b_are_apart_1
/-- shown_by_rings(web, thing): slots 0 web, 1 thing, 2 one, 3 ring -/
def n_shown_by_rings : List Str := ["web", "thing", "one", "ring"]
def c_shown_by_rings : List Str := ["are_apart", "is_ring"]
def b_shown_by_rings_0t0 : SL := .cons (.ret (.con .non)) .nil
def b_shown_by_rings_1 : SL := .cons (.ret (.bif .sum (.cons (.cmp1 false [3] (.nam 3) (.of (.var 1)) .none (.bin .Sub (.bif .len (.cons (.var 3) .nil)) (.con (.int 3)))) .nil))) .nil
def b_shown_by_rings : SL := .cons (.iff (.or (.not (.val (.isi "tuple" (.var 1)))) (.or (.not (.val (.bif .all (.cons (.cmp1 false [2] (.nam 2) (.of (.var 1)) .none (.cal "is_ring" (.cons (.var 0) (.cons (.var 2) .nil)))) .nil)))) (.not (.val (.cal "are_apart" (.cons (.var 0) (.cons (.var 1) .nil))))))) b_shown_by_rings_0t0 .nil) b_shown_by_rings_1
/-- shown_by(web, thing): slots 0 web, 1 thing -/
def n_shown_by : List Str := ["web", "thing"]
def c_shown_by : List Str := ["shown_by_rings"]
def b_shown_by_0t0 : SL := .cons (.ret (.con .non)) .nil
def b_shown_by_1t0 : SL := .cons (.ret (.cal "shown_by_rings" (.cons (.var 0) (.cons (.idx (.var 1) (.con (.int 1))) .nil)))) .nil
def b_shown_by_3 : SL := .cons (.ret (.con .non)) .nil
def b_shown_by_2 : SL := .cons (.iff (.and (.cmp .Eq (.idx (.var 1) (.con (.int 0))) (.con (.str "chord"))) (.cmp .Eq (.bif .len (.cons (.var 1) .nil)) (.con (.int 3)))) .nev .nil) b_shown_by_3
def b_shown_by_1 : SL := .cons (.iff (.and (.cmp .Eq (.idx (.var 1) (.con (.int 0))) (.con (.str "rings"))) (.cmp .Eq (.bif .len (.cons (.var 1) .nil)) (.con (.int 2)))) b_shown_by_1t0 .nil) b_shown_by_2
def b_shown_by : SL := .cons (.iff (.or (.not (.val (.isi "tuple" (.var 1)))) (.or (.cmp .Eq (.bif .len (.cons (.var 1) .nil)) (.con (.int 0))) (.not (.val (.isi "str" (.idx (.var 1) (.con (.int 0)))))))) b_shown_by_0t0 .nil) b_shown_by_1
/-- _law_draw(deck, most): slots 0 deck, 1 most, 2 cell, 3 number -/
def n_law_draw : List Str := ["deck", "most", "cell", "number"]
def c_law_draw : List Str := []
def b_law_draw_2t1t1 : SL := .cons (.ret (.bin .Mod (.bif .int (.cons (.var 2) .nil)) (.var 1))) .nil
def b_law_draw_2t1t0 : SL := .cons (.ex (.mth .append (.idx (.var 0) (.con (.int 0))) (.cons (.bin .FloorDiv (.var 2) (.bif .max2 (.cons (.con (.int 2)) (.cons (.var 1) .nil)))) .nil))) b_law_draw_2t1t1
def b_law_draw_2t1 : SL := .cons (.iff (.cmp .GtE (.var 2) (.bin .Pow (.con (.int 10)) (.con (.int 18)))) b_law_draw_2t1t0 .nil) .nil
def b_law_draw_2t0 : SL := .cons (.asg (.nam 2) (.mth .pop (.idx (.var 0) (.con (.int 0))) .nil)) b_law_draw_2t1
def b_law_draw_5 : SL := .cons (.ret (.bin .Mod (.bif .int (.cons (.bin .FloorDiv (.var 3) (.con (.int 64))) .nil)) (.var 1))) .nil
def b_law_draw_4 : SL := .cons (.asg (.nam 3) (.bin .Mod (.bif .int (.cons (.bin .Add (.bin .Add (.bin .Mult (.var 3) (.var 3)) (.bin .Mult (.con (.int 69621)) (.var 3))) (.idx (.var 0) (.con (.int 2)))) .nil)) (.con (.int 2147483587)))) b_law_draw_5
def b_law_draw_3 : SL := .cons (.asg (.nam 3) (.bin .Mod (.bif .int (.cons (.bin .Mult (.bin .Add (.bin .Mod (.bif .int (.cons (.var 2) .nil)) (.con (.int 2147483629))) (.bin .Mult (.con (.int 7919)) (.idx (.var 0) (.con (.int 2))))) (.con (.int 48271))) .nil)) (.con (.int 2147483647)))) b_law_draw_4
def b_law_draw_2 : SL := .cons (.iff (.cmp .NotEq (.idx (.var 0) (.con (.int 0))) (.mk false .nil)) b_law_draw_2t0 .nil) b_law_draw_3
def b_law_draw_1 : SL := .cons (.asg (.nam 2) (.bin .Add (.idx (.var 0) (.con (.int 1))) (.bin .Mult (.con (.int 15485863)) (.idx (.var 0) (.con (.int 2)))))) b_law_draw_2
def b_law_draw : SL := .cons (.asg (.sub (.var 0) (.con (.int 2))) (.bin .Add (.idx (.var 0) (.con (.int 2))) (.con (.int 1)))) b_law_draw_1
/-- _law_pick(deck, some): slots 0 deck, 1 some -/
def n_law_pick : List Str := ["deck", "some"]
def c_law_pick : List Str := ["_law_draw"]
def b_law_pick : SL := .cons (.ret (.idx (.var 1) (.cal "_law_draw" (.cons (.var 0) (.cons (.bif .len (.cons (.var 1) .nil)) .nil))))) .nil
/-- _law_turned(deck, things): slots 0 deck, 1 things, 2 left, 3 k -/
def n_law_turned : List Str := ["deck", "things", "left", "k"]
def c_law_turned : List Str := ["_law_draw"]
def b_law_turned_1 : SL := .cons (.ret (.cmp1 false [3] (.nam 3) (.rg1 (.bif .len (.cons (.var 2) .nil))) .none (.mth .popAt (.var 2) (.cons (.cal "_law_draw" (.cons (.var 0) (.cons (.bif .len (.cons (.var 2) .nil)) .nil))) .nil)))) .nil
def b_law_turned : SL := .cons (.asg (.nam 2) (.lof true (.var 1))) b_law_turned_1
/-- _law_web_of(many, pairs): slots 0 many, 1 pairs, 2 cells, 3 i, 4 k -/
def n_law_web_of : List Str := ["many", "pairs", "cells", "i", "k"]
def c_law_web_of : List Str := []
def b_law_web_of_1b1 : SL := .cons (.asg (.sub (.var 2) (.tup (.cons (.var 4) (.cons (.var 3) .nil)))) (.con (.bl true))) .nil
def b_law_web_of_1b0 : SL := .cons (.asg (.sub (.var 2) (.tup (.cons (.var 3) (.cons (.var 4) .nil)))) (.con (.bl true))) b_law_web_of_1b1
def b_law_web_of_2 : SL := .cons (.ret (.tup (.cons (.var 0) (.cons (.bif .tuple (.cons (.bif .sorted (.cons (.var 2) .nil)) .nil)) .nil)))) .nil
def b_law_web_of_1 : SL := .cons (.for (.tup (.cons (.nam 3) (.cons (.nam 4) .nil))) (.of (.var 1)) b_law_web_of_1b0) b_law_web_of_2
def b_law_web_of : SL := .cons (.asg (.nam 2) (.dnw true true)) b_law_web_of_1
/-- _law_near(web): slots 0 web, 1 near, 2 k, 3 i -/
def n_law_near : List Str := ["web", "near", "k", "i"]
def c_law_near : List Str := []
def b_law_near_1b0 : SL := .cons (.asg (.sub (.idx (.var 1) (.var 3)) (.var 2)) (.con (.bl true))) .nil
def b_law_near_2 : SL := .cons (.ret (.var 1)) .nil
def b_law_near_1 : SL := .cons (.for (.tup (.cons (.nam 3) (.cons (.nam 2) .nil))) (.of (.idx (.var 0) (.con (.int 1)))) b_law_near_1b0) b_law_near_2
def b_law_near : SL := .cons (.asg (.nam 1) (.cmp1 false [2] (.nam 2) (.rg1 (.idx (.var 0) (.con (.int 0)))) .none (.dnw true false))) b_law_near_1
/-- _law_are_near(near, some): slots 0 near, 1 some, 2 i, 3 k -/
def n_law_are_near : List Str := ["near", "some", "i", "k"]
def c_law_are_near : List Str := []
def b_law_are_near_0b0t0 : SL := .cons (.ret (.con (.bl false))) .nil
def b_law_are_near_0b0 : SL := .cons (.iff (.cmp .NotEq (.cmp1 false [3] (.nam 3) (.of (.var 1)) (.some (.and (.cmp .NotEq (.var 3) (.var 2)) (.cmp .NotIn (.var 3) (.idx (.var 0) (.var 2))))) (.var 3)) (.mk false .nil)) b_law_are_near_0b0t0 .nil) .nil
def b_law_are_near_1 : SL := .cons (.ret (.con (.bl true))) .nil
def b_law_are_near : SL := .cons (.for (.nam 2) (.of (.var 1)) b_law_are_near_0b0) b_law_are_near_1
/-- _law_shape(deck, way, many): slots 0 deck, 1 way, 2 many, 3 cut, 4 wide, 5 pairs, 6 k, 7 tree, 8 i, 9 is_row, 10 is_round -/
def n_law_shape : List Str := ["deck", "way", "many", "cut", "wide", "pairs", "k", "tree", "i", "is_row", "is_round"]
def c_law_shape : List Str := ["_law_draw"]
def b_law_shape_1b1b1t0 : SL := .cons (.ex (.mth .append (.var 5) (.cons (.tup (.cons (.var 8) (.cons (.var 6) .nil))) .nil))) .nil
def b_law_shape_1b1b2t0 : SL := .cons (.ex (.mth .append (.var 5) (.cons (.tup (.cons (.var 8) (.cons (.var 6) .nil))) .nil))) .nil
def b_law_shape_1b1b3t0 : SL := .cons (.ex (.mth .append (.var 5) (.cons (.tup (.cons (.var 8) (.cons (.var 6) .nil))) .nil))) .nil
def b_law_shape_1b1b4t0 : SL := .cons (.ex (.mth .append (.var 5) (.cons (.tup (.cons (.var 8) (.cons (.var 6) .nil))) .nil))) .nil
def b_law_shape_1b1b4 : SL := .cons (.iff (.or (.and (.cmp .Eq (.var 1) (.con (.int 7))) (.or (.cmp .GtE (.var 8) (.var 3)) (.cmp .LtE (.var 6) (.bin .Add (.var 3) (.con (.int 1)))))) (.and (.cmp .Eq (.var 1) (.con (.int 9))) (.or (.and (.val (.var 9)) (.cmp .Gt (.bin .Mod (.bif .int (.cons (.var 6) .nil)) (.var 4)) (.con (.int 0)))) (.cmp .Eq (.var 8) (.bin .Sub (.var 6) (.var 4)))))) b_law_shape_1b1b4t0 .nil) .nil
def b_law_shape_1b1b3 : SL := .cons (.iff (.or (.and (.cmp .Eq (.var 1) (.con (.int 5))) (.cmp .Eq (.var 8) (.con (.int 0)))) (.or (.and (.cmp .Eq (.var 1) (.con (.int 6))) (.cmp .Eq (.var 8) (.var 7))) (.and (.cmp .Eq (.var 1) (.con (.int 8))) (.chn .Lt .LtE (.var 8) (.var 3) (.var 6))))) b_law_shape_1b1b3t0 .nil) b_law_shape_1b1b4
def b_law_shape_1b1b2 : SL := .cons (.iff (.or (.and (.cmp .Eq (.var 1) (.con (.int 3))) (.val (.var 9))) (.or (.and (.cmp .Eq (.var 1) (.con (.int 4))) (.or (.val (.var 9)) (.val (.var 10)))) (.and (.cmp .Eq (.var 1) (.con (.int 10))) (.and (.not (.val (.var 9))) (.not (.val (.var 10))))))) b_law_shape_1b1b2t0 .nil) b_law_shape_1b1b3
def b_law_shape_1b1b1 : SL := .cons (.iff (.and (.cmp .Lt (.var 1) (.con (.int 3))) (.cmp .LtE (.cal "_law_draw" (.cons (.var 0) (.cons (.con (.int 4)) .nil))) (.var 1))) b_law_shape_1b1b1t0 .nil) b_law_shape_1b1b2
def b_law_shape_1b1b0 : SL := .cons (.par [9, 10] (.cons (.cmp .Eq (.var 8) (.bin .Sub (.var 6) (.con (.int 1)))) (.cons (.cmp .Eq (.tup (.cons (.var 8) (.cons (.var 6) .nil))) (.tup (.cons (.con (.int 0)) (.cons (.bin .Sub (.var 2) (.con (.int 1))) .nil)))) .nil))) b_law_shape_1b1b1
def b_law_shape_1b1 : SL := .cons (.for (.nam 8) (.rg1 (.var 6)) b_law_shape_1b1b0) .nil
def b_law_shape_1b0 : SL := .cons (.asg (.nam 7) (.cal "_law_draw" (.cons (.var 0) (.cons (.bif .max2 (.cons (.con (.int 1)) (.cons (.var 6) .nil))) .nil)))) b_law_shape_1b1
def b_law_shape_2 : SL := .cons (.ret (.var 5)) .nil
def b_law_shape_1 : SL := .cons (.for (.nam 6) (.rg1 (.var 2)) b_law_shape_1b0) b_law_shape_2
def b_law_shape : SL := .cons (.par [3, 4, 5] (.cons (.cal "_law_draw" (.cons (.var 0) (.cons (.bin .Add (.var 2) (.con (.int 1))) .nil))) (.cons (.bin .Add (.con (.int 2)) (.cal "_law_draw" (.cons (.var 0) (.cons (.con (.int 3)) .nil)))) (.cons (.mk true .nil) .nil)))) b_law_shape_1
/-- _law_web(deck, least, most): slots 0 deck, 1 least, 2 most, 3 many, 4 way, 5 turned, 6 pairs, 7 pair, 8 k, 9 i -/
def n_law_web : List Str := ["deck", "least", "most", "many", "way", "turned", "pairs", "pair", "k", "i"]
def c_law_web : List Str := ["_law_draw", "_law_pick", "_law_shape", "_law_turned", "_law_web_of"]
def b_law_web_2b2t0 : SL := .cons (.asg (.sub (.var 6) (.var 7)) (.con (.bl true))) .nil
def b_law_web_2b2 : SL := .cons (.iff (.cmp .Is (.mth .popD (.var 6) (.cons (.var 7) (.cons (.con .non) .nil))) (.con .non)) b_law_web_2b2t0 .nil) .nil
def b_law_web_2b1 : SL := .cons (.asg (.nam 7) (.bif .tuple (.cons (.bif .sorted (.cons (.mk false (.cons (.var 9) (.cons (.bin .Mod (.bif .int (.cons (.bin .Add (.bin .Add (.var 9) (.con (.int 1))) (.cal "_law_draw" (.cons (.var 0) (.cons (.bin .Sub (.var 3) (.con (.int 1))) .nil)))) .nil)) (.var 3)) .nil))) .nil)) .nil))) b_law_web_2b2
def b_law_web_2b0 : SL := .cons (.asg (.nam 9) (.cal "_law_draw" (.cons (.var 0) (.cons (.var 3) .nil)))) b_law_web_2b1
def b_law_web_3 : SL := .cons (.ret (.cal "_law_web_of" (.cons (.var 3) (.cons (.cmp1 false [8, 9] (.tup (.cons (.nam 9) (.cons (.nam 8) .nil))) (.of (.var 6)) .none (.tup (.cons (.idx (.var 5) (.var 9)) (.cons (.idx (.var 5) (.var 8)) .nil)))) .nil)))) .nil
def b_law_web_2 : SL := .cons (.for (.nam 8) (.rg1 (.ifx (.and (.cmp .Gt (.var 3) (.con (.int 1))) (.cmp .Eq (.cal "_law_draw" (.cons (.var 0) (.cons (.con (.int 3)) .nil))) (.con (.int 0)))) (.con (.int 2)) (.con (.int 0)))) b_law_web_2b0) b_law_web_3
def b_law_web_1 : SL := .cons (.asg (.tup (.cons (.nam 5) (.cons (.nam 6) .nil))) (.tup (.cons (.cal "_law_turned" (.cons (.var 0) (.cons (.lrg false (.var 3)) .nil))) (.cons (.dcp true true (.cmp1 false [7] (.nam 7) (.of (.cal "_law_shape" (.cons (.var 0) (.cons (.var 4) (.cons (.var 3) .nil))))) .none (.tup (.cons (.var 7) (.cons (.con (.bl true)) .nil))))) .nil)))) b_law_web_2
def b_law_web : SL := .cons (.par [3, 4] (.cons (.bin .Add (.var 1) (.cal "_law_draw" (.cons (.var 0) (.cons (.bin .Add (.bin .Sub (.var 2) (.var 1)) (.con (.int 1))) .nil)))) (.cons (.cal "_law_pick" (.cons (.var 0) (.cons (.mk false (.cons (.con (.int 0)) (.cons (.con (.int 1)) (.cons (.con (.int 2)) (.cons (.con (.int 3)) (.cons (.con (.int 4)) (.cons (.con (.int 4)) (.cons (.con (.int 5)) (.cons (.con (.int 6)) (.cons (.con (.int 7)) (.cons (.con (.int 8)) (.cons (.con (.int 9)) (.cons (.con (.int 9)) (.cons (.con (.int 10)) (.cons (.con (.int 1)) (.cons (.con (.int 4)) .nil)))))))))))))))) .nil))) .nil))) b_law_web_1
/-- _law_whole(thing): slots 0 thing -/
def n_law_whole : List Str := ["thing"]
def c_law_whole : List Str := []
def b_law_whole : SL := .cons (.ret (.cnd (.and (.val (.isi "int" (.var 0))) (.not (.val (.isi "bool" (.var 0))))))) .nil
/-- _law_are_places(many, thing): slots 0 many, 1 thing, 2 one -/
def n_law_are_places : List Str := ["many", "thing", "one"]
def c_law_are_places : List Str := ["_law_whole"]
def b_law_are_places_0t0 : SL := .cons (.ret (.con (.bl false))) .nil
def b_law_are_places_1 : SL := .cons (.ret (.cmp .Eq (.cmp1 false [2] (.nam 2) (.of (.var 1)) (.some (.or (.not (.chn .LtE .Lt (.con (.int 0)) (.var 2) (.var 0))) (.cmp .Gt (.mth .count (.var 1) (.cons (.var 2) .nil)) (.con (.int 1))))) (.var 2)) (.mk false .nil))) .nil
def b_law_are_places : SL := .cons (.iff (.or (.not (.val (.isi "tuple" (.var 1)))) (.cmp .NotEq (.cmp1 false [2] (.nam 2) (.of (.var 1)) (.some (.not (.val (.cal "_law_whole" (.cons (.var 2) .nil))))) (.var 2)) (.mk false .nil))) b_law_are_places_0t0 .nil) b_law_are_places_1
/-- _law_is_ring(web, thing): slots 0 web, 1 thing, 2 near, 3 k, 4 one, 5 beside, 6 other -/
def n_law_is_ring : List Str := ["web", "thing", "near", "k", "one", "beside", "other"]
def c_law_is_ring : List Str := ["_law_are_places", "_law_near"]
def b_law_is_ring_0t0 : SL := .cons (.ret (.con (.bl false))) .nil
def b_law_is_ring_2b1t0 : SL := .cons (.ret (.con (.bl false))) .nil
def b_law_is_ring_2b1 : SL := .cons (.iff (.cmp .NotEq (.bif .sorted (.cons (.cmp1 false [6] (.nam 6) (.of (.var 1)) (.some (.cmp .In (.var 6) (.idx (.var 2) (.var 4)))) (.var 6)) .nil)) (.bif .sorted (.cons (.var 5) .nil))) b_law_is_ring_2b1t0 .nil) .nil
def b_law_is_ring_2b0 : SL := .cons (.asg (.nam 5) (.mk false (.cons (.idx (.var 1) (.bin .Sub (.var 3) (.con (.int 1)))) (.cons (.idx (.var 1) (.bin .Mod (.bif .int (.cons (.bin .Add (.var 3) (.con (.int 1))) .nil)) (.bif .len (.cons (.var 1) .nil)))) .nil)))) b_law_is_ring_2b1
def b_law_is_ring_3 : SL := .cons (.ret (.con (.bl true))) .nil
def b_law_is_ring_2 : SL := .cons (.for (.tup (.cons (.nam 3) (.cons (.nam 4) .nil))) (.enu (.var 1)) b_law_is_ring_2b0) b_law_is_ring_3
def b_law_is_ring_1 : SL := .cons (.asg (.nam 2) (.cal "_law_near" (.cons (.var 0) .nil))) b_law_is_ring_2
def b_law_is_ring : SL := .cons (.iff (.or (.not (.val (.cal "_law_are_places" (.cons (.idx (.var 0) (.con (.int 0))) (.cons (.var 1) .nil))))) (.cmp .Lt (.bif .len (.cons (.var 1) .nil)) (.con (.int 4)))) b_law_is_ring_0t0 .nil) b_law_is_ring_1
/-- _law_shown_rings(web, rings): slots 0 web, 1 rings, 2 ring, 3 near, 4 k, 5 other, 6 place -/
def n_law_shown_rings : List Str := ["web", "rings", "ring", "near", "k", "other", "place"]
def c_law_shown_rings : List Str := ["_law_are_near", "_law_is_ring", "_law_near"]
def b_law_shown_rings_0t0 : SL := .cons (.ret (.con .non)) .nil
def b_law_shown_rings_2b0b0t0 : SL := .cons (.ret (.con .non)) .nil
def b_law_shown_rings_2b0b0 : SL := .cons (.iff (.not (.val (.cal "_law_are_near" (.cons (.var 3) (.cons (.cmp1 false [6] (.nam 6) (.of (.var 2)) (.some (.cmp .In (.var 6) (.var 5))) (.var 6)) .nil))))) b_law_shown_rings_2b0b0t0 .nil) .nil
def b_law_shown_rings_2b0 : SL := .cons (.for (.nam 5) (.of (.sl false (.var 1) .none (.some (.var 4)))) b_law_shown_rings_2b0b0) .nil
def b_law_shown_rings_3 : SL := .cons (.ret (.bif .sum (.cons (.cmp1 false [2] (.nam 2) (.of (.var 1)) .none (.bin .Sub (.bif .len (.cons (.var 2) .nil)) (.con (.int 3)))) .nil))) .nil
def b_law_shown_rings_2 : SL := .cons (.for (.tup (.cons (.nam 4) (.cons (.nam 2) .nil))) (.enu (.var 1)) b_law_shown_rings_2b0) b_law_shown_rings_3
def b_law_shown_rings_1 : SL := .cons (.asg (.nam 3) (.cal "_law_near" (.cons (.var 0) .nil))) b_law_shown_rings_2
def b_law_shown_rings : SL := .cons (.iff (.or (.not (.val (.isi "tuple" (.var 1)))) (.cmp .NotEq (.cmp1 false [2] (.nam 2) (.of (.var 1)) (.some (.not (.val (.cal "_law_is_ring" (.cons (.var 0) (.cons (.var 2) .nil)))))) (.var 2)) (.mk false .nil))) b_law_shown_rings_0t0 .nil) b_law_shown_rings_1
/-- _law_shown(web, thing): slots 0 web, 1 thing, 2 chords, 3 shown, 4 pair, 5 paper, 6 one -/
def n_law_shown : List Str := ["web", "thing", "chords", "shown", "pair", "paper", "one"]
def c_law_shown : List Str := ["_law_shown_rings"]
def b_law_shown_0t0 : SL := .cons (.ret (.con .non)) .nil
def b_law_shown_1t0 : SL := .cons (.ret (.cal "_law_shown_rings" (.cons (.var 0) (.cons (.idx (.var 1) (.con (.int 1))) .nil)))) .nil
def b_law_shown_1 : SL := .cons (.iff (.and (.cmp .Eq (.idx (.var 1) (.con (.int 0))) (.con (.str "rings"))) (.cmp .Eq (.bif .len (.cons (.var 1) .nil)) (.con (.int 2)))) b_law_shown_1t0 .nil) .nev
def b_law_shown : SL := .cons (.iff (.or (.not (.val (.isi "tuple" (.var 1)))) (.or (.cmp .Eq (.var 1) (.tup .nil)) (.not (.val (.isi "str" (.idx (.var 1) (.con (.int 0)))))))) b_law_shown_0t0 .nil) b_law_shown_1
/-- _law_rings_of(web): slots 0 web, 1 near, 2 found, 3 first, 4 paths, 5 k, 6 path, 7 one, 8 is_free -/
def n_law_rings_of : List Str := ["web", "near", "found", "first", "paths", "k", "path", "one", "is_free"]
def c_law_rings_of : List Str := ["_law_near"]
def b_law_rings_of_1b1b1b1t0 : SL := .cons (.ex (.mth .append (.var 4) (.cons (.bin .Add (.var 6) (.tup (.cons (.var 5) .nil))) .nil))) .nil
def b_law_rings_of_1b1b1b1e0t0 : SL := .cons (.ex (.mth .append (.var 2) (.cons (.bin .Add (.var 6) (.tup (.cons (.var 5) .nil))) .nil))) .nil
def b_law_rings_of_1b1b1b1e0 : SL := .cons (.iff (.and (.val (.var 8)) (.and (.cmp .Gt (.bif .len (.cons (.var 6) .nil)) (.con (.int 2))) (.cmp .Gt (.var 5) (.idx (.var 6) (.con (.int 1)))))) b_law_rings_of_1b1b1b1e0t0 .nil) .nil
def b_law_rings_of_1b1b1b1 : SL := .cons (.iff (.and (.val (.var 8)) (.cmp .NotIn (.var 5) (.idx (.var 1) (.var 3)))) b_law_rings_of_1b1b1b1t0 b_law_rings_of_1b1b1b1e0) .nil
def b_law_rings_of_1b1b1b0 : SL := .cons (.asg (.nam 8) (.cmp .Eq (.cmp1 false [7] (.nam 7) (.of (.sl false (.var 6) (.some (.con (.int 1))) (.some (.neg (.con (.int 1)))))) (.some (.cmp .In (.var 7) (.idx (.var 1) (.var 5)))) (.var 7)) (.mk false .nil))) b_law_rings_of_1b1b1b1
def b_law_rings_of_1b1b1 : SL := .cons (.for (.nam 5) (.of (.cmp1 false [7] (.nam 7) (.of (.bif .sorted (.cons (.idx (.var 1) (.idx (.var 6) (.neg (.con (.int 1))))) .nil))) (.some (.and (.cmp .Gt (.var 7) (.var 3)) (.cmp .NotIn (.var 7) (.var 6)))) (.var 7))) b_law_rings_of_1b1b1b0) .nil
def b_law_rings_of_1b1b0 : SL := .cons (.asg (.nam 6) (.mth .pop (.var 4) .nil)) b_law_rings_of_1b1b1
def b_law_rings_of_1b1 : SL := .cons (.whl (.cmp .NotEq (.var 4) (.mk false .nil)) b_law_rings_of_1b1b0) .nil
def b_law_rings_of_1b0 : SL := .cons (.asg (.nam 4) (.cmp1 true [5] (.nam 5) (.of (.bif .sorted (.cons (.idx (.var 1) (.var 3)) .nil))) (.some (.cmp .Gt (.var 5) (.var 3))) (.tup (.cons (.var 3) (.cons (.var 5) .nil))))) b_law_rings_of_1b1
def b_law_rings_of_2 : SL := .cons (.ret (.var 2)) .nil
def b_law_rings_of_1 : SL := .cons (.for (.nam 3) (.rg1 (.idx (.var 0) (.con (.int 0)))) b_law_rings_of_1b0) b_law_rings_of_2
def b_law_rings_of : SL := .cons (.asg (.tup (.cons (.nam 1) (.cons (.nam 2) .nil))) (.tup (.cons (.cal "_law_near" (.cons (.var 0) .nil)) (.cons (.mk true .nil) .nil)))) b_law_rings_of_1
/-- _law_about(deck, ring): slots 0 deck, 1 ring, 2 at -/
def n_law_about : List Str := ["deck", "ring", "at"]
def c_law_about : List Str := ["_law_draw", "_law_pick"]
def b_law_about_2 : SL := .cons (.ret (.cal "_law_pick" (.cons (.var 0) (.cons (.mk false (.cons (.var 1) (.cons (.sst false (.var 1) (-1)) .nil))) .nil)))) .nil
def b_law_about_1 : SL := .cons (.asg (.nam 1) (.bin .Add (.sl false (.var 1) (.some (.var 2)) .none) (.sl false (.var 1) .none (.some (.var 2))))) b_law_about_2
def b_law_about : SL := .cons (.asg (.nam 2) (.cal "_law_draw" (.cons (.var 0) (.cons (.bif .len (.cons (.var 1) .nil)) .nil)))) b_law_about_1
/-- _law_some_rings(deck, web, rings, most): slots 0 deck, 1 web, 2 rings, 3 most, 4 found, 5 ring, 6 near -/
def n_law_some_rings : List Str := ["deck", "web", "rings", "most", "found", "ring", "near"]
def c_law_some_rings : List Str := ["_law_about", "_law_shown_rings", "_law_turned"]
def b_law_some_rings_1b1 : SL := .cons (.asg (.nam 4) (.ifx (.and (.cmp .Lt (.bif .len (.cons (.var 4) .nil)) (.var 3)) (.cmp .IsNot (.cal "_law_shown_rings" (.cons (.var 1) (.cons (.var 6) .nil))) (.con .non))) (.var 6) (.var 4))) .nil
def b_law_some_rings_1b0 : SL := .cons (.asg (.nam 6) (.bin .Add (.var 4) (.tup (.cons (.cal "_law_about" (.cons (.var 0) (.cons (.var 5) .nil))) .nil)))) b_law_some_rings_1b1
def b_law_some_rings_2 : SL := .cons (.ret (.var 4)) .nil
def b_law_some_rings_1 : SL := .cons (.for (.nam 5) (.of (.cal "_law_turned" (.cons (.var 0) (.cons (.var 2) .nil)))) b_law_some_rings_1b0) b_law_some_rings_2
def b_law_some_rings : SL := .cons (.asg (.nam 4) (.tup .nil)) b_law_some_rings_1
/-- _law_glued(deck, most): slots 0 deck, 1 most, 2 pairs, 3 rings, 4 many, 5 turn, 6 long, 7 way, 8 old, 9 at, 10 shared, 11 ring, 12 k, 13 turned, 14 i -/
def n_law_glued : List Str := ["deck", "most", "pairs", "rings", "many", "turn", "long", "way", "old", "at", "shared", "ring", "k", "turned", "i"]
def c_law_glued : List Str := ["_law_draw", "_law_pick", "_law_turned", "_law_web_of"]
def b_law_glued_1b4t0 : SL := .cons .brk .nil
def b_law_glued_1b8 : SL := .cons (.ex (.mth .extend (.var 2) (.cons (.cmp1 false [12] (.nam 12) (.rg1 (.var 6)) .none (.tup (.cons (.idx (.var 11) (.bin .Sub (.var 12) (.con (.int 1)))) (.cons (.idx (.var 11) (.var 12)) .nil)))) .nil))) .nil
def b_law_glued_1b7 : SL := .cons (.ex (.mth .append (.var 3) (.cons (.var 11) .nil))) b_law_glued_1b8
def b_law_glued_1b6 : SL := .cons (.asg (.nam 4) (.bin .Sub (.bin .Add (.var 4) (.var 6)) (.bif .len (.cons (.var 10) .nil)))) b_law_glued_1b7
def b_law_glued_1b5 : SL := .cons (.asg (.nam 11) (.bin .Add (.var 10) (.trg (.var 4) (.bin .Sub (.bin .Add (.var 4) (.var 6)) (.bif .len (.cons (.var 10) .nil)))))) b_law_glued_1b6
def b_law_glued_1b4 : SL := .cons (.iff (.cmp .Gt (.bin .Sub (.bin .Add (.var 4) (.var 6)) (.bif .len (.cons (.var 10) .nil))) (.var 1)) b_law_glued_1b4t0 .nil) b_law_glued_1b5
def b_law_glued_1b3 : SL := .cons (.asg (.nam 10) (.ifx (.cmp .Eq (.var 7) (.con (.int 1))) (.tup (.cons (.idx (.var 8) (.var 9)) .nil)) (.ifx (.cmp .Eq (.var 7) (.con (.int 2))) (.tup (.cons (.idx (.var 8) (.bin .Sub (.var 9) (.con (.int 1)))) (.cons (.idx (.var 8) (.var 9)) .nil))) (.tup .nil)))) b_law_glued_1b4
def b_law_glued_1b2 : SL := .cons (.asg (.nam 9) (.ifx (.cmp .NotEq (.var 8) (.tup .nil)) (.cal "_law_draw" (.cons (.var 0) (.cons (.bif .len (.cons (.var 8) .nil)) .nil))) (.con (.int 0)))) b_law_glued_1b3
def b_law_glued_1b1 : SL := .cons (.asg (.nam 8) (.ifx (.cmp .NotEq (.var 3) (.mk false .nil)) (.cal "_law_pick" (.cons (.var 0) (.cons (.var 3) .nil))) (.tup .nil))) b_law_glued_1b2
def b_law_glued_1b0 : SL := .cons (.par [6, 7] (.cons (.bin .Add (.con (.int 4)) (.cal "_law_draw" (.cons (.var 0) (.cons (.cal "_law_pick" (.cons (.var 0) (.cons (.mk false (.cons (.con (.int 2)) (.cons (.con (.int 6)) .nil))) .nil))) .nil)))) (.cons (.ifx (.cmp .NotEq (.var 3) (.mk false .nil)) (.cal "_law_draw" (.cons (.var 0) (.cons (.con (.int 3)) .nil))) (.con (.int 0))) .nil))) b_law_glued_1b1
def b_law_glued_2b2 : SL := .cons (.asg (.nam 4) (.bin .Add (.var 4) (.con (.int 1)))) .nil
def b_law_glued_2b1 : SL := .cons (.ex (.mth .extend (.var 2) (.cons (.cmp1 false [12] (.nam 12) (.rg1 (.bin .Add (.con (.int 1)) (.cal "_law_draw" (.cons (.var 0) (.cons (.con (.int 2)) .nil))))) .none (.tup (.cons (.var 4) (.cons (.idx (.var 11) (.bin .Sub (.var 9) (.var 12))) .nil)))) .nil))) b_law_glued_2b2
def b_law_glued_2b0 : SL := .cons (.asg (.tup (.cons (.nam 9) (.cons (.nam 11) .nil))) (.tup (.cons (.cal "_law_draw" (.cons (.var 0) (.cons (.con (.int 4)) .nil))) (.cons (.cal "_law_pick" (.cons (.var 0) (.cons (.var 3) .nil))) .nil)))) b_law_glued_2b1
def b_law_glued_4 : SL := .cons (.ret (.tup (.cons (.cal "_law_web_of" (.cons (.var 4) (.cons (.cmp1 false [12, 14] (.tup (.cons (.nam 14) (.cons (.nam 12) .nil))) (.of (.var 2)) .none (.tup (.cons (.idx (.var 13) (.var 14)) (.cons (.idx (.var 13) (.var 12)) .nil)))) .nil))) (.cons (.cmp1 false [11] (.nam 11) (.of (.var 3)) .none (.bif .tuple (.cons (.cmp1 false [12] (.nam 12) (.of (.var 11)) .none (.idx (.var 13) (.var 12))) .nil))) .nil)))) .nil
def b_law_glued_3 : SL := .cons (.asg (.nam 13) (.cal "_law_turned" (.cons (.var 0) (.cons (.lrg false (.var 4)) .nil)))) b_law_glued_4
def b_law_glued_2 : SL := .cons (.for (.nam 5) (.rg1 (.bif .min2 (.cons (.bin .Sub (.var 1) (.var 4)) (.cons (.cal "_law_draw" (.cons (.var 0) (.cons (.con (.int 3)) .nil))) .nil)))) b_law_glued_2b0) b_law_glued_3
def b_law_glued_1 : SL := .cons (.for (.nam 5) (.rg1 (.bin .Add (.con (.int 1)) (.cal "_law_draw" (.cons (.var 0) (.cons (.con (.int 5)) .nil))))) b_law_glued_1b0) b_law_glued_2
def b_law_glued : SL := .cons (.asg (.tup (.cons (.nam 2) (.cons (.nam 3) (.cons (.nam 4) .nil)))) (.tup (.cons (.mk true .nil) (.cons (.mk true .nil) (.cons (.con (.int 0)) .nil))))) b_law_glued_1
/-- _law_deck(script): slots 0 script, 1 cells, 2 cell, 3 seed, 4 k -/
def n_law_deck : List Str := ["script", "cells", "cell", "seed", "k"]
def c_law_deck : List Str := []
def b_law_deck_2 : SL := .cons (.ret (.mk true (.cons (.sst true (.var 1) (-1)) (.cons (.var 3) (.cons (.con (.int 0)) .nil))))) .nil
def b_law_deck_1 : SL := .cons (.asg (.nam 3) (.bin .Add (.bin .Add (.bin .Mult (.con (.int 43)) (.bif .len (.cons (.var 1) .nil))) (.con (.int 64))) (.bif .sum (.cons (.cmp1 true [2, 4] (.tup (.cons (.nam 4) (.cons (.nam 2) .nil))) (.enu (.var 1)) .none (.bin .Mult (.bin .Mod (.bif .int (.cons (.var 2) .nil)) (.con (.int 1000003))) (.bin .Add (.var 4) (.con (.int 1))))) .nil)))) b_law_deck_2
def b_law_deck : SL := .cons (.asg (.nam 1) (.cmp1 true [2] (.nam 2) (.of (.sl true (.var 0) .none (.some (.con (.int 63))))) .none (.bif .int (.cons (.var 2) .nil)))) b_law_deck_1
/-- _law_ring_things(deck, web, rings): slots 0 deck, 1 web, 2 rings, 3 some, 4 ring, 5 few, 6 found, 7 one, 8 at -/
def n_law_ring_things : List Str := ["deck", "web", "rings", "some", "ring", "few", "found", "one", "at"]
def c_law_ring_things : List Str := ["_law_about", "_law_draw", "_law_pick", "_law_turned"]
def b_law_ring_things_6 : SL := .cons (.ret (.bin .Add (.var 6) (.mk false (.cons (.bin .Add (.bif .tuple (.cons (.var 5) .nil)) (.tup (.cons (.bin .Add (.bin .Add (.sl false (.var 7) .none (.some (.var 8))) (.tup (.cons (.cal "_law_draw" (.cons (.var 0) (.cons (.idx (.var 1) (.con (.int 0))) .nil))) .nil))) (.sl false (.var 7) (.some (.bin .Add (.var 8) (.con (.int 1)))) .none)) .nil))) (.cons (.bin .Add (.bif .tuple (.cons (.var 5) .nil)) (.tup (.cons (.bif .tuple (.cons (.cal "_law_turned" (.cons (.var 0) (.cons (.var 7) .nil))) .nil)) .nil))) .nil))))) .nil
def b_law_ring_things_5 : SL := .cons (.asg (.nam 8) (.cal "_law_draw" (.cons (.var 0) (.cons (.bin .Add (.bif .len (.cons (.var 7) .nil)) (.con (.int 1))) .nil)))) b_law_ring_things_6
def b_law_ring_things_4 : SL := .cons (.asg (.nam 6) (.bin .Add (.var 6) (.mk false (.cons (.bin .Add (.bif .tuple (.cons (.var 5) .nil)) (.tup (.cons (.bin .Add (.var 7) (.sl false (.var 7) .none (.some (.con (.int 1))))) .nil))) (.cons (.lof false (.var 3)) (.cons (.bin .Add (.bif .tuple (.cons (.var 5) .nil)) (.tup (.cons (.lof false (.var 7)) .nil))) (.cons (.bin .Add (.bif .tuple (.cons (.var 5) .nil)) (.tup (.cons (.sl false (.var 7) .none (.some (.con (.int 3)))) .nil))) (.cons (.bif .tuple (.cons (.sst false (.var 3) (-1)) .nil)) .nil)))))))) b_law_ring_things_5
def b_law_ring_things_3 : SL := .cons (.asg (.nam 6) (.mk false (.cons (.bif .tuple (.cons (.var 3) .nil)) (.cons (.bif .tuple (.cons (.var 5) .nil)) (.cons (.tup .nil) (.cons (.bif .tuple (.cons (.bin .Add (.bin .Add (.var 5) (.sl false (.var 3) .none (.some (.con (.int 1))))) (.sl false (.var 3) .none (.some (.con (.int 1))))) .nil)) (.cons (.bin .Add (.bif .tuple (.cons (.var 5) .nil)) (.tup (.cons (.sl false (.var 7) .none (.some (.neg (.con (.int 1))))) .nil))) (.cons (.bin .Add (.bif .tuple (.cons (.var 5) .nil)) (.tup (.cons (.sst false (.var 7) (2)) .nil))) .nil)))))))) b_law_ring_things_4
def b_law_ring_things_2 : SL := .cons (.asg (.nam 7) (.ifx (.cmp .NotEq (.var 3) (.mk false .nil)) (.cal "_law_pick" (.cons (.var 0) (.cons (.var 3) .nil))) (.tup .nil))) b_law_ring_things_3
def b_law_ring_things_1 : SL := .cons (.par [5, 6] (.cons (.sl false (.var 3) .none (.some (.cal "_law_draw" (.cons (.var 0) (.cons (.bin .Add (.bif .len (.cons (.var 3) .nil)) (.con (.int 1))) .nil))))) (.cons (.mk false .nil) .nil))) b_law_ring_things_2
def b_law_ring_things : SL := .cons (.asg (.nam 3) (.cmp1 false [4] (.nam 4) (.of (.cal "_law_turned" (.cons (.var 0) (.cons (.var 2) .nil)))) .none (.cal "_law_about" (.cons (.var 0) (.cons (.var 4) .nil))))) b_law_ring_things_1
/-- law(script): slots 0 script, 1 deck, 2 turn, 3 web, 4 rings, 5 other, 6 ring, 7 thing, 8 paper, 9 kept, 10 due -/
def n_law : List Str := ["script", "deck", "turn", "web", "rings", "other", "ring", "thing", "paper", "kept", "due"]
def c_law : List Str := ["_law_deck", "_law_glued", "_law_pick", "_law_ring_things", "_law_rings_of", "_law_shown", "_law_some_rings", "_law_web", "shown_by"]
def b_law_1b1t1 : SL := .cons (.asg (.nam 4) (.cal "_law_rings_of" (.cons (.var 3) .nil))) .nil
def b_law_1b1t0 : SL := .cons (.asg (.nam 3) (.cal "_law_web" (.cons (.var 1) (.cons (.con (.int 4)) (.cons (.con (.int 7)) .nil))))) b_law_1b1t1
def b_law_1b3t0 : SL := .cons (.ret (.con (.bl false))) .nil
def b_law_1b4b2t0 : SL := .cons (.ret (.con (.bl false))) .nil
def b_law_1b4b3t0 : SL := .cons (.ret (.con (.bl false))) .nil
def b_law_1b4b3 : SL := .cons (.iff (.cmp .NotEq (.bif .rpr (.cons (.tup (.cons (.var 3) (.cons (.var 8) .nil))) .nil)) (.var 9)) b_law_1b4b3t0 .nil) .nil
def b_law_1b4b2 : SL := .cons (.iff (.cmp .NotEq (.bif .rpr (.cons (.tup (.cons (.cal "shown_by" (.cons (.var 3) (.cons (.var 8) .nil))) (.cons (.cal "shown_by" (.cons (.var 5) (.cons (.var 8) .nil))) (.cons (.cal "shown_by" (.cons (.var 3) (.cons (.var 8) .nil))) .nil)))) .nil)) (.bif .rpr (.cons (.tup (.cons (.var 10) (.cons (.cal "_law_shown" (.cons (.var 5) (.cons (.var 8) .nil))) (.cons (.var 10) .nil)))) .nil))) b_law_1b4b2t0 .nil) b_law_1b4b3
def b_law_1b4b1 : SL := .cons (.par [9, 10] (.cons (.bif .rpr (.cons (.tup (.cons (.var 3) (.cons (.var 8) .nil))) .nil)) (.cons (.cal "_law_shown" (.cons (.var 3) (.cons (.var 8) .nil))) .nil))) b_law_1b4b2
def b_law_1b4b0 : SL := .cons (.asg (.nam 8) (.tup (.cons (.con (.str "rings")) (.cons (.var 7) .nil)))) b_law_1b4b1
def b_law_1b4 : SL := .cons (.for (.nam 7) (.of (.bin .Add (.cal "_law_ring_things" (.cons (.var 1) (.cons (.var 3) (.cons (.var 4) .nil)))) (.mk false (.cons (.cal "_law_some_rings" (.cons (.var 1) (.cons (.var 3) (.cons (.var 4) (.cons (.con (.int 9)) .nil))))) .nil)))) b_law_1b4b0) .nil
def b_law_1b3 : SL := .cons (.iff (.and (.cmp .Lt (.var 2) (.con (.int 2))) (.cmp .NotEq (.bif .rpr (.cons (.cal "shown_by" (.cons (.var 3) (.cons (.tup (.cons (.con (.str "rings")) (.cons (.bif .tuple (.cons (.var 4) .nil)) .nil))) .nil))) .nil)) (.bif .rpr (.cons (.bif .sum (.cons (.cmp1 false [6] (.nam 6) (.of (.var 4)) .none (.bin .Sub (.bif .len (.cons (.var 6) .nil)) (.con (.int 3)))) .nil)) .nil)))) b_law_1b3t0 .nil) b_law_1b4
def b_law_1b2 : SL := .cons (.asg (.nam 5) (.cal "_law_web" (.cons (.var 1) (.cons (.con (.int 4)) (.cons (.con (.int 9)) .nil))))) b_law_1b3
def b_law_1b1 : SL := .cons (.iff (.cmp .Gt (.var 2) (.con (.int 1))) b_law_1b1t0 .nil) b_law_1b2
def b_law_1b0 : SL := .cons (.asg (.tup (.cons (.nam 3) (.cons (.nam 4) .nil))) (.cal "_law_glued" (.cons (.var 1) (.cons (.cal "_law_pick" (.cons (.var 1) (.cons (.mk false (.cons (.con (.int 24)) (.cons (.con (.int 24)) (.cons (.con (.int 12)) .nil)))) .nil))) .nil)))) b_law_1b1
def b_law_2 : SL := .cons (.ret (.con (.bl true))) .nil
def b_law_1 : SL := .cons (.for (.nam 2) (.rg1 (.con (.int 4))) b_law_1b0) b_law_2
def b_law : SL := .cons (.asg (.nam 1) (.cal "_law_deck" (.cons (.var 0) .nil))) b_law_1

/-- which defs are called -/
def fnsB (l : List Str) (x : Str) : Bool := l.contains x
theorem m_is_whole : b_is_whole.mat (gmOf (tp 1) n_is_whole (fnsB c_is_whole) false) (defBody (tp 1)) = true := by decide +kernel
theorem m_neighbour_rows : b_neighbour_rows.mat (gmOf (tp 3) n_neighbour_rows (fnsB c_neighbour_rows) false) (defBody (tp 3)) = true := by decide +kernel
theorem m_are_places : b_are_places.mat (gmOf (tp 6) n_are_places (fnsB c_are_places) false) (defBody (tp 6)) = true := by decide +kernel
theorem m_is_ring : b_is_ring.mat (gmOf (tp 7) n_is_ring (fnsB c_is_ring) false) (defBody (tp 7)) = true := by decide +kernel
theorem m_unlike_pairs : b_unlike_pairs.mat (gmOf (tp 9) n_unlike_pairs (fnsB c_unlike_pairs) false) (defBody (tp 9)) = true := by decide +kernel
theorem m_are_apart : b_are_apart.mat (gmOf (tp 11) n_are_apart (fnsB c_are_apart) false) (defBody (tp 11)) = true := by decide +kernel
theorem m_shown_by_rings : b_shown_by_rings.mat (gmOf (tp 12) n_shown_by_rings (fnsB c_shown_by_rings) false) (defBody (tp 12)) = true := by decide +kernel
theorem m_shown_by : b_shown_by.mat (gmOf (tp 14) n_shown_by (fnsB c_shown_by) false) (defBody (tp 14)) = true := by decide +kernel
theorem m_law_draw : b_law_draw.mat (gmOf (tp 16) n_law_draw (fnsB c_law_draw) false) (defBody (tp 16)) = true := by decide +kernel
theorem m_law_pick : b_law_pick.mat (gmOf (tp 17) n_law_pick (fnsB c_law_pick) false) (defBody (tp 17)) = true := by decide +kernel
theorem m_law_turned : b_law_turned.mat (gmOf (tp 18) n_law_turned (fnsB c_law_turned) false) (defBody (tp 18)) = true := by decide +kernel
theorem m_law_web_of : b_law_web_of.mat (gmOf (tp 19) n_law_web_of (fnsB c_law_web_of) false) (defBody (tp 19)) = true := by decide +kernel
theorem m_law_near : b_law_near.mat (gmOf (tp 20) n_law_near (fnsB c_law_near) false) (defBody (tp 20)) = true := by decide +kernel
theorem m_law_are_near : b_law_are_near.mat (gmOf (tp 21) n_law_are_near (fnsB c_law_are_near) false) (defBody (tp 21)) = true := by decide +kernel
theorem m_law_shape : b_law_shape.mat (gmOf (tp 22) n_law_shape (fnsB c_law_shape) false) (defBody (tp 22)) = true := by decide +kernel
theorem m_law_web : b_law_web.mat (gmOf (tp 23) n_law_web (fnsB c_law_web) false) (defBody (tp 23)) = true := by decide +kernel
theorem m_law_whole : b_law_whole.mat (gmOf (tp 24) n_law_whole (fnsB c_law_whole) false) (defBody (tp 24)) = true := by decide +kernel
theorem m_law_are_places : b_law_are_places.mat (gmOf (tp 25) n_law_are_places (fnsB c_law_are_places) false) (defBody (tp 25)) = true := by decide +kernel
theorem m_law_is_ring : b_law_is_ring.mat (gmOf (tp 26) n_law_is_ring (fnsB c_law_is_ring) false) (defBody (tp 26)) = true := by decide +kernel
theorem m_law_shown_rings : b_law_shown_rings.mat (gmOf (tp 27) n_law_shown_rings (fnsB c_law_shown_rings) false) (defBody (tp 27)) = true := by decide +kernel
theorem m_law_shown : b_law_shown.mat (gmOf (tp 30) n_law_shown (fnsB c_law_shown) false) (defBody (tp 30)) = true := by decide +kernel
theorem m_law_rings_of : b_law_rings_of.mat (gmOf (tp 31) n_law_rings_of (fnsB c_law_rings_of) false) (defBody (tp 31)) = true := by decide +kernel
theorem m_law_about : b_law_about.mat (gmOf (tp 32) n_law_about (fnsB c_law_about) false) (defBody (tp 32)) = true := by decide +kernel
theorem m_law_some_rings : b_law_some_rings.mat (gmOf (tp 33) n_law_some_rings (fnsB c_law_some_rings) false) (defBody (tp 33)) = true := by decide +kernel
theorem m_law_glued : b_law_glued.mat (gmOf (tp 34) n_law_glued (fnsB c_law_glued) false) (defBody (tp 34)) = true := by decide +kernel
theorem m_law_deck : b_law_deck.mat (gmOf (tp 35) n_law_deck (fnsB c_law_deck) false) (defBody (tp 35)) = true := by decide +kernel
theorem m_law_ring_things : b_law_ring_things.mat (gmOf (tp 36) n_law_ring_things (fnsB c_law_ring_things) false) (defBody (tp 36)) = true := by decide +kernel
theorem m_law : b_law.mat (gmOf (tp 37) n_law (fnsB c_law) true) (defBody (tp 37)) = true := by decide +kernel
end FF

/-! What the defs promise: the leaves. -/
namespace FF
open PySem PySem.Spec PyProof.Rows L2
def isIntW : W → Bool
  | .int _ => true
  | _ => false
def isBlW : W → Bool
  | .bl _ => true
  | _ => false
def isTupW : W → Bool
  | .tup _ => true
  | _ => false
def isStrW : W → Bool
  | .str _ => true
  | _ => false
/-- a value that isinstance knows -/
def tyd (w : W) : Prop := (tyW w).isSome = true
theorem vw_tyd {w : W} (h : tyd w) (mu : Mu) : vw mu w = w := by cases w <;> first | rfl | (exact absurd h (by unfold tyd tyW; simp))
theorem isi_int {w : W} (h : tyd w) {mu : Mu} {P : QW} (p : P (.bl (isIntW w || isBlW w)) mu) : bifR (.isi "int") [w] mu P := by
  show ∃ a b, tyW (vw mu w) = some a ∧ kitB a "int" = some b ∧ P (.bl b) mu
  rw [vw_tyd h]
  cases w with
  | non => exact ⟨"NoneType", false, rfl, by decide +kernel, p⟩
  | bl _ => exact ⟨"bool", true, rfl, by decide +kernel, p⟩
  | int _ => exact ⟨"int", true, rfl, by decide +kernel, p⟩
  | str _ => exact ⟨"str", false, rfl, by decide +kernel, p⟩
  | tup _ => exact ⟨"tuple", false, rfl, by decide +kernel, p⟩
  | lst _ => exact ⟨"list", false, rfl, by decide +kernel, p⟩
  | dct _ _ => exact ⟨"dict", false, rfl, by decide +kernel, p⟩
  | scr _ => exact absurd h (by unfold tyd tyW; simp)
  | ref _ => exact absurd h (by unfold tyd tyW; simp)
theorem isi_bool {w : W} (h : tyd w) {mu : Mu} {P : QW} (p : P (.bl (isBlW w)) mu) : bifR (.isi "bool") [w] mu P := by
  show ∃ a b, tyW (vw mu w) = some a ∧ kitB a "bool" = some b ∧ P (.bl b) mu
  rw [vw_tyd h]
  cases w with
  | non => exact ⟨"NoneType", false, rfl, by decide +kernel, p⟩
  | bl _ => exact ⟨"bool", true, rfl, by decide +kernel, p⟩
  | int _ => exact ⟨"int", false, rfl, by decide +kernel, p⟩
  | str _ => exact ⟨"str", false, rfl, by decide +kernel, p⟩
  | tup _ => exact ⟨"tuple", false, rfl, by decide +kernel, p⟩
  | lst _ => exact ⟨"list", false, rfl, by decide +kernel, p⟩
  | dct _ _ => exact ⟨"dict", false, rfl, by decide +kernel, p⟩
  | scr _ => exact absurd h (by unfold tyd tyW; simp)
  | ref _ => exact absurd h (by unfold tyd tyW; simp)
theorem isi_tuple {w : W} (h : tyd w) {mu : Mu} {P : QW} (p : P (.bl (isTupW w)) mu) : bifR (.isi "tuple") [w] mu P := by
  show ∃ a b, tyW (vw mu w) = some a ∧ kitB a "tuple" = some b ∧ P (.bl b) mu
  rw [vw_tyd h]
  cases w with
  | non => exact ⟨"NoneType", false, rfl, by decide +kernel, p⟩
  | bl _ => exact ⟨"bool", false, rfl, by decide +kernel, p⟩
  | int _ => exact ⟨"int", false, rfl, by decide +kernel, p⟩
  | str _ => exact ⟨"str", false, rfl, by decide +kernel, p⟩
  | tup _ => exact ⟨"tuple", true, rfl, by decide +kernel, p⟩
  | lst _ => exact ⟨"list", false, rfl, by decide +kernel, p⟩
  | dct _ _ => exact ⟨"dict", false, rfl, by decide +kernel, p⟩
  | scr _ => exact absurd h (by unfold tyd tyW; simp)
  | ref _ => exact absurd h (by unfold tyd tyW; simp)
theorem isi_str {w : W} (h : tyd w) {mu : Mu} {P : QW} (p : P (.bl (isStrW w)) mu) : bifR (.isi "str") [w] mu P := by
  show ∃ a b, tyW (vw mu w) = some a ∧ kitB a "str" = some b ∧ P (.bl b) mu
  rw [vw_tyd h]
  cases w with
  | non => exact ⟨"NoneType", false, rfl, by decide +kernel, p⟩
  | bl _ => exact ⟨"bool", false, rfl, by decide +kernel, p⟩
  | int _ => exact ⟨"int", false, rfl, by decide +kernel, p⟩
  | str _ => exact ⟨"str", true, rfl, by decide +kernel, p⟩
  | tup _ => exact ⟨"tuple", false, rfl, by decide +kernel, p⟩
  | lst _ => exact ⟨"list", false, rfl, by decide +kernel, p⟩
  | dct _ _ => exact ⟨"dict", false, rfl, by decide +kernel, p⟩
  | scr _ => exact absurd h (by unfold tyd tyW; simp)
  | ref _ => exact absurd h (by unfold tyd tyW; simp)
theorem getS0 {w : W} {t : Tau} {Q : W → Prop} : getS (some w :: t) 0 Q = Q w := rfl
theorem getSs {x : Option W} {t : Tau} {n : Nat} {Q : W → Prop} : getS (x :: t) (n + 1) Q = getS t n Q := rfl
theorem tl2 {a b : T} : (TL.cons a (TL.cons b .nil)).len = 2 := rfl
/-! reading -/
theorem idx_tup {ws : List W} {i : Int} {w : W} {mu : Mu} {Q : QW} (e : atI ws i = some w) (h : Q w mu) : idxR (.tup ws) (.int i) mu Q := by
  show optQ (atI ws i) fun w => Q w mu
  rw [e]; exact h
theorem idx_lst {ws : List W} {i : Int} {w : W} {mu : Mu} {Q : QW} (e : atI ws i = some w) (h : Q w mu) : idxR (.lst ws) (.int i) mu Q := by
  show optQ (atI ws i) fun w => Q w mu
  rw [e]; exact h
theorem vw_lst {mu : Mu} {a : Addr} {ws : List W} (e : mu a = some (.lst ws)) : vw mu (.ref a) = .lst ws := by unfold vw; simp only [e]
theorem vw_dct {mu : Mu} {a : Addr} {t : Bool} {kvs : List (W × W)} (e : mu a = some (.dct t kvs)) : vw mu (.ref a) = .dct t kvs := by unfold vw; simp only [e]
theorem idx_ref {ws : List W} {a : Addr} {i : Int} {w : W} {mu : Mu} {Q : QW} (em : mu a = some (.lst ws)) (e : atI ws i = some w) (h : Q w mu) : idxR (.ref a) (.int i) mu Q := by
  unfold idxR
  rw [vw_lst em]
  show optQ (atI ws i) fun w => Q w mu
  rw [e]; exact h
theorem atI_nat {α : Type} {ws : List α} {i : Nat} {w : α} (e : ws[i]? = some w) : atI ws (i : Int) = some w := by
  have hi : i < ws.length := (List.getElem?_eq_some_iff.mp e).1
  unfold atI
  have h : ixN ws.length (i : Int) = some i := by
    unfold ixN
    first
      | (rw [if_neg (by omega), if_pos (by omega)]; simp)
      | (simp only [Int.toNat_natCast]; split <;> first | omega | rfl | simp_all)
  rw [h]; exact e
theorem newL_t {ws : List W} {mu : Mu} {Q : QW} (hz : ws.length ≤ sizeLine) (h : ∀ p, mu p = none → Q (.ref p) (sett mu p (.lst ws))) : newL true ws mu Q := ⟨hz, by rw [if_pos rfl]; exact h⟩
theorem newL_f {ws : List W} {mu : Mu} {Q : QW} (hz : ws.length ≤ sizeLine) (h : Q (.lst ws) mu) : newL false ws mu Q := ⟨hz, by rw [if_neg (by decide)]; exact h⟩
theorem sz1000 {n : Nat} (h : n ≤ 1000000) : n < sizeLine := by rw [sizeLine_eq]; omega
theorem rngW_get {lo : Int} {n i : Nat} {w : W} (h : (rngW lo n)[i]? = some w) : w = .int (lo + i) ∧ i < n := by
  unfold rngW at h
  rw [List.getElem?_map] at h
  by_cases hi : i < n
  · rw [List.getElem?_range hi] at h
    cases h; exact ⟨rfl, hi⟩
  · rw [List.getElem?_eq_none (by simpa using hi)] at h; cases h
theorem rngW_len (lo : Int) (n : Nat) : (rngW lo n).length = n := by unfold rngW; rw [List.length_map, List.length_range]
theorem sub_fresh {mu mu' : Mu} (s : Sub mu mu') {p : Addr} (h : mu' p = none) : mu p = none := (s p).elim (fun e => e.trans h) id
def sp_is_whole : SpW := fun ws mu Q => ∃ w, ws = [w] ∧ tyd w ∧ Q (.bl (isIntW w)) mu
theorem ok_is_whole (F : Fe) : ∀ ws mu Q, sp_is_whole ws mu Q → ws.length = 1 ∧ (b_is_whole).wp F (endR Q) (startW n_is_whole ws) mu := by
  rintro ws mu Q ⟨w, rfl, ht, hq⟩
  refine ⟨rfl, ?_⟩
  show (b_is_whole).wp F (endR Q) [some w] mu
  simp only [SL.wp, S.wp, E.wp, C.wp, EL.wp, CO.wp, EO.wp, T.wp, TL.wp, I.wp, getS0, getSs, Cn.w, List.set_cons_zero, List.set_cons_succ, wipeW, Bool.false_eq_true, if_false, if_true, tl2, b_is_whole]
  refine isi_int ht ?_
  cases w <;> simp only [isIntW, isBlW, Bool.or_false, Bool.or_true, Bool.false_eq_true, if_true, if_false] <;> first
    | exact isi_bool ht (ret_same hq)
    | exact ret_same hq
theorem ok_law_whole (F : Fe) : ∀ ws mu Q, sp_is_whole ws mu Q → ws.length = 1 ∧ (b_law_whole).wp F (endR Q) (startW n_law_whole ws) mu := ok_is_whole F
/-! neighbour_rows: the k of each (i, k), in their order -/
def cellsW (cs : List (Int × Int)) : W := .tup (cs.map pairW)
def webW (n : Nat) (cs : List (Int × Int)) : W := .tup [.int n, cellsW cs]
def inR2 (n : Nat) (cs : List (Int × Int)) : Prop := ∀ c ∈ cs, 0 ≤ c.1 ∧ c.1 < n ∧ 0 ≤ c.2 ∧ c.2 < n
def rowOf (cs : List (Int × Int)) (i : Nat) : List Int := (cs.filter fun c => c.1 == (i : Int)).map (·.2)
def rowsW (n : Nat) (cs : List (Int × Int)) : W := .lst ((List.range n).map fun i => W.tup ((rowOf cs i).map W.int))
def sp_neighbour_rows : SpW := fun ws mu Q => ∃ n cs, ws = [webW n cs] ∧ n ≤ 1000 ∧ inR2 n cs ∧ cs.length ≤ 100000 ∧ Q (rowsW n cs) mu
/-- owned lists of ints at these places -/
structure RowsAt (mu0 mu : Mu) (ps : List Addr) (row : Nat → List Int) : Prop where
  nd : ps.Nodup
  new : ∀ p ∈ ps, mu0 p = none
  at' : ∀ (i : Nat) p, ps[i]? = some p → mu p = some (.lst ((row i).map W.int))
theorem RowsAt.ne {mu0 mu : Mu} {ps : List Addr} {row : Nat → List Int} (h : RowsAt mu0 mu ps row) {q : Addr} (hq : mu q = none) : q ∉ ps := fun z => by
  obtain ⟨i, hi, e⟩ := List.mem_iff_getElem.mp z
  have := h.at' i q (by rw [List.getElem?_eq_getElem hi, e])
  rw [hq] at this; cases this
theorem RowsAt.set {mu0 mu : Mu} {ps : List Addr} {row : Nat → List Int} (h : RowsAt mu0 mu ps row) {q : Addr} {o : O} (hq : q ∉ ps) : RowsAt mu0 (sett mu q o) ps row :=
  ⟨h.nd, h.new, fun i p e => by rw [sett_ne (fun z => hq (by rw [← z]; exact List.mem_of_getElem? e))]; exact h.at' i p e⟩
theorem RowsAt.snoc {mu0 mu : Mu} {ps : List Addr} {row : Nat → List Int} (h : RowsAt mu0 mu ps row) {q : Addr} (hq : mu q = none) (h0 : mu0 q = none) (hr : row ps.length = []) : RowsAt mu0 (sett mu q (.lst [])) (ps ++ [q]) row := by
  have hn := h.ne hq
  refine ⟨List.nodup_append.mpr ⟨h.nd, by simp, fun a ha b hb => ?_⟩, fun p hp => ?_, fun i p e => ?_⟩
  · rw [List.mem_singleton] at hb
    exact fun z => hn (by rw [← hb, ← z]; exact ha)
  · rcases List.mem_append.mp hp with z | z
    · exact h.new p z
    · rw [List.mem_singleton.mp z]; exact h0
  · by_cases hi : i < ps.length
    · rw [List.getElem?_append_left hi] at e
      exact (h.set (o := .lst []) hn).at' i p e
    · have hlt := (List.getElem?_eq_some_iff.mp e).1
      rw [List.length_append, List.length_singleton] at hlt
      have ei : i = ps.length := by omega
      subst ei
      rw [List.getElem?_append_right (Nat.le_refl _), Nat.sub_self] at e
      cases e
      rw [hr]; exact sett_same
/-- one row is written -/
theorem RowsAt.upd {mu0 mu : Mu} {ps : List Addr} {row row' : Nat → List Int} (h : RowsAt mu0 mu ps row) {i : Nat} {p : Addr} (hp : ps[i]? = some p) (hr : ∀ j, j ≠ i → row' j = row j) : RowsAt mu0 (sett mu p (.lst ((row' i).map W.int))) ps row' := by
  refine ⟨h.nd, h.new, fun j q e => ?_⟩
  by_cases hj : j = i
  · subst hj
    rw [hp] at e; cases e
    exact sett_same
  · have hne : q ≠ p := fun z => hj (by
      subst z
      exact (List.getElem?_inj (List.getElem?_eq_some_iff.mp e).1 h.nd).mp (e.trans hp.symm))
    rw [sett_ne hne, hr j hj]
    exact h.at' j q e
theorem rowOf_snoc (cs : List (Int × Int)) (c : Int × Int) (j : Nat) : rowOf (cs ++ [c]) j = if c.1 = (j : Int) then rowOf cs j ++ [c.2] else rowOf cs j := by
  unfold rowOf
  rw [List.filter_append, List.map_append]
  by_cases h : c.1 = (j : Int)
  · rw [if_pos h]; simp [h]
  · rw [if_neg h]; simp [h]
theorem ok_neighbour_rows (F : Fe) : ∀ ws mu Q, sp_neighbour_rows ws mu Q → ws.length = 1 ∧ (b_neighbour_rows).wp F (endR Q) (startW n_neighbour_rows ws) mu := by
  rintro ws mu Q ⟨n, cs, rfl, hn, hr, hz, hq⟩
  refine ⟨rfl, ?_⟩
  show (b_neighbour_rows).wp F (endR Q) [some (webW n cs), none, none, none, none, none] mu
  simp only [SL.wp, S.wp, E.wp, C.wp, EL.wp, CO.wp, EO.wp, T.wp, TL.wp, I.wp, getS0, getSs, Cn.w, List.set_cons_zero, List.set_cons_succ, wipeW, Bool.false_eq_true, if_false, if_true, tl2, b_neighbour_rows]
  refine idx_tup (w := .int n) rfl ⟨n, rfl, by omega, fun p hp => ?_⟩
  have hlen : (rngW 0 (n : Int).toNat).length = n := by rw [rngW_len]; exact Int.toNat_natCast n
  refine compW_inv (fun i acc m => ∃ ps : List Addr, acc = ps.map W.ref ∧ ps.length = i ∧ p ∉ ps ∧ RowsAt mu m ps (fun _ => []) ∧ m p = some (.lst acc) ∧ Sub mu m) ?_ ?_ ?_ ?_
  · exact ⟨[], rfl, rfl, by simp, ⟨List.nodup_nil, fun _ h => absurd h (by simp), fun i p h => by simp at h⟩, sett_same, (Sub.refl mu).sett hp⟩
  · rintro i acc m _ ⟨ps, _, _, _, _, h, _⟩
    exact ⟨True.intro, h⟩
  · rintro i w acc m R hw ⟨ps, rfl, hl, hpn, hra, hm, hsub⟩ k
    have hi := (rngW_get hw).2
    rw [Int.toNat_natCast] at hi
    simp only [if_true]
    refine newL_t (ws := []) (Nat.zero_le _) fun q hq => ?_
    have hqp : q ≠ p := fun z => by rw [z, hm] at hq; cases hq
    have h0 : mu q = none := sub_fresh hsub hq
    refine ⟨by rw [sett_ne (Ne.symm hqp)]; exact hm, sz1000 (by rw [List.length_map]; omega), k _ _ ⟨ps ++ [q], by rw [List.map_append]; rfl, by rw [List.length_append, hl]; rfl, ?_, ?_, sett_same, (hsub.sett h0).sett hp⟩⟩
    · intro z
      rcases List.mem_append.mp z with z | z
      · exact hpn z
      · exact hqp (List.mem_singleton.mp z).symm
    · refine (hra.snoc hq h0 rfl).set fun z => ?_
      rcases List.mem_append.mp z with z | z
      · exact hpn z
      · exact hqp (List.mem_singleton.mp z).symm
  · rintro acc m ⟨ps, rfl, hl, hpn, hra, hm, hsub⟩
    rw [hlen] at hl
    have hra0 : RowsAt mu (dell m p) ps (rowOf []) := ⟨hra.nd, hra.new, fun i q e => by
      have : q ≠ p := fun z => hpn (by rw [← z]; exact List.mem_of_getElem? e)
      unfold dell
      rw [if_neg this]
      exact hra.at' i q e⟩
    have hsub0 : Sub mu (dell m p) := hsub.dell hp
    generalize dell m p = m0 at hra0 hsub0
    simp only [SL.wp, S.wp, E.wp, C.wp, EL.wp, CO.wp, EO.wp, T.wp, TL.wp, I.wp, getS0, getSs, Cn.w, List.set_cons_zero, List.set_cons_succ, wipeW, Bool.false_eq_true, if_false, if_true, tl2, b_neighbour_rows_1]
    refine idx_tup (w := cellsW cs) rfl ?_
    show forW _ _ .free _ (cs.map pairW) _ m0
    refine forW_inv (fun i t m => ∃ x y, t = [some (webW n cs), some (W.lst (ps.map W.ref)), none, x, y, none] ∧ RowsAt mu m ps (rowOf (cs.take i)) ∧ Sub mu m) ⟨none, none, rfl, hra0, hsub0⟩ (fun _ _ _ _ _ => True.intro) ?_ ?_
    · rintro i w t m R hw ⟨x, y, rfl, h1, h2⟩ k
      rw [List.getElem?_map] at hw
      cases ec : cs[i]? with
      | none => rw [ec] at hw; cases hw
      | some c =>
        rw [ec] at hw; cases hw
        obtain ⟨c1, c2⟩ := c
        obtain ⟨b1, b2, b3, b4⟩ := hr (c1, c2) (List.mem_of_getElem? ec)
        obtain ⟨j, rfl⟩ : ∃ j : Nat, c1 = (j : Int) := ⟨c1.toNat, by simp only at b1; omega⟩
        have hj : j < ps.length := by simp only at b2; omega
        refine ⟨rfl, ?_⟩
        simp only [SL.wp, S.wp, E.wp, C.wp, EL.wp, CO.wp, EO.wp, T.wp, TL.wp, I.wp, getS0, getSs, Cn.w, List.set_cons_zero, List.set_cons_succ, wipeW, Bool.false_eq_true, if_false, if_true, tl2, b_neighbour_rows_1b0]
        have hp2 : ps[j]? = some ps[j] := List.getElem?_eq_getElem hj
        have hat := h1.at' j _ hp2
        refine idx_lst (w := .ref ps[j]) (atI_nat (by rw [List.getElem?_map, hp2]; rfl)) ⟨by rw [vw_lst hat]; rfl, ?_⟩
        refine ⟨_, hat, sz1000 ?_, k _ _ ⟨_, _, rfl, ?_, h2.sett (h1.new _ (List.getElem_mem hj))⟩⟩
        · rw [List.length_map]
          unfold rowOf
          rw [List.length_map]
          refine Nat.le_trans (List.length_filter_le _ _) ?_
          rw [List.length_take]; omega
        · have e1 : rowOf (cs.take (i + 1)) = fun (j' : Nat) => if (j : Int) = (j' : Int) then rowOf (cs.take i) j' ++ [c2] else rowOf (cs.take i) j' := by
            funext j'
            rw [List.take_add_one, ec]
            exact rowOf_snoc _ _ _
          have e2 : (rowOf (cs.take i) j).map W.int ++ [W.int c2] = ((rowOf (cs.take (i + 1)) j).map W.int) := by
            rw [e1]
            dsimp only
            rw [if_pos rfl, List.map_append]; rfl
          show RowsAt mu (sett m ps[j] (.lst ((rowOf (cs.take i) j).map W.int ++ [W.int c2]))) ps _
          rw [e2]
          refine h1.upd hp2 fun j' hne => ?_
          rw [e1]
          exact if_neg (by omega)
    · rintro t m ⟨x, y, rfl, h1, h2⟩
      rw [List.length_map, List.take_length] at h1
      simp only [SL.wp, S.wp, E.wp, C.wp, EL.wp, CO.wp, EO.wp, T.wp, TL.wp, I.wp, getS0, getSs, Cn.w, List.set_cons_zero, List.set_cons_succ, wipeW, Bool.false_eq_true, if_false, if_true, tl2, b_neighbour_rows_2]
      show ∀ p, m p = none → _
      intro p2 hp2
      have hne : p2 ∉ ps := h1.ne hp2
      refine compW_inv (fun i acc m' => acc = (List.range i).map (fun j => W.tup ((rowOf cs j).map W.int)) ∧ m' = sett m p2 (.lst acc)) ⟨rfl, rfl⟩ (fun i acc m' _ ⟨_, h⟩ => ⟨True.intro, by rw [h]; exact sett_same⟩) ?_ ?_
      · rintro i w acc m' R hw ⟨h3, h4⟩ k
        rw [List.getElem?_map] at hw
        cases ec : ps[i]? with
        | none => rw [ec] at hw; cases hw
        | some q =>
          rw [ec] at hw; cases hw
          have hi : i < ps.length := (List.getElem?_eq_some_iff.mp ec).1
          have hq : q ≠ p2 := fun z => hne (by rw [← z]; exact List.mem_of_getElem? ec)
          have hat : m' q = some (.lst ((rowOf cs i).map W.int)) := by rw [h4, sett_ne hq]; exact h1.at' i q ec
          show optQ ((itemsOf m' (.ref q)).map W.tup) _
          unfold itemsOf
          rw [vw_lst hat]
          refine ⟨by rw [h4]; exact sett_same, sz1000 (by rw [h3, List.length_map, List.length_range]; omega), k _ _ ⟨?_, ?_⟩⟩
          · rw [h3, List.range_succ, List.map_append]; rfl
          · rw [h4, sett_sett]
      · rintro acc m' ⟨h3, h4⟩
        rw [List.length_map, hl] at h3
        refine ret_go ?_ (show Q (.lst acc) mu by rw [h3]; exact hq)
        rw [h4, dell_sett hp2]
        exact h2
end FF

/-! Rings by the program and by the law's own hand. -/
namespace FF
open PySem PySem.Spec PyProof.Rows L2
section
variable {i j : Int} {mu : Mu} {Q : QW}
theorem lt_ii : cmpR .Lt (.int i) (.int j) mu Q = Q (.bl (decide (i < j))) mu := rfl
theorem le_ii : cmpR .LtE (.int i) (.int j) mu Q = Q (.bl (decide (i ≤ j))) mu := rfl
theorem gt_ii : cmpR .Gt (.int i) (.int j) mu Q = Q (.bl (decide (j < i))) mu := rfl
theorem ge_ii : cmpR .GtE (.int i) (.int j) mu Q = Q (.bl (decide (j ≤ i))) mu := rfl
theorem eq_ii : cmpR .Eq (.int i) (.int j) mu Q = Q (.bl (decide (i = j))) mu := rfl
theorem ne_ii : cmpR .NotEq (.int i) (.int j) mu Q = Q (.bl (!(decide (i = j)))) mu := rfl
theorem eq_ss {x y : Str} : cmpR .Eq (.str x) (.str y) mu Q = Q (.bl (decide (x = y))) mu := rfl
theorem int_i : bifR .int [.int i] mu Q = Q (.int i) mu := rfl
theorem ne_bb {i j : Bool} : cmpR .NotEq (.bl i) (.bl j) mu Q = Q (.bl (!(decide (i = j)))) mu := rfl
theorem eq_bb {i j : Bool} : cmpR .Eq (.bl i) (.bl j) mu Q = Q (.bl (decide (i = j))) mu := rfl
theorem add_ii : binR .Add (.int i) (.int j) mu Q = Q (.int (i + j)) mu := rfl
theorem sub_ii : binR .Sub (.int i) (.int j) mu Q = Q (.int (i - j)) mu := rfl
theorem mod_ii : binR .Mod (.int i) (.int j) mu Q = (j ≠ 0 ∧ Q (.int (i.fmod j)) mu) := rfl
theorem add_tt {xs ys : List W} : binR .Add (.tup xs) (.tup ys) mu Q = (xs.length + ys.length ≤ sizeLine ∧ Q (.tup (xs ++ ys)) mu) := rfl
theorem add_ll {xs ys : List W} : binR .Add (.lst xs) (.lst ys) mu Q = (xs.length + ys.length ≤ sizeLine ∧ Q (.lst (xs ++ ys)) mu) := rfl
theorem optQ_s {w : W} {Q : W → Prop} : optQ (some w) Q = Q w := rfl
end
theorem toDs_ints : ∀ l : List Int, toDs (l.map W.int) = some (l.map PyData.int)
  | [] => by simp only [List.map_nil, toDs]
  | i :: l => by simp only [List.map_cons, toDs, toD, toDs_ints l]
theorem can_ints : ∀ l : List Int, PyData.canLayAll0 (l.map PyData.int) = true
  | [] => by simp only [List.map_nil, PyData.canLayAll0]
  | i :: l => by simp only [List.map_cons, PyData.canLayAll0, PyData.canLay0, can_ints l, Bool.and_self]
theorem dep_ints : ∀ l : List Int, PyData.depthAll (l.map PyData.int) = 0
  | [] => by simp only [List.map_nil, PyData.depthAll]
  | i :: l => by simp only [List.map_cons, PyData.depthAll, PyData.depth, dep_ints l, Nat.max_self]
theorem shaped_of {d : PyData} (h : d.canLay0 = true) (k : d.depth ≤ 64) : SeqAt.shaped d = true := by unfold SeqAt.shaped; rw [h, decide_eq_true k]; rfl
theorem shaped_ints (l : List Int) : SeqAt.shaped (.list (l.map PyData.int)) = true := shaped_of (by simp only [PyData.canLay0, can_ints]) (by simp only [PyData.depth, dep_ints]; omega)
theorem shaped_intsT (l : List Int) : SeqAt.shaped (.tuple (l.map PyData.int)) = true := shaped_of (by simp only [PyData.canLay0, can_ints]) (by simp only [PyData.depth, dep_ints]; omega)
theorem shaped_int (i : Int) : SeqAt.shaped (.int i) = true := shaped_of (by simp only [PyData.canLay0]) (by simp only [PyData.depth]; omega)
theorem any_ints (i : Int) : ∀ l : List Int, (l.map PyData.int).any (fun z => PyData.eqv z (.int i)) = decide (i ∈ l)
  | [] => by simp
  | j :: l => by
    simp only [List.map_cons, List.any_cons, any_ints i l, PyData.eqv, List.mem_cons]
    by_cases h : j = i
    · subst h; simp
    · have h2 : i ≠ j := Ne.symm h
      simp [h, h2]
theorem in_ints_t {i : Int} {l : List Int} {Q : Bool → Prop} (h : Q (decide (i ∈ l))) : inR (.int i) (.tup (l.map W.int)) Q :=
  ⟨.int i, l.map PyData.int, by simp only [toD], toDs_ints l, shaped_int i, shaped_ints l, by rw [any_ints]; exact h⟩
theorem in_ints_l {i : Int} {l : List Int} {Q : Bool → Prop} (h : Q (decide (i ∈ l))) : inR (.int i) (.lst (l.map W.int)) Q :=
  ⟨.int i, l.map PyData.int, by simp only [toD], toDs_ints l, shaped_int i, shaped_ints l, by rw [any_ints]; exact h⟩
theorem eqv_ints : ∀ l m : List Int, PyData.eqvAll (l.map PyData.int) (m.map PyData.int) = decide (l = m)
  | [], [] => by simp [PyData.eqvAll]
  | [], _ :: _ => by simp [PyData.eqvAll]
  | _ :: _, [] => by simp [PyData.eqvAll]
  | i :: l, j :: m => by
    simp only [List.map_cons, PyData.eqvAll, PyData.eqv, eqv_ints l m, List.cons.injEq]
    by_cases h : i = j <;> by_cases h2 : l = m <;> simp [h, h2]
theorem eq_ints {l m : List Int} {Q : Bool → Prop} (h : Q (decide (l = m))) : eqR (.lst (l.map W.int)) (.lst (m.map W.int)) Q :=
  ⟨.list (l.map PyData.int), .list (m.map PyData.int), by simp only [toD, toDs_ints, Option.map_some], by simp only [toD, toDs_ints, Option.map_some], shaped_ints l, shaped_ints m, by simp only [PyData.eqv, eqv_ints]; exact h⟩
theorem eq_nilI {l : List Int} {Q : Bool → Prop} (h : Q (decide (l = []))) : eqR (.lst (l.map W.int)) (.lst []) Q := eq_ints (m := []) h
theorem cin_t {i : Int} {l : List Int} {mu : Mu} {Q : QW} (h : Q (.bl (decide (i ∈ l))) mu) : cmpR .In (.int i) (.tup (l.map W.int)) mu Q := in_ints_t (Q := fun b => Q (.bl b) mu) h
/-! things that are shown as rings -/
abbrev Rt := Bool × List Int
def rtW : Rt → W
  | (true, l) => .tup (l.map W.int)
  | (false, l) => .lst (l.map W.int)
def thW : Bool × List Rt → W
  | (true, l) => .tup (l.map rtW)
  | (false, l) => .lst (l.map rtW)
def PlacesP (n : Nat) (r : Rt) : Prop := r.1 = true ∧ (∀ x ∈ r.2, 0 ≤ x ∧ x < n) ∧ r.2.Nodup
structure Web (n : Nat) (cs : List (Int × Int)) : Prop where
  le : n ≤ 32
  len : cs.length ≤ 100000
  ran : inR2 n cs
  sym : ∀ c ∈ cs, (c.2, c.1) ∈ cs
  irr : ∀ c ∈ cs, c.1 ≠ c.2
def RingP (n : Nat) (cs : List (Int × Int)) (r : Rt) : Prop :=
  PlacesP n r ∧ 4 ≤ r.2.length ∧ ∀ i j x y, i < j → r.2[i]? = some x → r.2[j]? = some y → ((x, y) ∈ cs ↔ (j = i + 1 ∨ (i = 0 ∧ j + 1 = r.2.length)))
def ApartP (cs : List (Int × Int)) (a b : Rt) : Prop := ∀ x ∈ a.2, ∀ y ∈ a.2, x ∈ b.2 → y ∈ b.2 → x ≠ y → (x, y) ∈ cs
def ShownP (n : Nat) (cs : List (Int × Int)) (T : Bool × List Rt) : Prop := T.1 = true ∧ (∀ r ∈ T.2, RingP n cs r) ∧ T.2.Pairwise (ApartP cs)
def fillsOf (T : List Rt) : Int := (T.map fun r => (r.2.length : Int) - 3).sum
open Classical in
noncomputable def shownV (n : Nat) (cs : List (Int × Int)) (T : Bool × List Rt) : W := if ShownP n cs T then .int (fillsOf T.2) else .non
theorem tyd_rt (r : Rt) : tyd (rtW r) := by obtain ⟨b, l⟩ := r; cases b <;> rfl
theorem tup_rt (r : Rt) : isTupW (rtW r) = r.1 := by obtain ⟨b, l⟩ := r; cases b <;> rfl
theorem tyd_th (r : Bool × List Rt) : tyd (thW r) := by obtain ⟨b, l⟩ := r; cases b <;> rfl
theorem tup_th (r : Bool × List Rt) : isTupW (thW r) = r.1 := by obtain ⟨b, l⟩ := r; cases b <;> rfl
theorem take_ints {l : List Int} {w : W} (h : w ∈ l.map W.int) : ∃ i, w = .int i ∧ i ∈ l := by
  obtain ⟨i, hi, e⟩ := List.mem_map.mp h
  exact ⟨i, e.symm, hi⟩
def sp_are_places : SpW := fun ws mu Q => ∃ (n : Nat) (r : Rt), ws = [.int n, rtW r] ∧ r.2.length < 4000 ∧ ∀ b, (b = true ↔ PlacesP n r) → Q (.bl b) mu
theorem dedup (l : List Int) : ∃ ds : List Int, ds.Nodup ∧ (∀ k, k ∈ ds ↔ k ∈ l) ∧ ds.length ≤ l.length ∧ (ds.length = l.length ↔ l.Nodup) := by
  induction l with
  | nil => exact ⟨[], List.nodup_nil, fun _ => Iff.rfl, Nat.le_refl _, by simp⟩
  | cons i l ih =>
    obtain ⟨ds, h1, h2, h3, h4⟩ := ih
    by_cases hi : i ∈ l
    · refine ⟨ds, h1, fun k => ?_, by rw [List.length_cons]; omega, ?_⟩
      · rw [h2, List.mem_cons]
        exact ⟨.inr, fun z => z.elim (fun e => by rw [e]; exact hi) id⟩
      · rw [List.length_cons, List.nodup_cons]
        constructor
        · intro z; omega
        · intro z; exact absurd hi z.1
    · refine ⟨i :: ds, List.nodup_cons.mpr ⟨fun z => hi ((h2 i).mp z), h1⟩, fun k => by rw [List.mem_cons, List.mem_cons, h2], by rw [List.length_cons, List.length_cons]; omega, ?_⟩
      rw [List.length_cons, List.length_cons, List.nodup_cons, ← h4]
      constructor
      · intro z; exact ⟨hi, by omega⟩
      · intro z; rw [z.2]
/-- a comprehension whose parts change nothing: f of each that passes c -/
theorem comp_p {bind : W → Tau → Mu → (Tau → Mu → Prop) → Prop} {cd : Tau → Mu → (Bool → Mu → Prop) → Prop} {el : Tau → Mu → QW → Prop} {ss : List Nat} {t : Tau} {p : Addr} {K : List W → Mu → Prop} {ws : List W} {mu : Mu} (hp : mu p = none) (c : W → Bool) (f : W → W) (hz : ws.length ≤ sizeLine) (src : Src) (hsrc : stays src mu)
    (step : ∀ w m (G : QW) (N : Mu → Prop), w ∈ ws → (∃ acc, m = sett mu p (.lst acc)) → (c w = true → G (f w) m) → (c w = false → N m) → bind w (wipeW t ss) m fun t2 mu2 => cd t2 mu2 fun b mu3 => if b = true then el t2 mu3 G else N mu3)
    (hend : K ((ws.filter c).map f) (sett mu p (.lst ((ws.filter c).map f)))) : compW bind cd el ss src t p K ws [] (sett mu p (.lst [])) := by
  refine compW_inv (fun i acc m => acc = ((ws.take i).filter c).map f ∧ m = sett mu p (.lst acc)) ⟨rfl, rfl⟩ (fun i acc m _ ⟨_, h⟩ => ?_) (fun i w acc m R hw ⟨h1, h2⟩ k => ?_) fun acc m ⟨h1, h2⟩ => ?_
  · subst h
    refine ⟨?_, sett_same⟩
    cases src with
    | free => exact True.intro
    | own a zs =>
      have e : a ≠ p := fun z => by
        have q : mu a = some (.lst zs) := hsrc
        rw [z, hp] at q; cases q
      show sett mu p _ a = _
      rw [sett_ne e]; exact hsrc
  · have hi : i < ws.length := (List.getElem?_eq_some_iff.mp hw).1
    have e : (ws.take (i + 1)).filter c = (ws.take i).filter c ++ (if c w = true then [w] else []) := by
      rw [List.take_add_one, hw, List.filter_append]
      by_cases hc : c w = true
      · rw [if_pos hc]; simp [hc]
      · rw [if_neg hc]; simp [hc]
    have hl : acc.length < sizeLine := by
      rw [h1, List.length_map]
      have := List.length_filter_le c (ws.take i)
      rw [List.length_take] at this
      omega
    refine step w m _ _ (List.mem_of_getElem? hw) ⟨acc, h2⟩ (fun hc => ⟨by rw [h2]; exact sett_same, hl, k _ _ ⟨by rw [e, if_pos hc, h1, List.map_append]; rfl, by rw [h2, sett_sett]⟩⟩) fun hc => k _ _ ⟨by rw [e, if_neg (by rw [hc]; exact Bool.false_ne_true), h1, List.append_nil], h2⟩
  · rw [List.take_length] at h1
    subst h1
    rw [h2]
    exact hend
/-- nothing is left out -/
theorem comp_m {bind : W → Tau → Mu → (Tau → Mu → Prop) → Prop} {el : Tau → Mu → QW → Prop} {ss : List Nat} {t : Tau} {p : Addr} {K : List W → Mu → Prop} {ws : List W} {mu : Mu} (hp : mu p = none) (f : W → W) (hz : ws.length ≤ sizeLine) (src : Src) (hsrc : stays src mu)
    (step : ∀ w m (G : QW), w ∈ ws → (∃ acc, m = sett mu p (.lst acc)) → G (f w) m → bind w (wipeW t ss) m fun t2 mu2 => el t2 mu2 G)
    (hend : K (ws.map f) (sett mu p (.lst (ws.map f)))) : compW bind (fun _ m k => k true m) el ss src t p K ws [] (sett mu p (.lst [])) := by
  refine comp_p hp (fun _ => true) f hz src hsrc (fun w m G N hw hm h1 h2 => ?_) ?_
  · simp only [if_true]
    exact step w m G hw hm (h1 rfl)
  · rw [List.filter_eq_self.mpr (fun _ _ => rfl)]; exact hend
def intV : W → Int
  | .int i => i
  | _ => 0
theorem ok_are_places (F : Fe) (hF : F.fn "is_whole" = sp_is_whole) : ∀ ws mu Q, sp_are_places ws mu Q → ws.length = 2 ∧ (b_are_places).wp F (endR Q) (startW n_are_places ws) mu := by
  rintro ws mu Q ⟨n, r, rfl, hz, hq⟩
  refine ⟨rfl, ?_⟩
  show (b_are_places).wp F (endR Q) [some (.int n), some (rtW r), none] mu
  simp only [SL.wp, S.wp, E.wp, C.wp, EL.wp, CO.wp, EO.wp, T.wp, TL.wp, I.wp, getS0, getSs, Cn.w, List.set_cons_zero, List.set_cons_succ, wipeW, Bool.false_eq_true, if_false, if_true, tl2, lt_ii, le_ii, gt_ii, ge_ii, eq_ii, eq_ss, int_i, ne_ii, ne_bb, eq_bb, add_ii, sub_ii, mod_ii, add_tt, add_ll, optQ_s, decide_eq_true_eq, Bool.not_eq_true', decide_eq_false_iff_not, Bool.not_true, Bool.not_false, Bool.true_eq_false, not_true_eq_false, not_false_eq_true, b_are_places, hF]
  refine isi_tuple (tyd_rt r) ?_
  rw [tup_rt]
  obtain ⟨b, l⟩ := r
  cases b with
  | false => exact ret_same (hq false ⟨fun z => Bool.noConfusion z, fun z => Bool.noConfusion z.1⟩)
  | true =>
    show ∀ p, mu p = none → _
    intro p hp
    refine comp_m hp (fun w => .bl (decide (0 ≤ intV w) && decide (intV w < n))) ?_ .free True.intro ?_ ?_
    · rw [List.length_map]; exact Nat.le_of_lt (sz1000 (by simp only at hz; omega))
    · intro w m G hw _ k
      obtain ⟨i, rfl, hi⟩ := take_ints hw
      refine ⟨_, rfl, rfl, ?_⟩
      simp only [SL.wp, S.wp, E.wp, C.wp, EL.wp, CO.wp, EO.wp, T.wp, TL.wp, I.wp, getS0, getSs, Cn.w, List.set_cons_zero, List.set_cons_succ, wipeW, Bool.false_eq_true, if_false, if_true, tl2, lt_ii, le_ii, gt_ii, ge_ii, eq_ii, eq_ss, int_i, ne_ii, ne_bb, eq_bb, add_ii, sub_ii, mod_ii, add_tt, add_ll, optQ_s, decide_eq_true_eq, Bool.not_eq_true', decide_eq_false_iff_not, Bool.not_true, Bool.not_false, Bool.true_eq_false, not_true_eq_false, not_false_eq_true, isIntW]
      refine ⟨_, rfl, ?_⟩
      by_cases h0 : (0 : Int) ≤ i
      · rw [if_pos (decide_eq_true h0)]
        have k' : G (.bl (decide (0 ≤ i) && decide (i < n))) m := k
        rw [decide_eq_true h0, Bool.true_and] at k'
        exact k'
      · have k' : G (.bl (decide (0 ≤ i) && decide (i < n))) m := k
        rw [decide_eq_false h0, Bool.false_and] at k'
        rw [if_neg (by rw [decide_eq_false h0]; exact Bool.false_ne_true)]
        exact k'
    · rw [dell_sett hp, List.map_map]
      refine ⟨_, l.map (fun i => decide (0 ≤ i) && decide (i < (n : Int))), rfl, by rw [← blsOf_map, List.map_map]; rfl, ?_⟩
      simp only [SL.wp, S.wp, E.wp, C.wp, EL.wp, CO.wp, EO.wp, T.wp, TL.wp, I.wp, getS0, getSs, Cn.w, List.set_cons_zero, List.set_cons_succ, wipeW, Bool.false_eq_true, if_false, if_true, tl2, lt_ii, le_ii, gt_ii, ge_ii, eq_ii, eq_ss, int_i, ne_ii, ne_bb, eq_bb, add_ii, sub_ii, mod_ii, add_tt, add_ll, optQ_s, decide_eq_true_eq, Bool.not_eq_true', decide_eq_false_iff_not, Bool.not_true, Bool.not_false, Bool.true_eq_false, not_true_eq_false, not_false_eq_true]
      by_cases hall : ∀ x ∈ l, 0 ≤ x ∧ x < (n : Int)
      · have e : (l.map (fun i => decide (0 ≤ i) && decide (i < (n : Int)))).all id = true := by
          rw [List.all_map, List.all_eq_true]
          intro x hx
          simp [hall x hx]
        rw [if_neg (by rw [e]; decide)]
        simp only [SL.wp, S.wp, E.wp, C.wp, EL.wp, CO.wp, EO.wp, T.wp, TL.wp, I.wp, getS0, getSs, Cn.w, List.set_cons_zero, List.set_cons_succ, wipeW, Bool.false_eq_true, if_false, if_true, tl2, lt_ii, le_ii, gt_ii, ge_ii, eq_ii, eq_ss, int_i, ne_ii, ne_bb, eq_bb, add_ii, sub_ii, mod_ii, add_tt, add_ll, optQ_s, decide_eq_true_eq, Bool.not_eq_true', decide_eq_false_iff_not, Bool.not_true, Bool.not_false, Bool.true_eq_false, not_true_eq_false, not_false_eq_true, b_are_places_1]
        obtain ⟨ds, h1, h2, h3, h4⟩ := dedup l
        refine ⟨_, l, ds, rfl, intsOf_map l, hz, h1, h2, ?_⟩
        show RetR Q (.bl (decide (_ = _))) mu
        refine ret_same (hq _ ?_)
        rw [decide_eq_true_iff, List.length_map]
        constructor
        · intro z; exact ⟨rfl, hall, h4.mp (by omega)⟩
        · intro z; rw [h4.mpr z.2.2]
      · have e : (l.map (fun i => decide (0 ≤ i) && decide (i < (n : Int)))).all id = false := by
          rw [Bool.eq_false_iff]
          intro z
          rw [List.all_map, List.all_eq_true] at z
          refine hall fun x hx => ?_
          have := z x hx
          simpa using this
        rw [if_pos e]
        simp only [SL.wp, S.wp, E.wp, C.wp, EL.wp, CO.wp, EO.wp, T.wp, TL.wp, I.wp, getS0, getSs, Cn.w, List.set_cons_zero, List.set_cons_succ, wipeW, Bool.false_eq_true, if_false, if_true, tl2, lt_ii, le_ii, gt_ii, ge_ii, eq_ii, eq_ss, int_i, ne_ii, ne_bb, eq_bb, add_ii, sub_ii, mod_ii, add_tt, add_ll, optQ_s, decide_eq_true_eq, Bool.not_eq_true', decide_eq_false_iff_not, Bool.not_true, Bool.not_false, Bool.true_eq_false, not_true_eq_false, not_false_eq_true, b_are_places_0t0]
        exact ret_same (hq false ⟨fun z => Bool.noConfusion z, fun z => absurd z.2.1 hall⟩)
/-! is_ring -/
theorem len_tI {l : List Int} {mu : Mu} {Q : QW} (h : Q (.int l.length) mu) : bifR .len [.tup (l.map W.int)] mu Q := by
  show Q (.int ((l.map W.int).length : Nat)) mu
  rw [List.length_map]; exact h
theorem len_tup {ws : List W} {mu : Mu} {Q : QW} (h : Q (.int ws.length) mu) : bifR .len [.tup ws] mu Q := h
theorem len_lst {ws : List W} {mu : Mu} {Q : QW} (h : Q (.int ws.length) mu) : bifR .len [.lst ws] mu Q := h
theorem rowOf_mem {cs : List (Int × Int)} {i : Nat} {k : Int} : k ∈ rowOf cs i ↔ ((i : Int), k) ∈ cs := by
  unfold rowOf
  rw [List.mem_map]
  constructor
  · rintro ⟨c, hc, rfl⟩
    obtain ⟨h1, h2⟩ := List.mem_filter.mp hc
    have : c.1 = (i : Int) := by simpa using h2
    rw [← this]; exact h1
  · intro h
    exact ⟨_, List.mem_filter.mpr ⟨h, by simp⟩, rfl⟩
theorem rows_at {n : Nat} {cs : List (Int × Int)} {i : Nat} (h : i < n) : ((List.range n).map fun i => W.tup ((rowOf cs i).map W.int))[i]? = some (.tup ((rowOf cs i).map W.int)) := by
  rw [List.getElem?_map, List.getElem?_range h]; rfl
def sp_is_ring : SpW := fun ws mu Q => ∃ (n : Nat) (cs : List (Int × Int)) (r : Rt), ws = [webW n cs, rtW r] ∧ Web n cs ∧ r.2.length ≤ 1000 ∧ ∀ b, (b = true ↔ RingP n cs r) → Q (.bl b) mu
def NextP (len i j : Nat) : Prop := j = i + 1 ∨ (i = 0 ∧ j + 1 = len)
theorem ok_is_ring (F : Fe) (h1 : F.fn "are_places" = sp_are_places) (h2 : F.fn "neighbour_rows" = sp_neighbour_rows) (h3 : F.cs "LEAST_RING" = some (.int 4)) : ∀ ws mu Q, sp_is_ring ws mu Q → ws.length = 2 ∧ (b_is_ring).wp F (endR Q) (startW n_is_ring ws) mu := by
  rintro ws mu Q ⟨n, cs, r, rfl, hW, hz, hq⟩
  refine ⟨rfl, ?_⟩
  show (b_is_ring).wp F (endR Q) [some (webW n cs), some (rtW r), none, none, none, none, none] mu
  simp only [SL.wp, S.wp, E.wp, C.wp, EL.wp, CO.wp, EO.wp, T.wp, TL.wp, I.wp, getS0, getSs, Cn.w, List.set_cons_zero, List.set_cons_succ, wipeW, Bool.false_eq_true, if_false, if_true, tl2, lt_ii, le_ii, gt_ii, ge_ii, eq_ii, eq_ss, int_i, ne_ii, ne_bb, eq_bb, add_ii, sub_ii, mod_ii, add_tt, add_ll, optQ_s, decide_eq_true_eq, Bool.not_eq_true', decide_eq_false_iff_not, Bool.not_true, Bool.not_false, Bool.true_eq_false, not_true_eq_false, not_false_eq_true, b_is_ring, h1, h3]
  refine idx_tup (w := .int n) rfl ⟨n, r, rfl, by omega, fun b hb => ?_⟩
  cases b with
  | false =>
    simp only [SL.wp, S.wp, E.wp, C.wp, EL.wp, CO.wp, EO.wp, T.wp, TL.wp, I.wp, getS0, getSs, Cn.w, List.set_cons_zero, List.set_cons_succ, wipeW, Bool.false_eq_true, if_false, if_true, tl2, lt_ii, le_ii, gt_ii, ge_ii, eq_ii, eq_ss, int_i, ne_ii, ne_bb, eq_bb, add_ii, sub_ii, mod_ii, add_tt, add_ll, optQ_s, decide_eq_true_eq, Bool.not_eq_true', decide_eq_false_iff_not, Bool.not_true, Bool.not_false, Bool.true_eq_false, not_true_eq_false, not_false_eq_true, b_is_ring_0t0, Bool.not_false]
    exact ret_same (hq false ⟨fun z => Bool.noConfusion z, fun z => (hb.mpr z.1).symm ▸ rfl⟩)
  | true =>
    have hp := hb.mp rfl
    obtain ⟨bb, l⟩ := r
    obtain ⟨rfl, hin, hnd⟩ : bb = true ∧ (∀ x ∈ l, 0 ≤ x ∧ x < (n : Int)) ∧ l.Nodup := hp
    simp only [SL.wp, S.wp, E.wp, C.wp, EL.wp, CO.wp, EO.wp, T.wp, TL.wp, I.wp, getS0, getSs, Cn.w, List.set_cons_zero, List.set_cons_succ, wipeW, Bool.false_eq_true, if_false, if_true, tl2, lt_ii, le_ii, gt_ii, ge_ii, eq_ii, eq_ss, int_i, ne_ii, ne_bb, eq_bb, add_ii, sub_ii, mod_ii, add_tt, add_ll, optQ_s, decide_eq_true_eq, Bool.not_eq_true', decide_eq_false_iff_not, Bool.not_true, Bool.not_false, Bool.true_eq_false, not_true_eq_false, not_false_eq_true, Bool.not_true]
    refine len_tI ?_
    simp only [SL.wp, S.wp, E.wp, C.wp, EL.wp, CO.wp, EO.wp, T.wp, TL.wp, I.wp, getS0, getSs, Cn.w, List.set_cons_zero, List.set_cons_succ, wipeW, Bool.false_eq_true, if_false, if_true, tl2, lt_ii, le_ii, gt_ii, ge_ii, eq_ii, eq_ss, int_i, ne_ii, ne_bb, eq_bb, add_ii, sub_ii, mod_ii, add_tt, add_ll, optQ_s, decide_eq_true_eq, Bool.not_eq_true', decide_eq_false_iff_not, Bool.not_true, Bool.not_false, Bool.true_eq_false, not_true_eq_false, not_false_eq_true]
    by_cases h4 : ((l.length : Nat) : Int) < 4
    · rw [if_pos h4]
      simp only [SL.wp, S.wp, E.wp, C.wp, EL.wp, CO.wp, EO.wp, T.wp, TL.wp, I.wp, getS0, getSs, Cn.w, List.set_cons_zero, List.set_cons_succ, wipeW, Bool.false_eq_true, if_false, if_true, tl2, lt_ii, le_ii, gt_ii, ge_ii, eq_ii, eq_ss, int_i, ne_ii, ne_bb, eq_bb, add_ii, sub_ii, mod_ii, add_tt, add_ll, optQ_s, decide_eq_true_eq, Bool.not_eq_true', decide_eq_false_iff_not, Bool.not_true, Bool.not_false, Bool.true_eq_false, not_true_eq_false, not_false_eq_true, b_is_ring_0t0]
      refine ret_same (hq false ⟨fun z => Bool.noConfusion z, fun z => ?_⟩)
      have := z.2.1
      simp only at this
      omega
    · rw [if_neg h4]
      simp only [SL.wp, S.wp, E.wp, C.wp, EL.wp, CO.wp, EO.wp, T.wp, TL.wp, I.wp, getS0, getSs, Cn.w, List.set_cons_zero, List.set_cons_succ, wipeW, Bool.false_eq_true, if_false, if_true, tl2, lt_ii, le_ii, gt_ii, ge_ii, eq_ii, eq_ss, int_i, ne_ii, ne_bb, eq_bb, add_ii, sub_ii, mod_ii, add_tt, add_ll, optQ_s, decide_eq_true_eq, Bool.not_eq_true', decide_eq_false_iff_not, Bool.not_true, Bool.not_false, Bool.true_eq_false, not_true_eq_false, not_false_eq_true, b_is_ring_1, h2]
      refine ⟨n, cs, rfl, by have := hW.le; omega, hW.ran, hW.len, ?_⟩
      simp only [SL.wp, S.wp, E.wp, C.wp, EL.wp, CO.wp, EO.wp, T.wp, TL.wp, I.wp, getS0, getSs, Cn.w, List.set_cons_zero, List.set_cons_succ, wipeW, Bool.false_eq_true, if_false, if_true, tl2, lt_ii, le_ii, gt_ii, ge_ii, eq_ii, eq_ss, int_i, ne_ii, ne_bb, eq_bb, add_ii, sub_ii, mod_ii, add_tt, add_ll, optQ_s, decide_eq_true_eq, Bool.not_eq_true', decide_eq_false_iff_not, Bool.not_true, Bool.not_false, Bool.true_eq_false, not_true_eq_false, not_false_eq_true, b_is_ring_2]
      refine ⟨l.map FF.W.int, rfl, ?_⟩
      simp only at hz
      refine forW_inv (fun i t m => m = mu ∧ (∃ x y u v, t = [some (webW n cs), some (rtW (true, l)), some (rowsW n cs), x, y, u, v]) ∧ ∀ a b x y, a < i → a < b → l[a]? = some x → l[b]? = some y → ((x, y) ∈ cs ↔ NextP l.length a b)) ⟨rfl, ⟨_, _, _, _, rfl⟩, fun _ _ _ _ h => absurd h (Nat.not_lt_zero _)⟩ (fun _ _ _ _ _ => True.intro) ?_ ?_
      · rintro i w t m R hw ⟨rfl, ⟨x, y, u, v, rfl⟩, hI⟩ k
        obtain ⟨w1, hw1, rfl⟩ := enuW_get _ _ _ _ hw
        rw [List.getElem?_map] at hw1
        cases ea : l[i]? with
        | none => rw [ea] at hw1; cases hw1
        | some a =>
          rw [ea] at hw1; cases hw1
          have hil : i < l.length := (List.getElem?_eq_some_iff.mp ea).1
          obtain ⟨ha0, han⟩ := hin a (List.mem_of_getElem? ea)
          rw [Nat.zero_add]
          refine ⟨rfl, ?_⟩
          simp only [SL.wp, S.wp, E.wp, C.wp, EL.wp, CO.wp, EO.wp, T.wp, TL.wp, I.wp, getS0, getSs, Cn.w, List.set_cons_zero, List.set_cons_succ, wipeW, Bool.false_eq_true, if_false, if_true, tl2, lt_ii, le_ii, gt_ii, ge_ii, eq_ii, eq_ss, int_i, ne_ii, ne_bb, eq_bb, add_ii, sub_ii, mod_ii, add_tt, add_ll, optQ_s, decide_eq_true_eq, Bool.not_eq_true', decide_eq_false_iff_not, Bool.not_true, Bool.not_false, Bool.true_eq_false, not_true_eq_false, not_false_eq_true, b_is_ring_2b0]
          show bifR .len _ m _
          refine len_tI ⟨(i : Int) + 1, l.length, rfl, rfl, ⟨by omega, by omega, by omega, by omega⟩, ?_⟩
          refine forW_inv (fun j t m' => m' = m ∧ (∃ u v, t = [some (webW n cs), some (rtW (true, l)), some (rowsW n cs), some (.int i), some (.int a), u, v]) ∧ ∀ b y, i < b → b < i + 1 + j → l[b]? = some y → ((a, y) ∈ cs ↔ NextP l.length i b)) ⟨rfl, ⟨_, _, rfl⟩, fun b y h1 h2 => by omega⟩ (fun _ _ _ _ _ => True.intro) ?_ ?_
          · rintro j w t m' R2 hw ⟨rfl, ⟨u, v, rfl⟩, hJ⟩ k2
            obtain ⟨rfl, hj⟩ := rngW_get hw
            have hjl : i + 1 + j < l.length := by omega
            have eb : l[i + 1 + j]? = some l[i + 1 + j] := List.getElem?_eq_getElem hjl
            generalize l[i + 1 + j] = b at eb
            simp only [SL.wp, S.wp, E.wp, C.wp, EL.wp, CO.wp, EO.wp, T.wp, TL.wp, I.wp, getS0, getSs, Cn.w, List.set_cons_zero, List.set_cons_succ, wipeW, Bool.false_eq_true, if_false, if_true, tl2, lt_ii, le_ii, gt_ii, ge_ii, eq_ii, eq_ss, int_i, ne_ii, ne_bb, eq_bb, add_ii, sub_ii, mod_ii, add_tt, add_ll, optQ_s, decide_eq_true_eq, Bool.not_eq_true', decide_eq_false_iff_not, Bool.not_true, Bool.not_false, Bool.true_eq_false, not_true_eq_false, not_false_eq_true, b_is_ring_2b0b0]
            have go : ∀ c, (c = true ↔ NextP l.length i (i + 1 + j)) → (b_is_ring_2b0b1).wp F { nx := fun t1 mu1 => R2 t1 mu1, rt := (endR Q).rt, bk := fun t1 mu1 => R t1 mu1, ct := R2 }
                [some (webW n cs), some (rtW (true, l)), some (rowsW n cs), some (.int i), some (.int a), some (.int (i + 1 + j)), some (.bl c)] m' := by
              intro c hc
              simp only [SL.wp, S.wp, E.wp, C.wp, EL.wp, CO.wp, EO.wp, T.wp, TL.wp, I.wp, getS0, getSs, Cn.w, List.set_cons_zero, List.set_cons_succ, wipeW, Bool.false_eq_true, if_false, if_true, tl2, lt_ii, le_ii, gt_ii, ge_ii, eq_ii, eq_ss, int_i, ne_ii, ne_bb, eq_bb, add_ii, sub_ii, mod_ii, add_tt, add_ll, optQ_s, decide_eq_true_eq, Bool.not_eq_true', decide_eq_false_iff_not, Bool.not_true, Bool.not_false, Bool.true_eq_false, not_true_eq_false, not_false_eq_true, b_is_ring_2b0b1]
              refine idx_tup (w := .int b) (atI_nat (i := i + 1 + j) (by rw [List.getElem?_map, eb]; rfl)) ?_
              obtain ⟨a', rfl⟩ : ∃ a' : Nat, a = (a' : Int) := ⟨a.toNat, by omega⟩
              refine idx_lst (atI_nat (rows_at (by omega))) ?_
              refine cin_t ?_
              simp only [SL.wp, S.wp, E.wp, C.wp, EL.wp, CO.wp, EO.wp, T.wp, TL.wp, I.wp, getS0, getSs, Cn.w, List.set_cons_zero, List.set_cons_succ, wipeW, Bool.false_eq_true, if_false, if_true, tl2, lt_ii, le_ii, gt_ii, ge_ii, eq_ii, eq_ss, int_i, ne_ii, ne_bb, eq_bb, add_ii, sub_ii, mod_ii, add_tt, add_ll, optQ_s, decide_eq_true_eq, Bool.not_eq_true', decide_eq_false_iff_not, Bool.not_true, Bool.not_false, Bool.true_eq_false, not_true_eq_false, not_false_eq_true]
              by_cases hin2 : ((a' : Int), b) ∈ cs
              · have e1 : decide (b ∈ rowOf cs a') = true := decide_eq_true (rowOf_mem.mpr hin2)
                rw [e1]
                cases c with
                | true =>
                  rw [if_neg (by decide)]
                  refine k2 _ _ ⟨rfl, ⟨_, _, rfl⟩, fun b' y' g1 g2 g3 => ?_⟩
                  by_cases hb' : b' = i + 1 + j
                  · subst hb'
                    rw [eb] at g3; cases g3
                    exact ⟨fun _ => hc.mp rfl, fun _ => hin2⟩
                  · exact hJ b' y' g1 (by omega) g3
                | false =>
                  rw [if_pos (by decide)]
                  simp only [SL.wp, S.wp, E.wp, C.wp, EL.wp, CO.wp, EO.wp, T.wp, TL.wp, I.wp, getS0, getSs, Cn.w, List.set_cons_zero, List.set_cons_succ, wipeW, Bool.false_eq_true, if_false, if_true, tl2, lt_ii, le_ii, gt_ii, ge_ii, eq_ii, eq_ss, int_i, ne_ii, ne_bb, eq_bb, add_ii, sub_ii, mod_ii, add_tt, add_ll, optQ_s, decide_eq_true_eq, Bool.not_eq_true', decide_eq_false_iff_not, Bool.not_true, Bool.not_false, Bool.true_eq_false, not_true_eq_false, not_false_eq_true, b_is_ring_2b0b1t0]
                  exact ret_same (hq false ⟨fun z => Bool.noConfusion z, fun z => hc.mpr ((z.2.2 i (i + 1 + j) _ _ (by omega) ea eb).mp hin2)⟩)
              · have e1 : decide (b ∈ rowOf cs a') = false := decide_eq_false (fun z => hin2 (rowOf_mem.mp z))
                rw [e1]
                cases c with
                | false =>
                  rw [if_neg (by decide)]
                  refine k2 _ _ ⟨rfl, ⟨_, _, rfl⟩, fun b' y' g1 g2 g3 => ?_⟩
                  by_cases hb' : b' = i + 1 + j
                  · subst hb'
                    rw [eb] at g3; cases g3
                    exact ⟨fun z => absurd z hin2, fun z => absurd (hc.mpr z) Bool.false_ne_true⟩
                  · exact hJ b' y' g1 (by omega) g3
                | true =>
                  rw [if_pos (by decide)]
                  simp only [SL.wp, S.wp, E.wp, C.wp, EL.wp, CO.wp, EO.wp, T.wp, TL.wp, I.wp, getS0, getSs, Cn.w, List.set_cons_zero, List.set_cons_succ, wipeW, Bool.false_eq_true, if_false, if_true, tl2, lt_ii, le_ii, gt_ii, ge_ii, eq_ii, eq_ss, int_i, ne_ii, ne_bb, eq_bb, add_ii, sub_ii, mod_ii, add_tt, add_ll, optQ_s, decide_eq_true_eq, Bool.not_eq_true', decide_eq_false_iff_not, Bool.not_true, Bool.not_false, Bool.true_eq_false, not_true_eq_false, not_false_eq_true, b_is_ring_2b0b1t0]
                  exact ret_same (hq false ⟨fun z => Bool.noConfusion z, fun z => absurd ((z.2.2 i (i + 1 + j) _ _ (by omega) ea eb).mpr (hc.mp rfl)) hin2⟩)
            unfold NextP at go
            split
            · exact go true ⟨fun _ => .inl (by omega), fun _ => rfl⟩
            · split
              · refine len_tI ?_
                simp only [SL.wp, S.wp, E.wp, C.wp, EL.wp, CO.wp, EO.wp, T.wp, TL.wp, I.wp, getS0, getSs, Cn.w, List.set_cons_zero, List.set_cons_succ, wipeW, Bool.false_eq_true, if_false, if_true, tl2, lt_ii, le_ii, gt_ii, ge_ii, eq_ii, eq_ss, int_i, ne_ii, ne_bb, eq_bb, add_ii, sub_ii, mod_ii, add_tt, add_ll, optQ_s, decide_eq_true_eq, Bool.not_eq_true', decide_eq_false_iff_not, Bool.not_true, Bool.not_false, Bool.true_eq_false, not_true_eq_false, not_false_eq_true]
                refine go _ ?_
                rw [decide_eq_true_iff]
                omega
              · exact go false ⟨fun z => Bool.noConfusion z, fun z => by omega⟩
          · rintro t m' ⟨rfl, ⟨u, v, rfl⟩, hJ⟩
            rw [rngW_len] at hJ
            refine k _ _ ⟨rfl, ⟨_, _, _, _, rfl⟩, fun a' b' x' y' h1 h2 h3 h4 => ?_⟩
            by_cases ha' : a' = i
            · subst ha'
              rw [ea] at h3; cases h3
              have := (List.getElem?_eq_some_iff.mp h4).1
              exact hJ b' y' h2 (by omega) h4
            · exact hI a' b' x' y' (by omega) h2 h3 h4
      · rintro t m ⟨rfl, ⟨x, y, u, v, rfl⟩, hI⟩
        rw [enuW_len, List.length_map] at hI
        simp only [SL.wp, S.wp, E.wp, C.wp, EL.wp, CO.wp, EO.wp, T.wp, TL.wp, I.wp, getS0, getSs, Cn.w, List.set_cons_zero, List.set_cons_succ, wipeW, Bool.false_eq_true, if_false, if_true, tl2, lt_ii, le_ii, gt_ii, ge_ii, eq_ii, eq_ss, int_i, ne_ii, ne_bb, eq_bb, add_ii, sub_ii, mod_ii, add_tt, add_ll, optQ_s, decide_eq_true_eq, Bool.not_eq_true', decide_eq_false_iff_not, Bool.not_true, Bool.not_false, Bool.true_eq_false, not_true_eq_false, not_false_eq_true, b_is_ring_3]
        refine ret_same (hq true ⟨fun _ => ⟨⟨rfl, hin, hnd⟩, by simp only; omega, fun i j x y hij h5 h6 => ?_⟩, fun _ => rfl⟩)
        exact hI i j x y (List.getElem?_eq_some_iff.mp h5).1 hij h5 h6
end FF

/-! unlike_pairs, are_apart. -/
namespace FF
open PySem PySem.Spec PyProof.Rows L2
theorem Fzs_refl {m1 m2 : Mu} : ∀ ws : List W, Fzs m1 m2 ws ws
  | [] => .nil
  | w :: ws => .cons (.same w) (Fzs_refl ws)
theorem le_sz {n : Nat} (h : n ≤ 1000000) : n ≤ sizeLine := Nat.le_of_lt (sz1000 h)
theorem cut_from (xs : List W) (k : Nat) : cutW xs (some (k : Int)) none = xs.drop k := by
  unfold cutW
  rw [HT.sIx_nat, HT.sIx_none]
  by_cases h : k ≤ xs.length
  · rw [Nat.min_eq_left h, List.take_of_length_le (by rw [List.length_drop]; omega)]
  · rw [Nat.min_eq_right (by omega), List.drop_length, List.take_nil, List.drop_eq_nil_of_le (by omega)]
theorem cut_to (xs : List W) (k : Nat) : cutW xs none (some (k : Int)) = xs.take k := by
  unfold cutW
  rw [HT.sIx_nat, HT.sIx_none, List.drop_zero, Nat.sub_zero]
  by_cases h : k ≤ xs.length
  · rw [Nat.min_eq_left h]
  · rw [Nat.min_eq_right (by omega), List.take_length, List.take_of_length_le (by omega)]
theorem cut_last (xs : List W) : cutW xs none (some (-1)) = xs.dropLast := by
  unfold cutW
  rw [HT.sIx_none, List.drop_zero, Nat.sub_zero, List.dropLast_eq_take]
  congr 1
  unfold HT.sIx
  dsimp only
  rw [if_pos (by decide)]; omega
theorem cut_mid (xs : List W) : cutW xs (some 1) (some (-1)) = (xs.drop 1).dropLast := by
  unfold cutW
  rw [show (1 : Int) = ((1 : Nat) : Int) from rfl, HT.sIx_nat, List.dropLast_eq_take, List.length_drop]
  have e : HT.sIx xs.length xs.length (some (-((1 : Nat) : Int))) = xs.length - 1 := by
    unfold HT.sIx
    dsimp only
    rw [if_pos (by decide)]; omega
  rw [e]
  cases xs with
  | nil => rfl
  | cons x xs =>
    rw [List.length_cons, Nat.min_eq_left (by omega)]
section
variable {xs : List W} {k : Nat} {i : Int} {own : Bool} {mu : Mu} {Q : QW}
theorem sl_from (e : i = (k : Int)) (hz : xs.length ≤ sizeLine) (h : Q (.lst (xs.drop k)) mu) : slR false (.lst xs) (some i) none mu Q := by
  subst e
  show newL false (cutW xs (some (k : Int)) none) mu Q
  rw [cut_from]
  exact newL_f (by rw [List.length_drop]; omega) h
theorem sl_to (e : i = (k : Int)) (hz : xs.length ≤ sizeLine) (h : Q (.lst (xs.take k)) mu) : slR false (.lst xs) none (some i) mu Q := by
  subst e
  show newL false (cutW xs none (some (k : Int))) mu Q
  rw [cut_to]
  exact newL_f (by rw [List.length_take]; omega) h
theorem slT_from (e : i = (k : Int)) (h : Q (.tup (xs.drop k)) mu) : slR own (.tup xs) (some i) none mu Q := by
  subst e
  show Q (.tup (cutW xs (some (k : Int)) none)) mu
  rw [cut_from]; exact h
theorem slT_to (e : i = (k : Int)) (h : Q (.tup (xs.take k)) mu) : slR own (.tup xs) none (some i) mu Q := by
  subst e
  show Q (.tup (cutW xs none (some (k : Int)))) mu
  rw [cut_to]; exact h
theorem slT_last (h : Q (.tup xs.dropLast) mu) : slR own (.tup xs) none (some (-1)) mu Q := by
  show Q (.tup (cutW xs none (some (-1)))) mu
  rw [cut_last]; exact h
theorem slT_mid (h : Q (.tup (xs.drop 1).dropLast) mu) : slR own (.tup xs) (some 1) (some (-1)) mu Q := by
  show Q (.tup (cutW xs (some 1) (some (-1)))) mu
  rw [cut_mid]; exact h
end
theorem dget_some {k : DK} : ∀ {kvs : List (W × W)}, (dget kvs k).isSome = true ↔ ∃ p ∈ kvs, dkOf p.1 = some k
  | [] => by simp [dget]
  | (a, w) :: r => by
    unfold dget
    by_cases h : dkOf a = some k
    · rw [if_pos h]
      exact ⟨fun _ => ⟨_, List.mem_cons_self, h⟩, fun _ => rfl⟩
    · rw [if_neg h, dget_some]
      constructor
      · rintro ⟨p, hp, e⟩; exact ⟨p, List.mem_cons_of_mem _ hp, e⟩
      · rintro ⟨p, hp, e⟩
        rcases List.mem_cons.mp hp with rfl | hp
        · exact absurd e h
        · exact ⟨p, hp, e⟩
theorem dput_keys {kvs : List (W × W)} {k k' : DK} {kw v : W} (hk : dkOf kw = some k) : (∃ p ∈ dput kvs k kw v, dkOf p.1 = some k') ↔ (∃ p ∈ kvs, dkOf p.1 = some k') ∨ k' = k := by
  unfold dput
  by_cases h : (kvs.any fun p => decide (dkOf p.1 = some k)) = true
  · rw [if_pos h]
    obtain ⟨p0, hp0, e0⟩ := List.any_eq_true.mp h
    have e0 : dkOf p0.1 = some k := of_decide_eq_true e0
    constructor
    · rintro ⟨p, hp, e⟩
      obtain ⟨q, hq, rfl⟩ := List.mem_map.mp hp
      refine .inl ⟨q, hq, ?_⟩
      split at e <;> exact e
    · rintro (⟨p, hp, e⟩ | rfl)
      · refine ⟨_, List.mem_map.mpr ⟨p, hp, rfl⟩, ?_⟩
        split <;> exact e
      · refine ⟨_, List.mem_map.mpr ⟨p0, hp0, rfl⟩, ?_⟩
        rw [if_pos e0]; exact e0
  · rw [if_neg h]
    constructor
    · rintro ⟨p, hp, e⟩
      rcases List.mem_append.mp hp with hp | hp
      · exact .inl ⟨p, hp, e⟩
      · rw [List.mem_singleton] at hp
        subst hp
        rw [hk] at e; cases e; exact .inr rfl
    · rintro (⟨p, hp, e⟩ | rfl)
      · exact ⟨p, List.mem_append_left _ hp, e⟩
      · exact ⟨_, List.mem_append_right _ (List.mem_singleton.mpr rfl), hk⟩
theorem dmerge_keys {k' : DK} : ∀ (more : List (W × W)) (kvs : List (W × W)), (∀ p ∈ more, ∃ k, dkOf p.1 = some k) → ((∃ p ∈ dmerge kvs more, dkOf p.1 = some k') ↔ (∃ p ∈ kvs, dkOf p.1 = some k') ∨ ∃ p ∈ more, dkOf p.1 = some k')
  | [], kvs, _ => by
    show (∃ p ∈ kvs, _) ↔ _
    exact ⟨.inl, fun z => z.elim id fun ⟨p, hp, _⟩ => by cases hp⟩
  | p :: more, kvs, hk => by
    obtain ⟨k, ek⟩ := hk p List.mem_cons_self
    have e : dmerge kvs (p :: more) = dmerge (dput kvs k p.1 p.2) more := by
      unfold dmerge
      rw [List.foldl_cons, ek]
    rw [e, dmerge_keys more _ (fun q hq => hk q (List.mem_cons_of_mem _ hq)), dput_keys ek]
    constructor
    · rintro ((h | rfl) | ⟨q, hq, e⟩)
      · exact .inl h
      · exact .inr ⟨p, List.mem_cons_self, ek⟩
      · exact .inr ⟨q, List.mem_cons_of_mem _ hq, e⟩
    · rintro (h | ⟨q, hq, e⟩)
      · exact .inl (.inl h)
      · rcases List.mem_cons.mp hq with z | hq
        · rw [z, ek] at e; cases e; exact .inl (.inr rfl)
        · exact .inr ⟨q, hq, e⟩
def dkP (p : Int × Int) : DK := .t [.inl p.1, .inl p.2]
theorem dk_pair (p : Int × Int) : dkOf (pairW p) = some (dkP p) := rfl
theorem dkP_inj {p q : Int × Int} (h : dkP p = dkP q) : p = q := by
  obtain ⟨a, b⟩ := p
  obtain ⟨c, d⟩ := q
  unfold dkP at h
  simp only [DK.t.injEq, List.cons.injEq, Sum.inl.injEq, and_true] at h
  rw [h.1, h.2]
/-- a dict whose keys are these pairs -/
def tset (kvs : List (W × W)) (cs : List (Int × Int)) : Prop := ∀ c, (dget kvs (dkP c)).isSome = true ↔ c ∈ cs
theorem in_tset {i k : Int} {kvs : List (W × W)} {cs : List (Int × Int)} {Q : Bool → Prop} (h : tset kvs cs) (q : Q (decide ((i, k) ∈ cs))) : inR (.tup [.int i, .int k]) (.dct true kvs) Q := by
  refine ⟨dkP (i, k), rfl, rfl, ?_⟩
  have : (dget kvs (dkP (i, k))).isSome = decide ((i, k) ∈ cs) := by
    rw [Bool.eq_iff_iff, h, decide_eq_true_iff]
  rw [this]; exact q
theorem nin_d {i k : Int} {kvs : List (W × W)} {cs : List (Int × Int)} {mu : Mu} {Q : QW} (h : tset kvs cs) (q : Q (.bl (!decide ((i, k) ∈ cs))) mu) : cmpR .NotIn (.tup [.int i, .int k]) (.dct true kvs) mu Q := in_tset (Q := fun b => Q (.bl (!b)) mu) h q
theorem cin_d {i k : Int} {q : Addr} {kvs : List (W × W)} {cs : List (Int × Int)} {mu : Mu} {Q : QW} (hm : mu q = some (.dct true kvs)) (h : tset kvs cs) (g : Q (.bl (decide ((i, k) ∈ cs))) mu) : cmpR .In (.tup [.int i, .int k]) (.ref q) mu Q := by
  unfold cmpR
  dsimp only
  rw [vw_dct hm]
  exact in_tset (Q := fun b => Q (.bl b) mu) h g
def trueP (c : Int × Int) : W × W := (pairW c, .bl true)
theorem tset_map (cs : List (Int × Int)) : tset (cs.map trueP) cs := fun c => by
  rw [dget_some]
  constructor
  · rintro ⟨p, hp, e⟩
    obtain ⟨q, hq, rfl⟩ := List.mem_map.mp hp
    have := dkP_inj (Option.some.inj e)
    rw [← this]; exact hq
  · intro h; exact ⟨_, List.mem_map.mpr ⟨c, h, rfl⟩, rfl⟩
theorem dctOf_map : ∀ cs : List (Int × Int), dctOf (cs.map fun c => W.tup [pairW c, .bl true]) = some (cs.map trueP)
  | [] => rfl
  | c :: cs => by simp only [List.map_cons, dctOf, dctOf_map cs, Option.map_some]; rfl
theorem tset_merge (cs : List (Int × Int)) : tset (dmerge [] (cs.map trueP)) cs := fun c => by
  rw [dget_some, dmerge_keys, ← dget_some (kvs := cs.map trueP), tset_map cs c]
  · exact ⟨fun z => z.elim (fun ⟨p, hp, _⟩ => by cases hp) id, .inr⟩
  · intro p hp
    obtain ⟨q, _, rfl⟩ := List.mem_map.mp hp
    exact ⟨_, dk_pair q⟩
def unlAt (cs : List (Int × Int)) (s : List Int) (a : Nat) : List (Int × Int) := match s[a]? with
  | some i => ((s.drop (a + 1)).filter fun k => !decide ((i, k) ∈ cs)).map fun k => (i, k)
  | none => []
def unlN (cs : List (Int × Int)) (s : List Int) (n : Nat) : List (Int × Int) := (List.range n).flatMap (unlAt cs s)
theorem unlN_succ (cs : List (Int × Int)) (s : List Int) (n : Nat) : unlN cs s (n + 1) = unlN cs s n ++ unlAt cs s n := by
  unfold unlN
  rw [List.range_succ, List.flatMap_append, List.flatMap_singleton]
theorem unlAt_len (cs : List (Int × Int)) (s : List Int) (a : Nat) : (unlAt cs s a).length ≤ s.length := by
  unfold unlAt
  split
  · rw [List.length_map]
    refine Nat.le_trans (List.length_filter_le _ _) ?_
    rw [List.length_drop]; omega
  · exact Nat.zero_le _
theorem unlN_len (cs : List (Int × Int)) (s : List Int) : ∀ n, (unlN cs s n).length ≤ n * s.length
  | 0 => Nat.zero_le _
  | n + 1 => by
    rw [unlN_succ, List.length_append, Nat.succ_mul]
    exact Nat.add_le_add (unlN_len cs s n) (unlAt_len cs s n)
def unl (cs : List (Int × Int)) (l : List Int) : List (Int × Int) := unlN cs (srtI l) (srtI l).length
theorem srtI_len (l : List Int) : (srtI l).length = l.length := (srtI_perm l).length_eq
def sp_unlike_pairs : SpW := fun ws mu Q => ∃ (n : Nat) (cs : List (Int × Int)) (l : List Int), ws = [webW n cs, .tup (l.map W.int)] ∧ Web n cs ∧ l.length ≤ 1000 ∧ Q (.lst ((unl cs l).map pairW)) mu
theorem ok_unlike_pairs (F : Fe) : ∀ ws mu Q, sp_unlike_pairs ws mu Q → ws.length = 2 ∧ (b_unlike_pairs).wp F (endR Q) (startW n_unlike_pairs ws) mu := by
  rintro ws mu Q ⟨n, cs, l, rfl, hW, hz, hq⟩
  refine ⟨rfl, ?_⟩
  show (b_unlike_pairs).wp F (endR Q) [some (webW n cs), some (.tup (l.map W.int)), none, none, none, none, none, none, none] mu
  simp only [SL.wp, S.wp, E.wp, C.wp, EL.wp, CO.wp, EO.wp, T.wp, TL.wp, I.wp, getS0, getSs, Cn.w, List.set_cons_zero, List.set_cons_succ, wipeW, Bool.false_eq_true, if_false, if_true, tl2, lt_ii, le_ii, gt_ii, ge_ii, eq_ii, eq_ss, int_i, ne_ii, ne_bb, eq_bb, add_ii, sub_ii, mod_ii, add_tt, add_ll, optQ_s, decide_eq_true_eq, Bool.not_eq_true', decide_eq_false_iff_not, Bool.not_true, Bool.not_false, Bool.true_eq_false, not_true_eq_false, not_false_eq_true, b_unlike_pairs]
  refine idx_tup (w := cellsW cs) rfl ?_
  show ∀ p, mu p = none → _
  intro p hp
  refine comp_m hp (fun w => .tup [w, .bl true]) (by rw [List.length_map]; exact Nat.le_of_lt (sz1000 (by have := hW.len; omega))) .free True.intro ?_ ?_
  · intro w m G hw _ k
    simp only [SL.wp, S.wp, E.wp, C.wp, EL.wp, CO.wp, EO.wp, T.wp, TL.wp, I.wp, getS0, getSs, Cn.w, List.set_cons_zero, List.set_cons_succ, wipeW, Bool.false_eq_true, if_false, if_true, tl2, lt_ii, le_ii, gt_ii, ge_ii, eq_ii, eq_ss, int_i, ne_ii, ne_bb, eq_bb, add_ii, sub_ii, mod_ii, add_tt, add_ll, optQ_s, decide_eq_true_eq, Bool.not_eq_true', decide_eq_false_iff_not, Bool.not_true, Bool.not_false, Bool.true_eq_false, not_true_eq_false, not_false_eq_true]
    exact ⟨le_sz (Nat.le_of_ble_eq_true rfl), k⟩
  · rw [dell_sett hp, List.map_map]
    refine ⟨_, cs.map trueP, rfl, dctOf_map cs, fun q hq => ?_, ?_⟩
    · obtain ⟨c, _, rfl⟩ := List.mem_map.mp hq
      exact ⟨_, dk_pair c⟩
    · have ht := tset_merge cs
      generalize dmerge [] (cs.map trueP) = kvs at ht
      show (fun w mu1 => _) (FF.W.dct true kvs) mu
      simp only [SL.wp, S.wp, E.wp, C.wp, EL.wp, CO.wp, EO.wp, T.wp, TL.wp, I.wp, getS0, getSs, Cn.w, List.set_cons_zero, List.set_cons_succ, wipeW, Bool.false_eq_true, if_false, if_true, tl2, lt_ii, le_ii, gt_ii, ge_ii, eq_ii, eq_ss, int_i, ne_ii, ne_bb, eq_bb, add_ii, sub_ii, mod_ii, add_tt, add_ll, optQ_s, decide_eq_true_eq, Bool.not_eq_true', decide_eq_false_iff_not, Bool.not_true, Bool.not_false, Bool.true_eq_false, not_true_eq_false, not_false_eq_true, b_unlike_pairs_1]
      refine .inl ⟨l, intsOf_map l, ?_⟩
      simp only [SL.wp, S.wp, E.wp, C.wp, EL.wp, CO.wp, EO.wp, T.wp, TL.wp, I.wp, getS0, getSs, Cn.w, List.set_cons_zero, List.set_cons_succ, wipeW, Bool.false_eq_true, if_false, if_true, tl2, lt_ii, le_ii, gt_ii, ge_ii, eq_ii, eq_ss, int_i, ne_ii, ne_bb, eq_bb, add_ii, sub_ii, mod_ii, add_tt, add_ll, optQ_s, decide_eq_true_eq, Bool.not_eq_true', decide_eq_false_iff_not, Bool.not_true, Bool.not_false, Bool.true_eq_false, not_true_eq_false, not_false_eq_true, b_unlike_pairs_2]
      refine newL_t (Nat.zero_le _) fun q hq' => ?_
      simp only [SL.wp, S.wp, E.wp, C.wp, EL.wp, CO.wp, EO.wp, T.wp, TL.wp, I.wp, getS0, getSs, Cn.w, List.set_cons_zero, List.set_cons_succ, wipeW, Bool.false_eq_true, if_false, if_true, tl2, lt_ii, le_ii, gt_ii, ge_ii, eq_ii, eq_ss, int_i, ne_ii, ne_bb, eq_bb, add_ii, sub_ii, mod_ii, add_tt, add_ll, optQ_s, decide_eq_true_eq, Bool.not_eq_true', decide_eq_false_iff_not, Bool.not_true, Bool.not_false, Bool.true_eq_false, not_true_eq_false, not_false_eq_true, b_unlike_pairs_3]
      have hz' := srtI_len l
      unfold unl at hq
      generalize srtI l = s at hq hz'
      refine ⟨s.map W.int, rfl, ?_⟩
      refine forW_inv (fun i t m => (∃ x y u, t = [some (webW n cs), some (.tup (l.map W.int)), some (.dct true kvs), none, some (.lst (s.map W.int)), some (.ref q), x, y, u]) ∧ m = sett mu q (.lst ((unlN cs s i).map pairW))) ⟨⟨_, _, _, rfl⟩, rfl⟩ (fun _ _ _ _ _ => True.intro) ?_ ?_
      · rintro i w t m R hw ⟨⟨x, y, u, rfl⟩, rfl⟩ k
        obtain ⟨w1, hw1, rfl⟩ := enuW_get _ _ _ _ hw
        rw [List.getElem?_map] at hw1
        cases ea : s[i]? with
        | none => rw [ea] at hw1; cases hw1
        | some a =>
          rw [ea] at hw1; cases hw1
          have hil : i < s.length := (List.getElem?_eq_some_iff.mp ea).1
          rw [Nat.zero_add]
          refine ⟨rfl, ?_⟩
          simp only [SL.wp, S.wp, E.wp, C.wp, EL.wp, CO.wp, EO.wp, T.wp, TL.wp, I.wp, getS0, getSs, Cn.w, List.set_cons_zero, List.set_cons_succ, wipeW, Bool.false_eq_true, if_false, if_true, tl2, lt_ii, le_ii, gt_ii, ge_ii, eq_ii, eq_ss, int_i, ne_ii, ne_bb, eq_bb, add_ii, sub_ii, mod_ii, add_tt, add_ll, optQ_s, decide_eq_true_eq, Bool.not_eq_true', decide_eq_false_iff_not, Bool.not_true, Bool.not_false, Bool.true_eq_false, not_true_eq_false, not_false_eq_true, b_unlike_pairs_3b0]
          refine ⟨by rw [vw_lst sett_same]; rfl, ?_⟩
          refine sl_from (k := i + 1) (by omega) (le_sz (by rw [List.length_map]; omega)) ?_
          show ∀ p2, sett mu q _ p2 = none → _
          intro p2 hp2
          have hne : q ≠ p2 := fun z => by rw [← z, sett_same] at hp2; cases hp2
          refine comp_p hp2 (fun w => !decide ((a, intV w) ∈ cs)) (fun w => pairW (a, intV w)) (le_sz (by rw [List.length_drop, List.length_map]; omega)) .free True.intro ?_ ?_
          · intro w m G N hw _ g1 g2
            obtain ⟨b, hb⟩ : ∃ b, w = FF.W.int b := by
              have := List.mem_of_mem_drop hw
              obtain ⟨b, rfl, _⟩ := take_ints this
              exact ⟨b, rfl⟩
            subst hb
            simp only [SL.wp, S.wp, E.wp, C.wp, EL.wp, CO.wp, EO.wp, T.wp, TL.wp, I.wp, getS0, getSs, Cn.w, List.set_cons_zero, List.set_cons_succ, wipeW, Bool.false_eq_true, if_false, if_true, tl2, lt_ii, le_ii, gt_ii, ge_ii, eq_ii, eq_ss, int_i, ne_ii, ne_bb, eq_bb, add_ii, sub_ii, mod_ii, add_tt, add_ll, optQ_s, decide_eq_true_eq, Bool.not_eq_true', decide_eq_false_iff_not, Bool.not_true, Bool.not_false, Bool.true_eq_false, not_true_eq_false, not_false_eq_true]
            refine ⟨le_sz (Nat.le_of_ble_eq_true rfl), nin_d ht ?_⟩
            simp only [SL.wp, S.wp, E.wp, C.wp, EL.wp, CO.wp, EO.wp, T.wp, TL.wp, I.wp, getS0, getSs, Cn.w, List.set_cons_zero, List.set_cons_succ, wipeW, Bool.false_eq_true, if_false, if_true, tl2, lt_ii, le_ii, gt_ii, ge_ii, eq_ii, eq_ss, int_i, ne_ii, ne_bb, eq_bb, add_ii, sub_ii, mod_ii, add_tt, add_ll, optQ_s, decide_eq_true_eq, Bool.not_eq_true', decide_eq_false_iff_not, Bool.not_true, Bool.not_false, Bool.true_eq_false, not_true_eq_false, not_false_eq_true]
            have g1 : (!decide ((a, b) ∈ cs)) = true → G (pairW (a, b)) m := g1
            have g2 : (!decide ((a, b) ∈ cs)) = false → N m := g2
            by_cases hin : (a, b) ∈ cs
            · rw [if_neg (by simpa using hin)]
              exact g2 (by rw [decide_eq_true hin]; rfl)
            · rw [if_pos (by simpa using hin)]
              exact ⟨le_sz (Nat.le_of_ble_eq_true rfl), g1 (by rw [decide_eq_false hin]; rfl)⟩
          · rw [dell_sett hp2]
            refine ⟨_, _, sett_same, rfl, ?_, ?_⟩
            · rw [List.length_map, List.length_map]
              have h1 := unlN_len cs s i
              rw [sizeLine_eq]
              have h2 := List.length_filter_le (fun w => !decide ((a, intV w) ∈ cs)) ((s.map FF.W.int).drop (i + 1))
              rw [List.length_drop, List.length_map] at h2
              have h3 : i * s.length ≤ 1000 * 1000 := Nat.mul_le_mul (by omega) (by omega)
              omega
            · refine k _ _ ⟨⟨_, _, _, rfl⟩, ?_⟩
              rw [sett_sett, unlN_succ, List.map_append]
              congr 3
              unfold unlAt
              rw [ea]
              dsimp only
              rw [List.map_map, ← List.map_drop, List.filter_map, List.map_map]
              rfl
      · rintro t m ⟨⟨x, y, u, rfl⟩, rfl⟩
        rw [enuW_len, List.length_map]
        simp only [SL.wp, S.wp, E.wp, C.wp, EL.wp, CO.wp, EO.wp, T.wp, TL.wp, I.wp, getS0, getSs, Cn.w, List.set_cons_zero, List.set_cons_succ, wipeW, Bool.false_eq_true, if_false, if_true, tl2, lt_ii, le_ii, gt_ii, ge_ii, eq_ii, eq_ss, int_i, ne_ii, ne_bb, eq_bb, add_ii, sub_ii, mod_ii, add_tt, add_ll, optQ_s, decide_eq_true_eq, Bool.not_eq_true', decide_eq_false_iff_not, Bool.not_true, Bool.not_false, Bool.true_eq_false, not_true_eq_false, not_false_eq_true, b_unlike_pairs_4]
        refine ⟨_, mu, ?_, Fz.refL sett_same hq' (Fzs_refl _), hq⟩
        exact (Sub.refl mu).sett hq'
end FF

/-! are_apart, shown_by_rings, shown_by. -/
namespace FF
open PySem PySem.Spec PyProof.Rows L2
theorem nodup_bound : ∀ (n : Nat) (l : List Int), l.Nodup → (∀ x ∈ l, 0 ≤ x ∧ x < (n : Int)) → l.length ≤ n
  | 0, l, _, h => by
    cases l with
    | nil => exact Nat.le_refl _
    | cons x l => have := h x List.mem_cons_self; omega
  | n + 1, l, hn, h => by
    by_cases hm : (n : Int) ∈ l
    · have h1 := nodup_bound n (l.erase n) (hn.erase _) fun x hx => by
        have h2 := (hn.mem_erase_iff).mp hx
        have h3 := h x h2.2
        have h4 := h2.1
        omega
      rw [List.length_erase_of_mem hm] at h1
      omega
    · have h1 := nodup_bound n l hn fun x hx => by
        have h3 := h x hx
        have : x ≠ n := fun z => hm (by rw [← z]; exact hx)
        omega
      omega
theorem srtI_strict {l : List Int} (h : l.Nodup) : (srtI l).Pairwise (· < ·) := by
  have h1 := srtI_rise l
  have h2 : (srtI l).Nodup := (srtI_perm l).nodup_iff.mpr h
  refine (h1.and h2).imp ?_
  rintro a b ⟨h3, h4⟩
  omega
theorem mem_unlN {cs : List (Int × Int)} {s : List Int} {x y : Int} : ∀ {n : Nat}, (x, y) ∈ unlN cs s n ↔ ∃ a b : Nat, a < n ∧ a < b ∧ s[a]? = some x ∧ s[b]? = some y ∧ (x, y) ∉ cs
  | 0 => by
    unfold unlN
    rw [List.range_zero, List.flatMap_nil]
    exact ⟨fun z => (List.not_mem_nil z).elim, fun ⟨a, b, h, _⟩ => absurd h (Nat.not_lt_zero _)⟩
  | n + 1 => by
    rw [unlN_succ, List.mem_append, mem_unlN]
    constructor
    · rintro (⟨a, b, h, h'⟩ | h)
      · exact ⟨a, b, by omega, h'⟩
      · unfold unlAt at h
        cases e : s[n]? with
        | none => rw [e] at h; exact (List.not_mem_nil h).elim
        | some i =>
          rw [e] at h
          obtain ⟨k, hk, e2⟩ := List.mem_map.mp h
          cases e2
          obtain ⟨h1, h2⟩ := List.mem_filter.mp hk
          obtain ⟨b, hb, e3⟩ := List.mem_iff_getElem.mp h1
          rw [List.getElem_drop] at e3
          rw [List.length_drop] at hb
          exact ⟨n, n + 1 + b, by omega, by omega, e, by rw [List.getElem?_eq_getElem (by omega), e3], by simpa using h2⟩
    · rintro ⟨a, b, h1, h2, h3, h4, h5⟩
      by_cases ha : a < n
      · exact .inl ⟨a, b, ha, h2, h3, h4, h5⟩
      · have : a = n := by omega
        subst this
        refine .inr ?_
        unfold unlAt
        rw [h3]
        refine List.mem_map.mpr ⟨y, List.mem_filter.mpr ⟨?_, by simpa using h5⟩, rfl⟩
        obtain ⟨hb, e⟩ := List.getElem?_eq_some_iff.mp h4
        exact List.mem_iff_getElem.mpr ⟨b - (a + 1), by rw [List.length_drop]; omega, by
          rw [List.getElem_drop]
          have : a + 1 + (b - (a + 1)) = b := by omega
          simp only [this]; exact e⟩
theorem strict_lt {s : List Int} (h : s.Pairwise (· < ·)) {a b : Nat} {x y : Int} (ha : s[a]? = some x) (hb : s[b]? = some y) : a < b ↔ x < y := by
  obtain ⟨h1, e1⟩ := List.getElem?_eq_some_iff.mp ha
  obtain ⟨h2, e2⟩ := List.getElem?_eq_some_iff.mp hb
  have hp := List.pairwise_iff_getElem.mp h
  constructor
  · intro z
    have := hp a b h1 h2 z
    rw [e1, e2] at this; exact this
  · intro z
    rcases Nat.lt_trichotomy a b with q | q | q
    · exact q
    · subst q; rw [e1] at e2; omega
    · have := hp b a h2 h1 q
      rw [e1, e2] at this; omega
theorem mem_unl {cs : List (Int × Int)} {l : List Int} (hn : l.Nodup) {x y : Int} : (x, y) ∈ unl cs l ↔ x ∈ l ∧ y ∈ l ∧ x < y ∧ (x, y) ∉ cs := by
  unfold unl
  rw [mem_unlN]
  have hs := srtI_strict hn
  have hp := srtI_perm l
  generalize srtI l = s at hs hp
  constructor
  · rintro ⟨a, b, h1, h2, h3, h4, h5⟩
    exact ⟨hp.mem_iff.mp (List.mem_of_getElem? h3), hp.mem_iff.mp (List.mem_of_getElem? h4), (strict_lt hs h3 h4).mp h2, h5⟩
  · rintro ⟨h1, h2, h3, h4⟩
    obtain ⟨a, ha, e1⟩ := List.mem_iff_getElem.mp (hp.mem_iff.mpr h1)
    obtain ⟨b, hb, e2⟩ := List.mem_iff_getElem.mp (hp.mem_iff.mpr h2)
    have q1 : s[a]? = some x := by rw [List.getElem?_eq_getElem ha, e1]
    have q2 : s[b]? = some y := by rw [List.getElem?_eq_getElem hb, e2]
    exact ⟨a, b, ha, (strict_lt hs q1 q2).mpr h3, q1, q2, h4⟩
theorem unlN_nodup {cs : List (Int × Int)} {s : List Int} (hs : s.Pairwise (· < ·)) : ∀ n, (unlN cs s n).Nodup
  | 0 => by unfold unlN; rw [List.range_zero, List.flatMap_nil]; exact List.nodup_nil
  | n + 1 => by
    rw [unlN_succ]
    refine List.nodup_append.mpr ⟨unlN_nodup hs n, ?_, ?_⟩
    · unfold unlAt
      cases e : s[n]? with
      | none => exact List.nodup_nil
      | some i =>
        dsimp only
        refine List.Pairwise.map _ (fun a b h => ?_) ((List.Pairwise.filter _ ((hs.imp (S := fun a b => a ≠ b) (fun h => by omega)).sublist (List.drop_sublist _ _))))
        intro z; cases z; exact h rfl
    · rintro ⟨x, y⟩ h1 ⟨x', y'⟩ h2 e
      cases e
      obtain ⟨a, b, g1, g2, g3, g4, g5⟩ := mem_unlN.mp h1
      have h3 : x = (s[n]?).getD 0 := by
        unfold unlAt at h2
        cases e : s[n]? with
        | none => rw [e] at h2; exact (List.not_mem_nil h2).elim
        | some i =>
          rw [e] at h2
          obtain ⟨k, hk, e2⟩ := List.mem_map.mp h2
          cases e2; rfl
      cases e : s[n]? with
      | none => unfold unlAt at h2; rw [e] at h2; exact (List.not_mem_nil h2).elim
      | some i =>
        rw [e] at h3
        have h3 : x = i := h3
        subst h3
        have := (strict_lt hs g3 e).mp g1
        omega
theorem unl_nodup (cs : List (Int × Int)) {l : List Int} (h : l.Nodup) : (unl cs l).Nodup := unlN_nodup (srtI_strict h) _
theorem apart_iff {n : Nat} {cs : List (Int × Int)} (hW : Web n cs) {rs : List Rt} (hp : ∀ r ∈ rs, PlacesP n r) : (rs.flatMap fun r => unl cs r.2).Nodup ↔ rs.Pairwise (ApartP cs) := by
  rw [List.flatMap_def]
  unfold List.Nodup
  rw [List.pairwise_flatten]
  constructor
  · rintro ⟨_, h⟩
    rw [List.pairwise_map] at h
    refine h.imp_of_mem ?_
    intro a b ha hb h x hx y hy hx' hy' hne
    refine Classical.byContradiction fun hc => ?_
    have h1 := (hp a ha).2.2
    have h2 := (hp b hb).2.2
    by_cases hlt : x < y
    · exact h (x, y) ((mem_unl h1).mpr ⟨hx, hy, hlt, hc⟩) (x, y) ((mem_unl h2).mpr ⟨hx', hy', hlt, hc⟩) rfl
    · have hc' : (y, x) ∉ cs := fun z => hc (hW.sym _ z)
      exact h (y, x) ((mem_unl h1).mpr ⟨hy, hx, by omega, hc'⟩) (y, x) ((mem_unl h2).mpr ⟨hy', hx', by omega, hc'⟩) rfl
  · intro h
    refine ⟨fun l hl => ?_, ?_⟩
    · obtain ⟨r, hr, rfl⟩ := List.mem_map.mp hl
      exact unl_nodup cs (hp r hr).2.2
    · rw [List.pairwise_map]
      refine h.imp_of_mem ?_
      rintro a b ha hb h ⟨x, y⟩ h1 ⟨x', y'⟩ h2 e
      cases e
      obtain ⟨q1, q2, q3, q4⟩ := (mem_unl (hp a ha).2.2).mp h1
      obtain ⟨p1, p2, p3, p4⟩ := (mem_unl (hp b hb).2.2).mp h2
      exact q4 (h x q1 y q2 p1 p2 (by omega))
end FF

/-! are_apart, shown_by_rings, shown_by. -/
namespace FF
open PySem PySem.Spec PyProof.Rows L2
theorem dput_new {pre : List (Int × Int)} {c : Int × Int} (h : c ∉ pre) : dput (pre.map trueP) (dkP c) (pairW c) (.bl true) = (pre ++ [c]).map trueP := by
  unfold dput
  rw [if_neg, List.map_append]
  · rfl
  · intro z
    obtain ⟨p, hp, e⟩ := List.any_eq_true.mp z
    obtain ⟨q, hq, rfl⟩ := List.mem_map.mp hp
    have := dkP_inj (Option.some.inj (of_decide_eq_true e))
    exact h (by rw [← this]; exact hq)
theorem set_d {a : Addr} {t : Bool} {kvs : List (W × W)} {d : DK} {y w : W} {mu : Mu} {Q : Mu → Prop} (hm : mu a = some (.dct t kvs)) (hd : dkOf y = some d) (hk : dkK d = t) (hz : kvs.length < sizeLine) (h : Q (sett mu a (.dct t (dput kvs d y w)))) : setR (.ref a) y w mu Q := by
  unfold setR
  dsimp only
  rw [hm]
  exact ⟨d, hd, hk, hz, h⟩
theorem unl_len (cs : List (Int × Int)) (l : List Int) : (unl cs l).length ≤ l.length * l.length := by
  have := unlN_len cs (srtI l) (srtI l).length
  rw [srtI_len] at this
  unfold unl
  rw [srtI_len]; exact this
theorem places_len {n : Nat} {r : Rt} (h : PlacesP n r) : r.2.length ≤ n := nodup_bound n r.2 h.2.2 h.2.1
def sp_are_apart : SpW := fun ws mu Q => ∃ (n : Nat) (cs : List (Int × Int)) (rs : List Rt), ws = [webW n cs, thW (true, rs)] ∧ Web n cs ∧ rs.length ≤ 10000 ∧ (∀ r ∈ rs, PlacesP n r) ∧ ∀ b, (b = true ↔ rs.Pairwise (ApartP cs)) → Q (.bl b) mu
theorem pre_len {n : Nat} {cs : List (Int × Int)} (hn : n ≤ 32) : ∀ {rs : List Rt}, (∀ r ∈ rs, PlacesP n r) → (rs.flatMap fun r => unl cs r.2).length ≤ rs.length * 1024
  | [], _ => Nat.zero_le _
  | r :: rs, h => by
    rw [List.flatMap_cons, List.length_append, List.length_cons, Nat.succ_mul, Nat.add_comm]
    refine Nat.add_le_add (pre_len hn fun q hq => h q (List.mem_cons_of_mem _ hq)) ?_
    have h1 := places_len (h r List.mem_cons_self)
    refine Nat.le_trans (unl_len cs r.2) ?_
    exact Nat.mul_le_mul (show r.2.length ≤ 32 by omega) (show r.2.length ≤ 32 by omega)
theorem ok_are_apart (F : Fe) (h1 : F.fn "unlike_pairs" = sp_unlike_pairs) : ∀ ws mu Q, sp_are_apart ws mu Q → ws.length = 2 ∧ (b_are_apart).wp F (endR Q) (startW n_are_apart ws) mu := by
  rintro ws mu Q ⟨n, cs, rs, rfl, hW, hz, hp, hq⟩
  refine ⟨rfl, ?_⟩
  show (b_are_apart).wp F (endR Q) [some (webW n cs), some (.tup (rs.map rtW)), none, none, none] mu
  have hiff := apart_iff hW hp
  have hlen := pre_len (cs := cs) hW.le hp
  simp only [SL.wp, S.wp, E.wp, C.wp, EL.wp, CO.wp, EO.wp, T.wp, TL.wp, I.wp, getS0, getSs, Cn.w, List.set_cons_zero, List.set_cons_succ, wipeW, Bool.false_eq_true, if_false, if_true, tl2, lt_ii, le_ii, gt_ii, ge_ii, eq_ii, eq_ss, int_i, ne_ii, ne_bb, eq_bb, add_ii, sub_ii, mod_ii, add_tt, add_ll, optQ_s, decide_eq_true_eq, Bool.not_eq_true', decide_eq_false_iff_not, Bool.not_true, Bool.not_false, Bool.true_eq_false, not_true_eq_false, not_false_eq_true, b_are_apart]
  show ∀ q, mu q = none → _
  intro q hq0
  simp only [SL.wp, S.wp, E.wp, C.wp, EL.wp, CO.wp, EO.wp, T.wp, TL.wp, I.wp, getS0, getSs, Cn.w, List.set_cons_zero, List.set_cons_succ, wipeW, Bool.false_eq_true, if_false, if_true, tl2, lt_ii, le_ii, gt_ii, ge_ii, eq_ii, eq_ss, int_i, ne_ii, ne_bb, eq_bb, add_ii, sub_ii, mod_ii, add_tt, add_ll, optQ_s, decide_eq_true_eq, Bool.not_eq_true', decide_eq_false_iff_not, Bool.not_true, Bool.not_false, Bool.true_eq_false, not_true_eq_false, not_false_eq_true, b_are_apart_1]
  refine forW_inv (fun i t m => (∃ x y, t = [some (webW n cs), some (.tup (rs.map rtW)), some (.ref q), x, y]) ∧ m = sett mu q (.dct true (((rs.take i).flatMap fun r => unl cs r.2).map trueP)) ∧ ((rs.take i).flatMap fun r => unl cs r.2).Nodup) ⟨⟨_, _, rfl⟩, by simp, by simp⟩ (fun _ _ _ _ _ => True.intro) ?_ ?_
  · rintro i w t m R hw ⟨⟨x, y, rfl⟩, rfl, hnd⟩ k
    rw [List.getElem?_map] at hw
    cases er : rs[i]? with
    | none => rw [er] at hw; cases hw
    | some r =>
      rw [er] at hw; cases hw
      have hr := hp r (List.mem_of_getElem? er)
      obtain ⟨b, l⟩ := r
      have hl : l.length ≤ n := places_len hr
      obtain ⟨rfl, hin, hln⟩ : b = true ∧ (∀ x ∈ l, 0 ≤ x ∧ x < (n : Int)) ∧ l.Nodup := hr
      have hsplit : rs.flatMap (fun r => unl cs r.2) = (rs.take i).flatMap (fun r => unl cs r.2) ++ (unl cs l ++ (rs.drop (i + 1)).flatMap fun r => unl cs r.2) := by
        have e : rs = rs.take i ++ ((true, l) :: rs.drop (i + 1)) := by
          obtain ⟨hi, e⟩ := List.getElem?_eq_some_iff.mp er
          rw [← e, ← List.drop_eq_getElem_cons hi, List.take_append_drop]
        conv => lhs; rw [e]
        rw [List.flatMap_append, List.flatMap_cons]
      have etake : rs.take (i + 1) = rs.take i ++ [(true, l)] := by rw [List.take_add_one, er]; rfl
      simp only [SL.wp, S.wp, E.wp, C.wp, EL.wp, CO.wp, EO.wp, T.wp, TL.wp, I.wp, getS0, getSs, Cn.w, List.set_cons_zero, List.set_cons_succ, wipeW, Bool.false_eq_true, if_false, if_true, tl2, lt_ii, le_ii, gt_ii, ge_ii, eq_ii, eq_ss, int_i, ne_ii, ne_bb, eq_bb, add_ii, sub_ii, mod_ii, add_tt, add_ll, optQ_s, decide_eq_true_eq, Bool.not_eq_true', decide_eq_false_iff_not, Bool.not_true, Bool.not_false, Bool.true_eq_false, not_true_eq_false, not_false_eq_true, b_are_apart_1b0, h1]
      refine ⟨n, cs, l, rfl, hW, by have := hW.le; omega, ?_⟩
      generalize epre : (rs.take i).flatMap (fun r => unl cs r.2) = pre at hnd hsplit
      show forW _ _ .free _ ((unl cs l).map pairW) _ _
      refine forW_inv (fun j t m => (∃ y, t = [some (webW n cs), some (.tup (rs.map rtW)), some (.ref q), some (.tup (l.map FF.W.int)), y]) ∧ m = sett mu q (.dct true ((pre ++ (unl cs l).take j).map trueP)) ∧ (pre ++ (unl cs l).take j).Nodup) ⟨⟨_, rfl⟩, by simp, by simpa using hnd⟩ (fun _ _ _ _ _ => True.intro) ?_ ?_
      · rintro j w t m R2 hw ⟨⟨y, rfl⟩, rfl, hnd2⟩ k2
        rw [List.getElem?_map] at hw
        cases ec : (unl cs l)[j]? with
        | none => rw [ec] at hw; cases hw
        | some c =>
          rw [ec] at hw; cases hw
          have et : (unl cs l).take (j + 1) = (unl cs l).take j ++ [c] := by rw [List.take_add_one, ec]; rfl
          simp only [SL.wp, S.wp, E.wp, C.wp, EL.wp, CO.wp, EO.wp, T.wp, TL.wp, I.wp, getS0, getSs, Cn.w, List.set_cons_zero, List.set_cons_succ, wipeW, Bool.false_eq_true, if_false, if_true, tl2, lt_ii, le_ii, gt_ii, ge_ii, eq_ii, eq_ss, int_i, ne_ii, ne_bb, eq_bb, add_ii, sub_ii, mod_ii, add_tt, add_ll, optQ_s, decide_eq_true_eq, Bool.not_eq_true', decide_eq_false_iff_not, Bool.not_true, Bool.not_false, Bool.true_eq_false, not_true_eq_false, not_false_eq_true, b_are_apart_1b0b0]
          refine cin_d (i := c.1) (k := c.2) sett_same (tset_map _) ?_
          by_cases hc : c ∈ pre ++ (unl cs l).take j
          · simp only [SL.wp, S.wp, E.wp, C.wp, EL.wp, CO.wp, EO.wp, T.wp, TL.wp, I.wp, getS0, getSs, Cn.w, List.set_cons_zero, List.set_cons_succ, wipeW, Bool.false_eq_true, if_false, if_true, tl2, lt_ii, le_ii, gt_ii, ge_ii, eq_ii, eq_ss, int_i, ne_ii, ne_bb, eq_bb, add_ii, sub_ii, mod_ii, add_tt, add_ll, optQ_s, decide_eq_true_eq, Bool.not_eq_true', decide_eq_false_iff_not, Bool.not_true, Bool.not_false, Bool.true_eq_false, not_true_eq_false, not_false_eq_true]
            rw [if_pos hc]
            simp only [SL.wp, S.wp, E.wp, C.wp, EL.wp, CO.wp, EO.wp, T.wp, TL.wp, I.wp, getS0, getSs, Cn.w, List.set_cons_zero, List.set_cons_succ, wipeW, Bool.false_eq_true, if_false, if_true, tl2, lt_ii, le_ii, gt_ii, ge_ii, eq_ii, eq_ss, int_i, ne_ii, ne_bb, eq_bb, add_ii, sub_ii, mod_ii, add_tt, add_ll, optQ_s, decide_eq_true_eq, Bool.not_eq_true', decide_eq_false_iff_not, Bool.not_true, Bool.not_false, Bool.true_eq_false, not_true_eq_false, not_false_eq_true, b_are_apart_1b0b0t0]
            refine ret_go ((Sub.refl mu).sett hq0) (hq false ⟨fun z => Bool.noConfusion z, fun z => ?_⟩)
            have hall := hiff.mpr z
            rw [hsplit] at hall
            have hsub : (pre ++ (unl cs l).take (j + 1)).Sublist (pre ++ (unl cs l ++ (rs.drop (i + 1)).flatMap fun r => unl cs r.2)) :=
              List.Sublist.append (List.Sublist.refl _) ((List.take_sublist _ _).trans (List.sublist_append_left _ _))
            have h3 := hall.sublist hsub
            rw [et, ← List.append_assoc] at h3
            have h4 := (List.nodup_append.mp h3).2.2 c hc c (List.mem_singleton.mpr rfl)
            exact absurd rfl h4
          · simp only [SL.wp, S.wp, E.wp, C.wp, EL.wp, CO.wp, EO.wp, T.wp, TL.wp, I.wp, getS0, getSs, Cn.w, List.set_cons_zero, List.set_cons_succ, wipeW, Bool.false_eq_true, if_false, if_true, tl2, lt_ii, le_ii, gt_ii, ge_ii, eq_ii, eq_ss, int_i, ne_ii, ne_bb, eq_bb, add_ii, sub_ii, mod_ii, add_tt, add_ll, optQ_s, decide_eq_true_eq, Bool.not_eq_true', decide_eq_false_iff_not, Bool.not_true, Bool.not_false, Bool.true_eq_false, not_true_eq_false, not_false_eq_true]
            rw [if_neg hc]
            simp only [SL.wp, S.wp, E.wp, C.wp, EL.wp, CO.wp, EO.wp, T.wp, TL.wp, I.wp, getS0, getSs, Cn.w, List.set_cons_zero, List.set_cons_succ, wipeW, Bool.false_eq_true, if_false, if_true, tl2, lt_ii, le_ii, gt_ii, ge_ii, eq_ii, eq_ss, int_i, ne_ii, ne_bb, eq_bb, add_ii, sub_ii, mod_ii, add_tt, add_ll, optQ_s, decide_eq_true_eq, Bool.not_eq_true', decide_eq_false_iff_not, Bool.not_true, Bool.not_false, Bool.true_eq_false, not_true_eq_false, not_false_eq_true, b_are_apart_1b0b1]
            refine set_d sett_same (dk_pair c) rfl ?_ ?_
            · rw [List.length_map, List.length_append, List.length_take, sizeLine_eq]
              rw [hsplit, List.length_append, List.length_append] at hlen
              omega
            · rw [dput_new hc, sett_sett, List.append_assoc, ← et]
              refine k2 _ _ ⟨⟨_, rfl⟩, rfl, ?_⟩
              rw [et, ← List.append_assoc]
              refine List.nodup_append.mpr ⟨hnd2, by simp, fun a ha b hb z => hc ?_⟩
              rw [List.mem_singleton] at hb
              rw [← hb, ← z]; exact ha
      · rintro t m ⟨⟨y, rfl⟩, rfl, hnd2⟩
        rw [List.length_map, List.take_length] at *
        refine k _ _ ⟨⟨_, _, rfl⟩, ?_, ?_⟩
        · rw [etake, List.flatMap_append, epre, List.flatMap_singleton]
        · rw [etake, List.flatMap_append, epre, List.flatMap_singleton]; exact hnd2
  · rintro t m ⟨⟨x, y, rfl⟩, rfl, hnd⟩
    rw [List.length_map, List.take_length] at hnd
    simp only [SL.wp, S.wp, E.wp, C.wp, EL.wp, CO.wp, EO.wp, T.wp, TL.wp, I.wp, getS0, getSs, Cn.w, List.set_cons_zero, List.set_cons_succ, wipeW, Bool.false_eq_true, if_false, if_true, tl2, lt_ii, le_ii, gt_ii, ge_ii, eq_ii, eq_ss, int_i, ne_ii, ne_bb, eq_bb, add_ii, sub_ii, mod_ii, add_tt, add_ll, optQ_s, decide_eq_true_eq, Bool.not_eq_true', decide_eq_false_iff_not, Bool.not_true, Bool.not_false, Bool.true_eq_false, not_true_eq_false, not_false_eq_true, b_are_apart_2]
    exact ret_go ((Sub.refl mu).sett hq0) (hq true ⟨fun _ => hiff.mp hnd, fun _ => rfl⟩)
end FF

/-! shown_by_rings, shown_by. -/
namespace FF
open PySem PySem.Spec PyProof.Rows L2
def invRt : W → Rt
  | .tup ws => (true, ws.map intV)
  | .lst ws => (false, ws.map intV)
  | _ => (false, [])
theorem inv_ints (l : List Int) : (l.map W.int).map intV = l := by
  rw [List.map_map]
  exact (List.map_congr_left (fun x _ => rfl)).trans (List.map_id l)
theorem inv_rt (r : Rt) : invRt (rtW r) = r := by
  obtain ⟨b, l⟩ := r
  cases b
  · show (false, (l.map W.int).map intV) = _
    rw [inv_ints]
  · show (true, (l.map W.int).map intV) = _
    rw [inv_ints]
open Classical in
noncomputable def ringB (n : Nat) (cs : List (Int × Int)) (r : Rt) : Bool := decide (RingP n cs r)
theorem ringB_iff {n : Nat} {cs : List (Int × Int)} {r : Rt} : ringB n cs r = true ↔ RingP n cs r := by unfold ringB; exact @decide_eq_true_iff _ (Classical.propDecidable _)
theorem bls_map {α : Type} (f : α → Bool) (l : List α) : blsOf (l.map fun x => W.bl (f x)) = some (l.map f) := by
  have := blsOf_map (l.map f)
  rw [List.map_map] at this
  exact this
theorem ints_map {α : Type} (f : α → Int) (l : List α) : intsOf (l.map fun x => W.int (f x)) = some (l.map f) := by
  have := intsOf_map (l.map f)
  rw [List.map_map] at this
  exact this
theorem take_rts {l : List Rt} {w : W} (h : w ∈ l.map rtW) : ∃ r, w = rtW r ∧ r ∈ l := by
  obtain ⟨i, hi, e⟩ := List.mem_map.mp h
  exact ⟨i, e.symm, hi⟩
theorem len_rt {r : Rt} {mu : Mu} {Q : QW} (h : Q (.int r.2.length) mu) : bifR .len [rtW r] mu Q := by
  obtain ⟨b, l⟩ := r
  cases b
  · show Q (.int ((l.map W.int).length : Nat)) mu
    rw [List.length_map]; exact h
  · show Q (.int ((l.map W.int).length : Nat)) mu
    rw [List.length_map]; exact h
theorem shown_yes {n : Nat} {cs : List (Int × Int)} {th : Bool × List Rt} (h : ShownP n cs th) : shownV n cs th = .int (fillsOf th.2) := by unfold shownV; exact if_pos h
theorem shown_no {n : Nat} {cs : List (Int × Int)} {th : Bool × List Rt} (h : ¬ShownP n cs th) : shownV n cs th = .non := by unfold shownV; exact if_neg h
def sp_shown_by_rings : SpW := fun ws mu Q => ∃ (n : Nat) (cs : List (Int × Int)) (th : Bool × List Rt), ws = [webW n cs, thW th] ∧ Web n cs ∧ th.2.length ≤ 10000 ∧ (∀ r ∈ th.2, r.2.length ≤ 1000) ∧ Q (shownV n cs th) mu
theorem ok_shown_by_rings (F : Fe) (h1 : F.fn "is_ring" = sp_is_ring) (h2 : F.fn "are_apart" = sp_are_apart) : ∀ ws mu Q, sp_shown_by_rings ws mu Q → ws.length = 2 ∧ (b_shown_by_rings).wp F (endR Q) (startW n_shown_by_rings ws) mu := by
  rintro ws mu Q ⟨n, cs, th, rfl, hW, hz, hzr, hq⟩
  refine ⟨rfl, ?_⟩
  show (b_shown_by_rings).wp F (endR Q) [some (webW n cs), some (thW th), none, none] mu
  simp only [SL.wp, S.wp, E.wp, C.wp, EL.wp, CO.wp, EO.wp, T.wp, TL.wp, I.wp, getS0, getSs, Cn.w, List.set_cons_zero, List.set_cons_succ, wipeW, Bool.false_eq_true, if_false, if_true, tl2, lt_ii, le_ii, gt_ii, ge_ii, eq_ii, eq_ss, int_i, ne_ii, ne_bb, eq_bb, add_ii, sub_ii, mod_ii, add_tt, add_ll, optQ_s, decide_eq_true_eq, Bool.not_eq_true', decide_eq_false_iff_not, Bool.not_true, Bool.not_false, Bool.true_eq_false, not_true_eq_false, not_false_eq_true, b_shown_by_rings, h1, h2]
  refine isi_tuple (tyd_th th) ?_
  rw [tup_th]
  obtain ⟨b, rs⟩ := th
  cases b with
  | false =>
    simp only [SL.wp, S.wp, E.wp, C.wp, EL.wp, CO.wp, EO.wp, T.wp, TL.wp, I.wp, getS0, getSs, Cn.w, List.set_cons_zero, List.set_cons_succ, wipeW, Bool.false_eq_true, if_false, if_true, tl2, lt_ii, le_ii, gt_ii, ge_ii, eq_ii, eq_ss, int_i, ne_ii, ne_bb, eq_bb, add_ii, sub_ii, mod_ii, add_tt, add_ll, optQ_s, decide_eq_true_eq, Bool.not_eq_true', decide_eq_false_iff_not, Bool.not_true, Bool.not_false, Bool.true_eq_false, not_true_eq_false, not_false_eq_true, b_shown_by_rings_0t0]
    rw [shown_no (fun z => Bool.noConfusion z.1)] at hq
    exact ret_same hq
  | true =>
    simp only [SL.wp, S.wp, E.wp, C.wp, EL.wp, CO.wp, EO.wp, T.wp, TL.wp, I.wp, getS0, getSs, Cn.w, List.set_cons_zero, List.set_cons_succ, wipeW, Bool.false_eq_true, if_false, if_true, tl2, lt_ii, le_ii, gt_ii, ge_ii, eq_ii, eq_ss, int_i, ne_ii, ne_bb, eq_bb, add_ii, sub_ii, mod_ii, add_tt, add_ll, optQ_s, decide_eq_true_eq, Bool.not_eq_true', decide_eq_false_iff_not, Bool.not_true, Bool.not_false, Bool.true_eq_false, not_true_eq_false, not_false_eq_true]
    show ∀ p, mu p = none → _
    intro p hp
    simp only at hz hzr
    refine comp_m hp (fun w => .bl (ringB n cs (invRt w))) (by rw [List.length_map]; exact le_sz (by omega)) .free True.intro ?_ ?_
    · intro w m G hw _ k
      obtain ⟨r, rfl, hr⟩ := take_rts hw
      simp only [SL.wp, S.wp, E.wp, C.wp, EL.wp, CO.wp, EO.wp, T.wp, TL.wp, I.wp, getS0, getSs, Cn.w, List.set_cons_zero, List.set_cons_succ, wipeW, Bool.false_eq_true, if_false, if_true, tl2, lt_ii, le_ii, gt_ii, ge_ii, eq_ii, eq_ss, int_i, ne_ii, ne_bb, eq_bb, add_ii, sub_ii, mod_ii, add_tt, add_ll, optQ_s, decide_eq_true_eq, Bool.not_eq_true', decide_eq_false_iff_not, Bool.not_true, Bool.not_false, Bool.true_eq_false, not_true_eq_false, not_false_eq_true]
      refine ⟨n, cs, r, rfl, hW, hzr r hr, fun b hb => ?_⟩
      simp only [inv_rt] at k
      have : b = ringB n cs r := by rw [Bool.eq_iff_iff, hb, ringB_iff]
      rw [this]; exact k
    · rw [dell_sett hp, List.map_map]
      have e : (fun w => FF.W.bl (ringB n cs (invRt w))) ∘ rtW = fun r => FF.W.bl (ringB n cs r) := by funext r; simp only [Function.comp, inv_rt]
      rw [e]
      refine ⟨_, _, rfl, bls_map _ _, ?_⟩
      simp only [SL.wp, S.wp, E.wp, C.wp, EL.wp, CO.wp, EO.wp, T.wp, TL.wp, I.wp, getS0, getSs, Cn.w, List.set_cons_zero, List.set_cons_succ, wipeW, Bool.false_eq_true, if_false, if_true, tl2, lt_ii, le_ii, gt_ii, ge_ii, eq_ii, eq_ss, int_i, ne_ii, ne_bb, eq_bb, add_ii, sub_ii, mod_ii, add_tt, add_ll, optQ_s, decide_eq_true_eq, Bool.not_eq_true', decide_eq_false_iff_not, Bool.not_true, Bool.not_false, Bool.true_eq_false, not_true_eq_false, not_false_eq_true]
      by_cases hall : (rs.map (ringB n cs)).all id = true
      · rw [if_neg (by rw [hall]; decide)]
        have hall' : ∀ r ∈ rs, RingP n cs r := by
          intro r hr
          rw [List.all_map, List.all_eq_true] at hall
          exact ringB_iff.mp (hall r hr)
        refine ⟨n, cs, rs, rfl, hW, hz, fun r hr => (hall' r hr).1, fun b hb => ?_⟩
        cases b with
        | false =>
          simp only [SL.wp, S.wp, E.wp, C.wp, EL.wp, CO.wp, EO.wp, T.wp, TL.wp, I.wp, getS0, getSs, Cn.w, List.set_cons_zero, List.set_cons_succ, wipeW, Bool.false_eq_true, if_false, if_true, tl2, lt_ii, le_ii, gt_ii, ge_ii, eq_ii, eq_ss, int_i, ne_ii, ne_bb, eq_bb, add_ii, sub_ii, mod_ii, add_tt, add_ll, optQ_s, decide_eq_true_eq, Bool.not_eq_true', decide_eq_false_iff_not, Bool.not_true, Bool.not_false, Bool.true_eq_false, not_true_eq_false, not_false_eq_true, b_shown_by_rings_0t0]
          rw [shown_no (fun z => absurd (hb.mpr z.2.2) Bool.false_ne_true)] at hq
          exact ret_same hq
        | true =>
          simp only [SL.wp, S.wp, E.wp, C.wp, EL.wp, CO.wp, EO.wp, T.wp, TL.wp, I.wp, getS0, getSs, Cn.w, List.set_cons_zero, List.set_cons_succ, wipeW, Bool.false_eq_true, if_false, if_true, tl2, lt_ii, le_ii, gt_ii, ge_ii, eq_ii, eq_ss, int_i, ne_ii, ne_bb, eq_bb, add_ii, sub_ii, mod_ii, add_tt, add_ll, optQ_s, decide_eq_true_eq, Bool.not_eq_true', decide_eq_false_iff_not, Bool.not_true, Bool.not_false, Bool.true_eq_false, not_true_eq_false, not_false_eq_true, b_shown_by_rings_1]
          rw [shown_yes ⟨rfl, hall', hb.mp rfl⟩] at hq
          show ∀ p, mu p = none → _
          intro p hp
          refine comp_m hp (fun w => .int ((invRt w).2.length - 3)) (by rw [List.length_map]; exact le_sz (by omega)) .free True.intro ?_ ?_
          · intro w m G hw _ k
            obtain ⟨r, rfl, hr⟩ := take_rts hw
            simp only [SL.wp, S.wp, E.wp, C.wp, EL.wp, CO.wp, EO.wp, T.wp, TL.wp, I.wp, getS0, getSs, Cn.w, List.set_cons_zero, List.set_cons_succ, wipeW, Bool.false_eq_true, if_false, if_true, tl2, lt_ii, le_ii, gt_ii, ge_ii, eq_ii, eq_ss, int_i, ne_ii, ne_bb, eq_bb, add_ii, sub_ii, mod_ii, add_tt, add_ll, optQ_s, decide_eq_true_eq, Bool.not_eq_true', decide_eq_false_iff_not, Bool.not_true, Bool.not_false, Bool.true_eq_false, not_true_eq_false, not_false_eq_true]
            refine len_rt ?_
            simp only [inv_rt] at k
            exact k
          · rw [dell_sett hp, List.map_map]
            have e : (fun w => FF.W.int (((invRt w).2.length : Nat) - 3)) ∘ rtW = fun (r : Rt) => FF.W.int ((r.2.length : Int) - 3) := by funext r; simp only [Function.comp, inv_rt]
            rw [e]
            exact ⟨_, _, rfl, ints_map _ _, ret_same hq⟩
      · rw [if_pos (Bool.eq_false_iff.mpr hall)]
        simp only [SL.wp, S.wp, E.wp, C.wp, EL.wp, CO.wp, EO.wp, T.wp, TL.wp, I.wp, getS0, getSs, Cn.w, List.set_cons_zero, List.set_cons_succ, wipeW, Bool.false_eq_true, if_false, if_true, tl2, lt_ii, le_ii, gt_ii, ge_ii, eq_ii, eq_ss, int_i, ne_ii, ne_bb, eq_bb, add_ii, sub_ii, mod_ii, add_tt, add_ll, optQ_s, decide_eq_true_eq, Bool.not_eq_true', decide_eq_false_iff_not, Bool.not_true, Bool.not_false, Bool.true_eq_false, not_true_eq_false, not_false_eq_true, b_shown_by_rings_0t0]
        rw [shown_no (fun z => hall ?_)] at hq
        · exact ret_same hq
        · rw [List.all_map, List.all_eq_true]
          intro r hr
          exact ringB_iff.mpr (z.2.1 r hr)
/-- a paper of rings -/
def papW (th : Bool × List Rt) : W := .tup [.str "rings", thW th]
def sp_shown_by : SpW := fun ws mu Q => ∃ (n : Nat) (cs : List (Int × Int)) (th : Bool × List Rt), ws = [webW n cs, papW th] ∧ Web n cs ∧ th.2.length ≤ 10000 ∧ (∀ r ∈ th.2, r.2.length ≤ 1000) ∧ Q (shownV n cs th) mu
theorem ok_shown_by (F : Fe) (h1 : F.fn "shown_by_rings" = sp_shown_by_rings) : ∀ ws mu Q, sp_shown_by ws mu Q → ws.length = 2 ∧ (b_shown_by).wp F (endR Q) (startW n_shown_by ws) mu := by
  rintro ws mu Q ⟨n, cs, th, rfl, hW, hz, hzr, hq⟩
  refine ⟨rfl, ?_⟩
  show (b_shown_by).wp F (endR Q) [some (webW n cs), some (papW th), none, none] mu
  simp only [SL.wp, S.wp, E.wp, C.wp, EL.wp, CO.wp, EO.wp, T.wp, TL.wp, I.wp, getS0, getSs, Cn.w, List.set_cons_zero, List.set_cons_succ, wipeW, Bool.false_eq_true, if_false, if_true, tl2, lt_ii, le_ii, gt_ii, ge_ii, eq_ii, eq_ss, int_i, ne_ii, ne_bb, eq_bb, add_ii, sub_ii, mod_ii, add_tt, add_ll, optQ_s, decide_eq_true_eq, Bool.not_eq_true', decide_eq_false_iff_not, Bool.not_true, Bool.not_false, Bool.true_eq_false, not_true_eq_false, not_false_eq_true, b_shown_by, h1]
  refine isi_tuple (w := papW th) rfl ?_
  simp only [SL.wp, S.wp, E.wp, C.wp, EL.wp, CO.wp, EO.wp, T.wp, TL.wp, I.wp, getS0, getSs, Cn.w, List.set_cons_zero, List.set_cons_succ, wipeW, Bool.false_eq_true, if_false, if_true, tl2, lt_ii, le_ii, gt_ii, ge_ii, eq_ii, eq_ss, int_i, ne_ii, ne_bb, eq_bb, add_ii, sub_ii, mod_ii, add_tt, add_ll, optQ_s, decide_eq_true_eq, Bool.not_eq_true', decide_eq_false_iff_not, Bool.not_true, Bool.not_false, Bool.true_eq_false, not_true_eq_false, not_false_eq_true, isTupW, papW]
  refine len_tup ?_
  simp only [SL.wp, S.wp, E.wp, C.wp, EL.wp, CO.wp, EO.wp, T.wp, TL.wp, I.wp, getS0, getSs, Cn.w, List.set_cons_zero, List.set_cons_succ, wipeW, Bool.false_eq_true, if_false, if_true, tl2, lt_ii, le_ii, gt_ii, ge_ii, eq_ii, eq_ss, int_i, ne_ii, ne_bb, eq_bb, add_ii, sub_ii, mod_ii, add_tt, add_ll, optQ_s, decide_eq_true_eq, Bool.not_eq_true', decide_eq_false_iff_not, Bool.not_true, Bool.not_false, Bool.true_eq_false, not_true_eq_false, not_false_eq_true]
  rw [if_neg (by simp)]
  refine idx_tup (w := .str "rings") rfl (isi_str (w := .str "rings") rfl ?_)
  simp only [SL.wp, S.wp, E.wp, C.wp, EL.wp, CO.wp, EO.wp, T.wp, TL.wp, I.wp, getS0, getSs, Cn.w, List.set_cons_zero, List.set_cons_succ, wipeW, Bool.false_eq_true, if_false, if_true, tl2, lt_ii, le_ii, gt_ii, ge_ii, eq_ii, eq_ss, int_i, ne_ii, ne_bb, eq_bb, add_ii, sub_ii, mod_ii, add_tt, add_ll, optQ_s, decide_eq_true_eq, Bool.not_eq_true', decide_eq_false_iff_not, Bool.not_true, Bool.not_false, Bool.true_eq_false, not_true_eq_false, not_false_eq_true, isStrW]
  simp only [SL.wp, S.wp, E.wp, C.wp, EL.wp, CO.wp, EO.wp, T.wp, TL.wp, I.wp, getS0, getSs, Cn.w, List.set_cons_zero, List.set_cons_succ, wipeW, Bool.false_eq_true, if_false, if_true, tl2, lt_ii, le_ii, gt_ii, ge_ii, eq_ii, eq_ss, int_i, ne_ii, ne_bb, eq_bb, add_ii, sub_ii, mod_ii, add_tt, add_ll, optQ_s, decide_eq_true_eq, Bool.not_eq_true', decide_eq_false_iff_not, Bool.not_true, Bool.not_false, Bool.true_eq_false, not_true_eq_false, not_false_eq_true, b_shown_by_1]
  refine idx_tup (w := .str "rings") rfl ?_
  simp only [SL.wp, S.wp, E.wp, C.wp, EL.wp, CO.wp, EO.wp, T.wp, TL.wp, I.wp, getS0, getSs, Cn.w, List.set_cons_zero, List.set_cons_succ, wipeW, Bool.false_eq_true, if_false, if_true, tl2, lt_ii, le_ii, gt_ii, ge_ii, eq_ii, eq_ss, int_i, ne_ii, ne_bb, eq_bb, add_ii, sub_ii, mod_ii, add_tt, add_ll, optQ_s, decide_eq_true_eq, Bool.not_eq_true', decide_eq_false_iff_not, Bool.not_true, Bool.not_false, Bool.true_eq_false, not_true_eq_false, not_false_eq_true]
  refine len_tup ?_
  simp only [SL.wp, S.wp, E.wp, C.wp, EL.wp, CO.wp, EO.wp, T.wp, TL.wp, I.wp, getS0, getSs, Cn.w, List.set_cons_zero, List.set_cons_succ, wipeW, Bool.false_eq_true, if_false, if_true, tl2, lt_ii, le_ii, gt_ii, ge_ii, eq_ii, eq_ss, int_i, ne_ii, ne_bb, eq_bb, add_ii, sub_ii, mod_ii, add_tt, add_ll, optQ_s, decide_eq_true_eq, Bool.not_eq_true', decide_eq_false_iff_not, Bool.not_true, Bool.not_false, Bool.true_eq_false, not_true_eq_false, not_false_eq_true]
  rw [if_pos (by simp)]
  simp only [SL.wp, S.wp, E.wp, C.wp, EL.wp, CO.wp, EO.wp, T.wp, TL.wp, I.wp, getS0, getSs, Cn.w, List.set_cons_zero, List.set_cons_succ, wipeW, Bool.false_eq_true, if_false, if_true, tl2, lt_ii, le_ii, gt_ii, ge_ii, eq_ii, eq_ss, int_i, ne_ii, ne_bb, eq_bb, add_ii, sub_ii, mod_ii, add_tt, add_ll, optQ_s, decide_eq_true_eq, Bool.not_eq_true', decide_eq_false_iff_not, Bool.not_true, Bool.not_false, Bool.true_eq_false, not_true_eq_false, not_false_eq_true, b_shown_by_1t0, h1]
  refine idx_tup (w := thW th) rfl ?_
  exact ⟨n, cs, th, rfl, hW, hz, hzr, ret_same hq⟩
end FF

/-! The law's own hand: places, who is near. -/
namespace FF
open PySem PySem.Spec PyProof.Rows L2
theorem cnt_tI {l : List Int} {k : Int} {mu : Mu} {Q : QW} (h : Q (.int (l.count k : Nat)) mu) : mthR .count (.tup (l.map W.int)) [.int k] mu Q := ⟨l, intsOf_map l, h⟩
theorem ne_nilI {l : List Int} {mu : Mu} {Q : QW} (h : Q (.bl (!decide (l = []))) mu) : cmpR .NotEq (.lst (l.map W.int)) (.lst []) mu Q := eq_nilI (Q := fun b => Q (.bl (!b)) mu) h
theorem eq_nilI' {l : List Int} {mu : Mu} {Q : QW} (h : Q (.bl (decide (l = []))) mu) : cmpR .Eq (.lst (l.map W.int)) (.lst []) mu Q := eq_nilI (Q := fun b => Q (.bl b) mu) h
theorem filt_int (c : W → Bool) (l : List Int) : ((l.map W.int).filter c).map id = (l.filter fun i => c (.int i)).map W.int := by
  rw [List.map_id, List.filter_map]; rfl
theorem count_le1 {l : List Int} : l.Nodup ↔ ∀ x ∈ l, ¬ l.count x > 1 := by
  rw [List.nodup_iff_count]
  exact ⟨fun h x _ => by have := h x; omega, fun h x => by
    by_cases hx : x ∈ l
    · have := h x hx; omega
    · rw [List.count_eq_zero_of_not_mem hx]; omega⟩
theorem ok_law_are_places (F : Fe) (hF : F.fn "_law_whole" = sp_is_whole) : ∀ ws mu Q, sp_are_places ws mu Q → ws.length = 2 ∧ (b_law_are_places).wp F (endR Q) (startW n_law_are_places ws) mu := by
  rintro ws mu Q ⟨n, r, rfl, hz, hq⟩
  refine ⟨rfl, ?_⟩
  show (b_law_are_places).wp F (endR Q) [some (.int n), some (rtW r), none] mu
  simp only [SL.wp, S.wp, E.wp, C.wp, EL.wp, CO.wp, EO.wp, T.wp, TL.wp, I.wp, getS0, getSs, Cn.w, List.set_cons_zero, List.set_cons_succ, wipeW, Bool.false_eq_true, if_false, if_true, tl2, lt_ii, le_ii, gt_ii, ge_ii, eq_ii, eq_ss, int_i, ne_ii, ne_bb, eq_bb, add_ii, sub_ii, mod_ii, add_tt, add_ll, optQ_s, decide_eq_true_eq, Bool.not_eq_true', decide_eq_false_iff_not, Bool.not_true, Bool.not_false, Bool.true_eq_false, not_true_eq_false, not_false_eq_true, b_law_are_places, hF]
  refine isi_tuple (tyd_rt r) ?_
  rw [tup_rt]
  obtain ⟨b, l⟩ := r
  cases b with
  | false =>
    simp only [SL.wp, S.wp, E.wp, C.wp, EL.wp, CO.wp, EO.wp, T.wp, TL.wp, I.wp, getS0, getSs, Cn.w, List.set_cons_zero, List.set_cons_succ, wipeW, Bool.false_eq_true, if_false, if_true, tl2, lt_ii, le_ii, gt_ii, ge_ii, eq_ii, eq_ss, int_i, ne_ii, ne_bb, eq_bb, add_ii, sub_ii, mod_ii, add_tt, add_ll, optQ_s, decide_eq_true_eq, Bool.not_eq_true', decide_eq_false_iff_not, Bool.not_true, Bool.not_false, Bool.true_eq_false, not_true_eq_false, not_false_eq_true, b_law_are_places_0t0]
    exact ret_same (hq false ⟨fun z => Bool.noConfusion z, fun z => Bool.noConfusion z.1⟩)
  | true =>
    simp only [SL.wp, S.wp, E.wp, C.wp, EL.wp, CO.wp, EO.wp, T.wp, TL.wp, I.wp, getS0, getSs, Cn.w, List.set_cons_zero, List.set_cons_succ, wipeW, Bool.false_eq_true, if_false, if_true, tl2, lt_ii, le_ii, gt_ii, ge_ii, eq_ii, eq_ss, int_i, ne_ii, ne_bb, eq_bb, add_ii, sub_ii, mod_ii, add_tt, add_ll, optQ_s, decide_eq_true_eq, Bool.not_eq_true', decide_eq_false_iff_not, Bool.not_true, Bool.not_false, Bool.true_eq_false, not_true_eq_false, not_false_eq_true]
    simp only at hz
    show ∀ p, mu p = none → _
    intro p hp
    refine comp_p hp (fun _ => false) id (le_sz (by rw [List.length_map]; omega)) .free True.intro ?_ ?_
    · intro w m G N hw _ _ g2
      obtain ⟨i, rfl, hi⟩ := take_ints hw
      simp only [SL.wp, S.wp, E.wp, C.wp, EL.wp, CO.wp, EO.wp, T.wp, TL.wp, I.wp, getS0, getSs, Cn.w, List.set_cons_zero, List.set_cons_succ, wipeW, Bool.false_eq_true, if_false, if_true, tl2, lt_ii, le_ii, gt_ii, ge_ii, eq_ii, eq_ss, int_i, ne_ii, ne_bb, eq_bb, add_ii, sub_ii, mod_ii, add_tt, add_ll, optQ_s, decide_eq_true_eq, Bool.not_eq_true', decide_eq_false_iff_not, Bool.not_true, Bool.not_false, Bool.true_eq_false, not_true_eq_false, not_false_eq_true]
      refine ⟨_, rfl, rfl, ?_⟩
      simp only [SL.wp, S.wp, E.wp, C.wp, EL.wp, CO.wp, EO.wp, T.wp, TL.wp, I.wp, getS0, getSs, Cn.w, List.set_cons_zero, List.set_cons_succ, wipeW, Bool.false_eq_true, if_false, if_true, tl2, lt_ii, le_ii, gt_ii, ge_ii, eq_ii, eq_ss, int_i, ne_ii, ne_bb, eq_bb, add_ii, sub_ii, mod_ii, add_tt, add_ll, optQ_s, decide_eq_true_eq, Bool.not_eq_true', decide_eq_false_iff_not, Bool.not_true, Bool.not_false, Bool.true_eq_false, not_true_eq_false, not_false_eq_true, isIntW]
      exact g2 rfl
    · rw [dell_sett hp, filt_int]
      refine newL_f (Nat.zero_le _) (ne_nilI ?_)
      simp only [SL.wp, S.wp, E.wp, C.wp, EL.wp, CO.wp, EO.wp, T.wp, TL.wp, I.wp, getS0, getSs, Cn.w, List.set_cons_zero, List.set_cons_succ, wipeW, Bool.false_eq_true, if_false, if_true, tl2, lt_ii, le_ii, gt_ii, ge_ii, eq_ii, eq_ss, int_i, ne_ii, ne_bb, eq_bb, add_ii, sub_ii, mod_ii, add_tt, add_ll, optQ_s, decide_eq_true_eq, Bool.not_eq_true', decide_eq_false_iff_not, Bool.not_true, Bool.not_false, Bool.true_eq_false, not_true_eq_false, not_false_eq_true]
      rw [if_neg (by simp)]
      simp only [SL.wp, S.wp, E.wp, C.wp, EL.wp, CO.wp, EO.wp, T.wp, TL.wp, I.wp, getS0, getSs, Cn.w, List.set_cons_zero, List.set_cons_succ, wipeW, Bool.false_eq_true, if_false, if_true, tl2, lt_ii, le_ii, gt_ii, ge_ii, eq_ii, eq_ss, int_i, ne_ii, ne_bb, eq_bb, add_ii, sub_ii, mod_ii, add_tt, add_ll, optQ_s, decide_eq_true_eq, Bool.not_eq_true', decide_eq_false_iff_not, Bool.not_true, Bool.not_false, Bool.true_eq_false, not_true_eq_false, not_false_eq_true, b_law_are_places_1]
      show ∀ p, mu p = none → _
      intro p hp
      refine comp_p hp (fun w => !(decide (0 ≤ intV w) && decide (intV w < n)) || decide (l.count (intV w) > 1)) id (le_sz (by rw [List.length_map]; omega)) .free True.intro ?_ ?_
      · intro w m G N hw _ g1 g2
        obtain ⟨i, rfl, hi⟩ := take_ints hw
        have g1 : (!(decide (0 ≤ i) && decide (i < (n : Int))) || decide (l.count i > 1)) = true → G (.int i) m := g1
        have g2 : (!(decide (0 ≤ i) && decide (i < (n : Int))) || decide (l.count i > 1)) = false → N m := g2
        simp only [SL.wp, S.wp, E.wp, C.wp, EL.wp, CO.wp, EO.wp, T.wp, TL.wp, I.wp, getS0, getSs, Cn.w, List.set_cons_zero, List.set_cons_succ, wipeW, Bool.false_eq_true, if_false, if_true, tl2, lt_ii, le_ii, gt_ii, ge_ii, eq_ii, eq_ss, int_i, ne_ii, ne_bb, eq_bb, add_ii, sub_ii, mod_ii, add_tt, add_ll, optQ_s, decide_eq_true_eq, Bool.not_eq_true', decide_eq_false_iff_not, Bool.not_true, Bool.not_false, Bool.true_eq_false, not_true_eq_false, not_false_eq_true]
        refine ⟨_, rfl, ?_⟩
        by_cases h0 : (0 : Int) ≤ i
        · rw [if_pos (decide_eq_true h0)]
          rw [decide_eq_true h0, Bool.true_and] at g1 g2
          by_cases hn : i < (n : Int)
          · rw [if_neg (fun z => z hn)]
            rw [decide_eq_true hn] at g1 g2
            refine ⟨rfl, cnt_tI ?_⟩
            simp only [SL.wp, S.wp, E.wp, C.wp, EL.wp, CO.wp, EO.wp, T.wp, TL.wp, I.wp, getS0, getSs, Cn.w, List.set_cons_zero, List.set_cons_succ, wipeW, Bool.false_eq_true, if_false, if_true, tl2, lt_ii, le_ii, gt_ii, ge_ii, eq_ii, eq_ss, int_i, ne_ii, ne_bb, eq_bb, add_ii, sub_ii, mod_ii, add_tt, add_ll, optQ_s, decide_eq_true_eq, Bool.not_eq_true', decide_eq_false_iff_not, Bool.not_true, Bool.not_false, Bool.true_eq_false, not_true_eq_false, not_false_eq_true]
            by_cases hc : (1 : Int) < (l.count i : Nat)
            · rw [if_pos hc]; exact g1 (by simp; omega)
            · rw [if_neg hc]; exact g2 (by simp; omega)
          · rw [if_pos hn]
            exact g1 (by simp [hn])
        · rw [if_neg (by simpa using h0)]
          exact g1 (by simp [h0])
      · rw [dell_sett hp, filt_int]
        refine newL_f (Nat.zero_le _) (eq_nilI' ?_)
        refine ret_same (hq _ ?_)
        rw [decide_eq_true_iff]
        change (l.filter fun (i : Int) => !(decide (0 ≤ i) && decide (i < (n : Int))) || decide (l.count i > 1)) = [] ↔ _
        rw [List.filter_eq_nil_iff]
        constructor
        · intro z
          have z' : ∀ a ∈ l, (0 ≤ a ∧ a < (n : Int)) ∧ ¬ l.count a > 1 := by
            intro a ha
            have := z a ha
            simpa using this
          exact ⟨rfl, fun x hx => (z' x hx).1, count_le1.mpr fun x hx => (z' x hx).2⟩
        · rintro ⟨_, z1, z2⟩ a ha
          have h1 := z1 a ha
          have h2 : ¬ l.count a > 1 := count_le1.mp z2 a ha
          have h1 : 0 ≤ a ∧ a < (n : Int) := h1
          simp [h1.1, h1.2]
          omega
def trueI (k : Int) : W × W := (.int k, .bl true)
def putI (ns : List Int) (k : Int) : List Int := if k ∈ ns then ns else ns ++ [k]
theorem dk_int (k : Int) : dkOf (.int k) = some (.k (.inl k)) := rfl
theorem dput_I (ns : List Int) (k : Int) : dput (ns.map trueI) (.k (.inl k)) (.int k) (.bl true) = (putI ns k).map trueI := by
  have e : ((ns.map trueI).any fun p => decide (dkOf p.1 = some (.k (.inl k)))) = true ↔ k ∈ ns := by
    rw [List.any_eq_true]
    constructor
    · rintro ⟨p, hp, e⟩
      obtain ⟨q, hq, rfl⟩ := List.mem_map.mp hp
      have := of_decide_eq_true e
      have h2 : q = k := by
        have : some (DK.k (.inl q)) = some (DK.k (.inl k)) := this
        simpa using this
      rw [← h2]; exact hq
    · intro h
      exact ⟨_, List.mem_map.mpr ⟨k, h, rfl⟩, decide_eq_true rfl⟩
  unfold dput putI
  by_cases h : k ∈ ns
  · rw [if_pos (e.mpr h), if_pos h]
    conv => rhs; rw [← List.map_id (ns.map trueI)]
    refine List.map_congr_left fun p hp => ?_
    obtain ⟨q, hq, rfl⟩ := List.mem_map.mp hp
    split <;> rfl
  · rw [if_neg (fun z => h (e.mp z)), if_neg h, List.map_append]
    rfl
def nearOf (cs : List (Int × Int)) (i : Nat) : List Int := (rowOf cs i).foldl putI []
theorem putI_mem {ns : List Int} {k x : Int} : x ∈ putI ns k ↔ x ∈ ns ∨ x = k := by
  unfold putI
  split
  · rename_i h
    exact ⟨.inl, fun z => z.elim id fun z => by rw [z]; exact h⟩
  · rw [List.mem_append, List.mem_singleton]
theorem putI_nodup {ns : List Int} {k : Int} (h : ns.Nodup) : (putI ns k).Nodup := by
  unfold putI
  split
  · exact h
  · rename_i hk
    exact List.nodup_append.mpr ⟨h, by simp, fun a ha b hb z => hk (by rw [← List.mem_singleton.mp hb, ← z]; exact ha)⟩
theorem foldl_putI : ∀ (l acc : List Int), acc.Nodup → (l.foldl putI acc).Nodup ∧ ∀ x, x ∈ l.foldl putI acc ↔ x ∈ acc ∨ x ∈ l
  | [], acc, h => ⟨h, fun x => ⟨.inl, fun z => z.elim id fun z => (List.not_mem_nil z).elim⟩⟩
  | k :: l, acc, h => by
    obtain ⟨h1, h2⟩ := foldl_putI l (putI acc k) (putI_nodup h)
    refine ⟨h1, fun x => ?_⟩
    rw [List.foldl_cons, h2, putI_mem, List.mem_cons, or_assoc]
theorem nearOf_nodup (cs : List (Int × Int)) (i : Nat) : (nearOf cs i).Nodup := (foldl_putI _ _ List.nodup_nil).1
theorem nearOf_mem {cs : List (Int × Int)} {i : Nat} {k : Int} : k ∈ nearOf cs i ↔ ((i : Int), k) ∈ cs := by
  unfold nearOf
  rw [(foldl_putI _ _ List.nodup_nil).2, rowOf_mem]
  exact ⟨fun z => z.elim (fun z => (List.not_mem_nil z).elim) id, .inr⟩
theorem nearOf_snoc (cs : List (Int × Int)) (c : Int × Int) (j : Nat) : nearOf (cs ++ [c]) j = if c.1 = (j : Int) then putI (nearOf cs j) c.2 else nearOf cs j := by
  unfold nearOf
  rw [rowOf_snoc]
  split
  · rw [List.foldl_append]; rfl
  · rfl
def nearW (n : Nat) (cs : List (Int × Int)) : W := .lst ((List.range n).map fun i => W.dct false ((nearOf cs i).map trueI))
theorem near_at {n : Nat} {cs : List (Int × Int)} {i : Nat} (h : i < n) : ((List.range n).map fun i => W.dct false ((nearOf cs i).map trueI))[i]? = some (.dct false ((nearOf cs i).map trueI)) := by
  rw [List.getElem?_map, List.getElem?_range h]; rfl
theorem near_get {cs : List (Int × Int)} {i : Nat} {k : Int} : (dget ((nearOf cs i).map trueI) (.k (.inl k))).isSome = decide (((i : Int), k) ∈ cs) := by
  rw [Bool.eq_iff_iff, dget_some, decide_eq_true_iff, ← nearOf_mem]
  constructor
  · rintro ⟨p, hp, e⟩
    obtain ⟨q, hq, rfl⟩ := List.mem_map.mp hp
    have h2 : q = k := by
      have : some (DK.k (.inl q)) = some (DK.k (.inl k)) := e
      simpa using this
    rw [← h2]; exact hq
  · intro h
    exact ⟨_, List.mem_map.mpr ⟨k, h, rfl⟩, rfl⟩
theorem cin_near {cs : List (Int × Int)} {i : Nat} {k : Int} {mu : Mu} {Q : QW} (h : Q (.bl (decide (((i : Int), k) ∈ cs))) mu) : cmpR .In (.int k) (.dct false ((nearOf cs i).map trueI)) mu Q :=
  ⟨.k (.inl k), rfl, rfl, by rw [near_get]; exact h⟩
theorem nin_near {cs : List (Int × Int)} {i : Nat} {k : Int} {mu : Mu} {Q : QW} (h : Q (.bl (!decide (((i : Int), k) ∈ cs))) mu) : cmpR .NotIn (.int k) (.dct false ((nearOf cs i).map trueI)) mu Q :=
  ⟨.k (.inl k), rfl, rfl, by rw [near_get]; exact h⟩
theorem nearOf_len (cs : List (Int × Int)) (i : Nat) : (nearOf cs i).length ≤ cs.length := by
  have go : ∀ (l acc : List Int), (l.foldl putI acc).length ≤ acc.length + l.length := by
    intro l
    induction l with
    | nil => intro acc; exact Nat.le_refl _
    | cons k l ih =>
      intro acc
      rw [List.foldl_cons, List.length_cons]
      refine Nat.le_trans (ih _) ?_
      have : (putI acc k).length ≤ acc.length + 1 := by
        unfold putI
        split
        · omega
        · rw [List.length_append, List.length_singleton]; exact Nat.le_refl _
      omega
  refine Nat.le_trans (go _ _) ?_
  rw [List.length_nil, Nat.zero_add]
  unfold rowOf
  rw [List.length_map]
  exact List.length_filter_le _ _
/-- owned sets of ints at these places -/
structure NearAt (mu0 mu : Mu) (ps : List Addr) (row : Nat → List Int) : Prop where
  nd : ps.Nodup
  new : ∀ p ∈ ps, mu0 p = none
  at' : ∀ (i : Nat) p, ps[i]? = some p → mu p = some (.dct false ((row i).map trueI))
theorem NearAt.ne {mu0 mu : Mu} {ps : List Addr} {row : Nat → List Int} (h : NearAt mu0 mu ps row) {q : Addr} (hq : mu q = none) : q ∉ ps := fun z => by
  obtain ⟨i, hi, e⟩ := List.mem_iff_getElem.mp z
  have := h.at' i q (by rw [List.getElem?_eq_getElem hi, e])
  rw [hq] at this; cases this
theorem NearAt.set {mu0 mu : Mu} {ps : List Addr} {row : Nat → List Int} (h : NearAt mu0 mu ps row) {q : Addr} {o : O} (hq : q ∉ ps) : NearAt mu0 (sett mu q o) ps row :=
  ⟨h.nd, h.new, fun i p e => by rw [sett_ne (fun z => hq (by rw [← z]; exact List.mem_of_getElem? e))]; exact h.at' i p e⟩
theorem NearAt.snoc {mu0 mu : Mu} {ps : List Addr} {row : Nat → List Int} (h : NearAt mu0 mu ps row) {q : Addr} (hq : mu q = none) (h0 : mu0 q = none) (hr : row ps.length = []) : NearAt mu0 (sett mu q (.dct false [])) (ps ++ [q]) row := by
  have hn := h.ne hq
  refine ⟨List.nodup_append.mpr ⟨h.nd, by simp, fun a ha b hb => ?_⟩, fun p hp => ?_, fun i p e => ?_⟩
  · rw [List.mem_singleton] at hb
    exact fun z => hn (by rw [← hb, ← z]; exact ha)
  · rcases List.mem_append.mp hp with z | z
    · exact h.new p z
    · rw [List.mem_singleton.mp z]; exact h0
  · by_cases hi : i < ps.length
    · rw [List.getElem?_append_left hi] at e
      exact (h.set (o := .dct false []) hn).at' i p e
    · have hlt := (List.getElem?_eq_some_iff.mp e).1
      rw [List.length_append, List.length_singleton] at hlt
      have ei : i = ps.length := by omega
      subst ei
      rw [List.getElem?_append_right (Nat.le_refl _), Nat.sub_self] at e
      cases e
      rw [hr]; exact sett_same
/-- one row is written -/
theorem NearAt.upd {mu0 mu : Mu} {ps : List Addr} {row row' : Nat → List Int} (h : NearAt mu0 mu ps row) {i : Nat} {p : Addr} (hp : ps[i]? = some p) (hr : ∀ j, j ≠ i → row' j = row j) : NearAt mu0 (sett mu p (.dct false ((row' i).map trueI))) ps row' := by
  refine ⟨h.nd, h.new, fun j q e => ?_⟩
  by_cases hj : j = i
  · subst hj
    rw [hp] at e; cases e
    exact sett_same
  · have hne : q ≠ p := fun z => hj (by
      subst z
      exact (List.getElem?_inj (List.getElem?_eq_some_iff.mp e).1 h.nd).mp (e.trans hp.symm))
    rw [sett_ne hne, hr j hj]
    exact h.at' j q e
end FF

/-! The law's own hand: near, rings. -/
namespace FF
open PySem PySem.Spec PyProof.Rows L2
theorem Fzs_get {m1 m2 : Mu} : ∀ {ws ws' : List W}, ws.length = ws'.length → (∀ (i : Nat) (w w' : W), ws[i]? = some w → ws'[i]? = some w' → Fz m1 m2 w w') → Fzs m1 m2 ws ws'
  | [], [], _, _ => .nil
  | [], _ :: _, h, _ => by simp at h
  | _ :: _, [], h, _ => by simp at h
  | w :: ws, w' :: ws', h, k => .cons (k 0 w w' rfl rfl) (Fzs_get (by simpa using h) fun i a b h1 h2 => k (i + 1) a b (by simpa using h1) (by simpa using h2))
theorem filt_intd {c : W → Bool} (d : Int → Bool) (h : ∀ i, c (.int i) = d i) (l : List Int) : ((l.map W.int).filter c).map id = (l.filter d).map W.int := by
  rw [filt_int]
  congr 2
  funext i
  exact h i
def sp_law_near : SpW := fun ws mu Q => ∃ (n : Nat) (cs : List (Int × Int)), ws = [webW n cs] ∧ n ≤ 1000 ∧ inR2 n cs ∧ cs.length ≤ 100000 ∧ Q (nearW n cs) mu
theorem ok_law_near (F : Fe) : ∀ ws mu Q, sp_law_near ws mu Q → ws.length = 1 ∧ (b_law_near).wp F (endR Q) (startW n_law_near ws) mu := by
  rintro ws mu Q ⟨n, cs, rfl, hn, hr, hz, hq⟩
  refine ⟨rfl, ?_⟩
  show (b_law_near).wp F (endR Q) [some (webW n cs), none, none, none] mu
  simp only [SL.wp, S.wp, E.wp, C.wp, EL.wp, CO.wp, EO.wp, T.wp, TL.wp, I.wp, getS0, getSs, Cn.w, List.set_cons_zero, List.set_cons_succ, wipeW, Bool.false_eq_true, if_false, if_true, tl2, lt_ii, le_ii, gt_ii, ge_ii, eq_ii, eq_ss, int_i, ne_ii, ne_bb, eq_bb, add_ii, sub_ii, mod_ii, add_tt, add_ll, optQ_s, decide_eq_true_eq, Bool.not_eq_true', decide_eq_false_iff_not, Bool.not_true, Bool.not_false, Bool.true_eq_false, not_true_eq_false, not_false_eq_true, b_law_near]
  refine idx_tup (w := .int n) rfl ⟨n, rfl, by omega, fun p hp => ?_⟩
  have hlen : (rngW 0 (n : Int).toNat).length = n := by rw [rngW_len]; exact Int.toNat_natCast n
  refine compW_inv (fun i acc m => ∃ ps : List Addr, acc = ps.map W.ref ∧ ps.length = i ∧ p ∉ ps ∧ NearAt mu m ps (fun _ => []) ∧ m p = some (.lst acc) ∧ Sub mu m) ?_ ?_ ?_ ?_
  · exact ⟨[], rfl, rfl, by simp, ⟨List.nodup_nil, fun _ h => absurd h (by simp), fun i p h => by simp at h⟩, sett_same, (Sub.refl mu).sett hp⟩
  · rintro i acc m _ ⟨ps, _, _, _, _, h, _⟩
    exact ⟨True.intro, h⟩
  · rintro i w acc m R hw ⟨ps, rfl, hl, hpn, hra, hm, hsub⟩ k
    have hi := (rngW_get hw).2
    rw [Int.toNat_natCast] at hi
    simp only [if_true]
    show ∀ q, m q = none → _
    intro q hq
    have hqp : q ≠ p := fun z => by rw [z, hm] at hq; cases hq
    have h0 : mu q = none := sub_fresh hsub hq
    refine ⟨by rw [sett_ne (Ne.symm hqp)]; exact hm, sz1000 (by rw [List.length_map]; omega), k _ _ ⟨ps ++ [q], by rw [List.map_append]; rfl, by rw [List.length_append, hl]; rfl, ?_, ?_, sett_same, (hsub.sett h0).sett hp⟩⟩
    · intro z
      rcases List.mem_append.mp z with z | z
      · exact hpn z
      · exact hqp (List.mem_singleton.mp z).symm
    · refine (hra.snoc hq h0 rfl).set fun z => ?_
      rcases List.mem_append.mp z with z | z
      · exact hpn z
      · exact hqp (List.mem_singleton.mp z).symm
  · rintro acc m ⟨ps, rfl, hl, hpn, hra, hm, hsub⟩
    rw [hlen] at hl
    have hra0 : NearAt mu (dell m p) ps (nearOf []) := ⟨hra.nd, hra.new, fun i q e => by
      have : q ≠ p := fun z => hpn (by rw [← z]; exact List.mem_of_getElem? e)
      unfold dell
      rw [if_neg this]
      exact hra.at' i q e⟩
    have hsub0 : Sub mu (dell m p) := hsub.dell hp
    generalize dell m p = m0 at hra0 hsub0
    simp only [SL.wp, S.wp, E.wp, C.wp, EL.wp, CO.wp, EO.wp, T.wp, TL.wp, I.wp, getS0, getSs, Cn.w, List.set_cons_zero, List.set_cons_succ, wipeW, Bool.false_eq_true, if_false, if_true, tl2, lt_ii, le_ii, gt_ii, ge_ii, eq_ii, eq_ss, int_i, ne_ii, ne_bb, eq_bb, add_ii, sub_ii, mod_ii, add_tt, add_ll, optQ_s, decide_eq_true_eq, Bool.not_eq_true', decide_eq_false_iff_not, Bool.not_true, Bool.not_false, Bool.true_eq_false, not_true_eq_false, not_false_eq_true, b_law_near_1]
    refine idx_tup (w := cellsW cs) rfl ?_
    show forW _ _ .free _ (cs.map pairW) _ m0
    refine forW_inv (fun i t m => ∃ x y, t = [some (webW n cs), some (W.lst (ps.map W.ref)), x, y] ∧ NearAt mu m ps (nearOf (cs.take i)) ∧ Sub mu m) ⟨none, none, rfl, hra0, hsub0⟩ (fun _ _ _ _ _ => True.intro) ?_ ?_
    · rintro i w t m R hw ⟨x, y, rfl, h1, h2⟩ k
      rw [List.getElem?_map] at hw
      cases ec : cs[i]? with
      | none => rw [ec] at hw; cases hw
      | some c =>
        rw [ec] at hw; cases hw
        obtain ⟨c1, c2⟩ := c
        obtain ⟨b1, b2, b3, b4⟩ := hr (c1, c2) (List.mem_of_getElem? ec)
        obtain ⟨j, rfl⟩ : ∃ j : Nat, c1 = (j : Int) := ⟨c1.toNat, by simp only at b1; omega⟩
        have hj : j < ps.length := by simp only at b2; omega
        refine ⟨rfl, ?_⟩
        simp only [SL.wp, S.wp, E.wp, C.wp, EL.wp, CO.wp, EO.wp, T.wp, TL.wp, I.wp, getS0, getSs, Cn.w, List.set_cons_zero, List.set_cons_succ, wipeW, Bool.false_eq_true, if_false, if_true, tl2, lt_ii, le_ii, gt_ii, ge_ii, eq_ii, eq_ss, int_i, ne_ii, ne_bb, eq_bb, add_ii, sub_ii, mod_ii, add_tt, add_ll, optQ_s, decide_eq_true_eq, Bool.not_eq_true', decide_eq_false_iff_not, Bool.not_true, Bool.not_false, Bool.true_eq_false, not_true_eq_false, not_false_eq_true, b_law_near_1b0]
        have hp2 : ps[j]? = some ps[j] := List.getElem?_eq_getElem hj
        have hat := h1.at' j _ hp2
        refine idx_lst (w := .ref ps[j]) (atI_nat (by rw [List.getElem?_map, hp2]; rfl)) ?_
        refine set_d hat (dk_int c2) rfl (sz1000 ?_) ?_
        · rw [List.length_map]
          have := nearOf_len (cs.take i) j
          rw [List.length_take] at this
          omega
        · rw [dput_I]
          refine k _ _ ⟨_, _, rfl, ?_, h2.sett (h1.new _ (List.getElem_mem hj))⟩
          have e1 : nearOf (cs.take (i + 1)) = fun (j' : Nat) => if (j : Int) = (j' : Int) then putI (nearOf (cs.take i) j') c2 else nearOf (cs.take i) j' := by
            funext j'
            rw [List.take_add_one, ec]
            exact nearOf_snoc _ _ _
          have e2 : putI (nearOf (cs.take i) j) c2 = nearOf (cs.take (i + 1)) j := by
            rw [e1]
            dsimp only
            rw [if_pos rfl]
          rw [e2]
          refine h1.upd hp2 fun j' hne => ?_
          rw [e1]
          exact if_neg (by omega)
    · rintro t m ⟨x, y, rfl, h1, h2⟩
      rw [List.length_map, List.take_length] at h1
      simp only [SL.wp, S.wp, E.wp, C.wp, EL.wp, CO.wp, EO.wp, T.wp, TL.wp, I.wp, getS0, getSs, Cn.w, List.set_cons_zero, List.set_cons_succ, wipeW, Bool.false_eq_true, if_false, if_true, tl2, lt_ii, le_ii, gt_ii, ge_ii, eq_ii, eq_ss, int_i, ne_ii, ne_bb, eq_bb, add_ii, sub_ii, mod_ii, add_tt, add_ll, optQ_s, decide_eq_true_eq, Bool.not_eq_true', decide_eq_false_iff_not, Bool.not_true, Bool.not_false, Bool.true_eq_false, not_true_eq_false, not_false_eq_true, b_law_near_2]
      refine ⟨nearW n cs, mu, h2, .lst (Fzs_get (by rw [List.length_map, List.length_map, List.length_range, hl]) fun i w w' e1 e2 => ?_), hq⟩
      rw [List.getElem?_map] at e1
      cases ep : ps[i]? with
      | none => rw [ep] at e1; cases e1
      | some q =>
        rw [ep] at e1; cases e1
        have hi : i < ps.length := (List.getElem?_eq_some_iff.mp ep).1
        rw [near_at (by omega)] at e2
        cases e2
        exact .refD (h1.at' i q ep) (h1.new q (List.mem_of_getElem? ep))
def sp_law_are_near : SpW := fun ws mu Q => ∃ (n : Nat) (cs : List (Int × Int)) (l : List Int), ws = [nearW n cs, .lst (l.map W.int)] ∧ (∀ x ∈ l, 0 ≤ x ∧ x < (n : Int)) ∧ l.length ≤ 1000 ∧ ∀ b, (b = true ↔ ∀ x ∈ l, ∀ y ∈ l, x ≠ y → (x, y) ∈ cs) → Q (.bl b) mu
theorem ok_law_are_near (F : Fe) : ∀ ws mu Q, sp_law_are_near ws mu Q → ws.length = 2 ∧ (b_law_are_near).wp F (endR Q) (startW n_law_are_near ws) mu := by
  rintro ws mu Q ⟨n, cs, l, rfl, hr, hz, hq⟩
  refine ⟨rfl, ?_⟩
  show (b_law_are_near).wp F (endR Q) [some (nearW n cs), some (.lst (l.map W.int)), none, none] mu
  simp only [SL.wp, S.wp, E.wp, C.wp, EL.wp, CO.wp, EO.wp, T.wp, TL.wp, I.wp, getS0, getSs, Cn.w, List.set_cons_zero, List.set_cons_succ, wipeW, Bool.false_eq_true, if_false, if_true, tl2, lt_ii, le_ii, gt_ii, ge_ii, eq_ii, eq_ss, int_i, ne_ii, ne_bb, eq_bb, add_ii, sub_ii, mod_ii, add_tt, add_ll, optQ_s, decide_eq_true_eq, Bool.not_eq_true', decide_eq_false_iff_not, Bool.not_true, Bool.not_false, Bool.true_eq_false, not_true_eq_false, not_false_eq_true, b_law_are_near]
  show forW _ _ .free _ (l.map W.int) _ mu
  refine forW_inv (fun i t m => m = mu ∧ (∃ x y, t = [some (nearW n cs), some (.lst (l.map W.int)), x, y]) ∧ ∀ x ∈ l.take i, ∀ y ∈ l, x ≠ y → (x, y) ∈ cs) ⟨rfl, ⟨_, _, rfl⟩, fun x h => by simp at h⟩ (fun _ _ _ _ _ => True.intro) ?_ ?_
  · rintro i w t m R hw ⟨rfl, ⟨x, y, rfl⟩, hI⟩ k
    rw [List.getElem?_map] at hw
    cases ea : l[i]? with
    | none => rw [ea] at hw; cases hw
    | some a =>
      rw [ea] at hw; cases hw
      obtain ⟨h0, h1⟩ := hr a (List.mem_of_getElem? ea)
      obtain ⟨a', rfl⟩ : ∃ a' : Nat, a = (a' : Int) := ⟨a.toNat, by omega⟩
      simp only [SL.wp, S.wp, E.wp, C.wp, EL.wp, CO.wp, EO.wp, T.wp, TL.wp, I.wp, getS0, getSs, Cn.w, List.set_cons_zero, List.set_cons_succ, wipeW, Bool.false_eq_true, if_false, if_true, tl2, lt_ii, le_ii, gt_ii, ge_ii, eq_ii, eq_ss, int_i, ne_ii, ne_bb, eq_bb, add_ii, sub_ii, mod_ii, add_tt, add_ll, optQ_s, decide_eq_true_eq, Bool.not_eq_true', decide_eq_false_iff_not, Bool.not_true, Bool.not_false, Bool.true_eq_false, not_true_eq_false, not_false_eq_true, b_law_are_near_0b0]
      show ∀ p, m p = none → _
      intro p hp
      refine comp_p hp (fun w => !decide (intV w = a') && !decide (((a' : Int), intV w) ∈ cs)) id (le_sz (by rw [List.length_map]; omega)) .free True.intro ?_ ?_
      · intro w m G N hw _ g1 g2
        obtain ⟨b, rfl, hb⟩ := take_ints hw
        have g1 : (!decide (b = (a' : Int)) && !decide (((a' : Int), b) ∈ cs)) = true → G (.int b) m := g1
        have g2 : (!decide (b = (a' : Int)) && !decide (((a' : Int), b) ∈ cs)) = false → N m := g2
        simp only [SL.wp, S.wp, E.wp, C.wp, EL.wp, CO.wp, EO.wp, T.wp, TL.wp, I.wp, getS0, getSs, Cn.w, List.set_cons_zero, List.set_cons_succ, wipeW, Bool.false_eq_true, if_false, if_true, tl2, lt_ii, le_ii, gt_ii, ge_ii, eq_ii, eq_ss, int_i, ne_ii, ne_bb, eq_bb, add_ii, sub_ii, mod_ii, add_tt, add_ll, optQ_s, decide_eq_true_eq, Bool.not_eq_true', decide_eq_false_iff_not, Bool.not_true, Bool.not_false, Bool.true_eq_false, not_true_eq_false, not_false_eq_true]
        by_cases hab : b = (a' : Int)
        · rw [if_neg (fun z => z hab)]
          exact g2 (by simp [hab])
        · rw [if_pos hab]
          refine idx_lst (atI_nat (near_at (by omega))) (nin_near ?_)
          simp only [SL.wp, S.wp, E.wp, C.wp, EL.wp, CO.wp, EO.wp, T.wp, TL.wp, I.wp, getS0, getSs, Cn.w, List.set_cons_zero, List.set_cons_succ, wipeW, Bool.false_eq_true, if_false, if_true, tl2, lt_ii, le_ii, gt_ii, ge_ii, eq_ii, eq_ss, int_i, ne_ii, ne_bb, eq_bb, add_ii, sub_ii, mod_ii, add_tt, add_ll, optQ_s, decide_eq_true_eq, Bool.not_eq_true', decide_eq_false_iff_not, Bool.not_true, Bool.not_false, Bool.true_eq_false, not_true_eq_false, not_false_eq_true]
          by_cases hin : ((a' : Int), b) ∈ cs
          · rw [if_neg (fun z => z hin)]
            exact g2 (by simp [hin])
          · rw [if_pos hin]
            exact g1 (by simp [hab, hin])
      · rw [dell_sett hp, filt_intd (fun (b : Int) => !decide (b = (a' : Int)) && !decide (((a' : Int), b) ∈ cs)) (fun _ => rfl)]
        refine newL_f (Nat.zero_le _) (ne_nilI ?_)
        simp only [SL.wp, S.wp, E.wp, C.wp, EL.wp, CO.wp, EO.wp, T.wp, TL.wp, I.wp, getS0, getSs, Cn.w, List.set_cons_zero, List.set_cons_succ, wipeW, Bool.false_eq_true, if_false, if_true, tl2, lt_ii, le_ii, gt_ii, ge_ii, eq_ii, eq_ss, int_i, ne_ii, ne_bb, eq_bb, add_ii, sub_ii, mod_ii, add_tt, add_ll, optQ_s, decide_eq_true_eq, Bool.not_eq_true', decide_eq_false_iff_not, Bool.not_true, Bool.not_false, Bool.true_eq_false, not_true_eq_false, not_false_eq_true]
        have hfe : (l.filter fun (b : Int) => !decide (b = (a' : Int)) && !decide (((a' : Int), b) ∈ cs)) = [] ↔ ∀ y ∈ l, (a' : Int) ≠ y → ((a' : Int), y) ∈ cs := by
          rw [List.filter_eq_nil_iff]
          constructor
          · intro z y hy hne
            have := z y hy
            refine Classical.byContradiction fun hc => this ?_
            simp [hc, Ne.symm hne]
          · intro z y hy
            by_cases h : y = (a' : Int)
            · simp [h]
            · have := z y hy (Ne.symm h)
              simp [this]
        by_cases hf : (l.filter fun (b : Int) => !decide (b = (a' : Int)) && !decide (((a' : Int), b) ∈ cs)) = []
        · rw [if_neg (fun z => z hf)]
          refine k _ _ ⟨rfl, ⟨_, _, rfl⟩, ?_⟩
          intro x hx y hy hne
          rw [List.take_add_one, ea] at hx
          rcases List.mem_append.mp hx with hx | hx
          · exact hI x hx y hy hne
          · have hx : x = (a' : Int) := by simpa using hx
            subst hx
            exact hfe.mp hf y hy hne
        · rw [if_pos hf]
          simp only [SL.wp, S.wp, E.wp, C.wp, EL.wp, CO.wp, EO.wp, T.wp, TL.wp, I.wp, getS0, getSs, Cn.w, List.set_cons_zero, List.set_cons_succ, wipeW, Bool.false_eq_true, if_false, if_true, tl2, lt_ii, le_ii, gt_ii, ge_ii, eq_ii, eq_ss, int_i, ne_ii, ne_bb, eq_bb, add_ii, sub_ii, mod_ii, add_tt, add_ll, optQ_s, decide_eq_true_eq, Bool.not_eq_true', decide_eq_false_iff_not, Bool.not_true, Bool.not_false, Bool.true_eq_false, not_true_eq_false, not_false_eq_true, b_law_are_near_0b0t0]
          exact ret_same (hq false ⟨fun z => Bool.noConfusion z, fun z => absurd (hfe.mpr (z _ (List.mem_of_getElem? ea))) hf⟩)
  · rintro t m ⟨rfl, ⟨x, y, rfl⟩, hI⟩
    rw [List.length_map, List.take_length] at hI
    simp only [SL.wp, S.wp, E.wp, C.wp, EL.wp, CO.wp, EO.wp, T.wp, TL.wp, I.wp, getS0, getSs, Cn.w, List.set_cons_zero, List.set_cons_succ, wipeW, Bool.false_eq_true, if_false, if_true, tl2, lt_ii, le_ii, gt_ii, ge_ii, eq_ii, eq_ss, int_i, ne_ii, ne_bb, eq_bb, add_ii, sub_ii, mod_ii, add_tt, add_ll, optQ_s, decide_eq_true_eq, Bool.not_eq_true', decide_eq_false_iff_not, Bool.not_true, Bool.not_false, Bool.true_eq_false, not_true_eq_false, not_false_eq_true, b_law_are_near_1]
    exact ret_same (hq true ⟨fun _ => hI, fun _ => rfl⟩)
end FF

/-! The law's own hand: rings. -/
namespace FF
open PySem PySem.Spec PyProof.Rows L2
def prevI (len k : Nat) : Nat := if k = 0 then len - 1 else k - 1
def nextI (len k : Nat) : Nat := if k + 1 = len then 0 else k + 1
theorem atI_neg {α : Type} {ws : List α} {i : Int} {j : Nat} {w : α} (h : i < 0) (e : i + ws.length = (j : Int)) (g : ws[j]? = some w) : atI ws i = some w := by
  unfold atI
  have : ixN ws.length i = some j := by
    unfold ixN
    rw [if_neg (by omega), if_pos (by omega), e]; rfl
  rw [this]; exact g
theorem atI_prev {α : Type} {ws : List α} {k : Nat} {w : α} (hk : k < ws.length) (g : ws[prevI ws.length k]? = some w) : atI ws ((k : Int) - 1) = some w := by
  unfold prevI at g
  by_cases h : k = 0
  · rw [if_pos h] at g
    exact atI_neg (by omega) (by omega) g
  · rw [if_neg h] at g
    have : (k : Int) - 1 = ((k - 1 : Nat) : Int) := by omega
    rw [this]; exact atI_nat g
theorem fmod_nat (a b : Nat) : (a : Int).fmod (b : Int) = ((a % b : Nat) : Int) := by
  rw [Int.fmod_eq_emod_of_nonneg _ (by omega)]; rfl
theorem atI_next {α : Type} {ws : List α} {k : Nat} {w : α} (hk : k < ws.length) (g : ws[nextI ws.length k]? = some w) : atI ws (((k : Int) + 1).fmod (ws.length : Int)) = some w := by
  have e : (k : Int) + 1 = ((k + 1 : Nat) : Int) := by omega
  rw [e, fmod_nat]
  unfold nextI at g
  by_cases h : k + 1 = ws.length
  · rw [if_pos h] at g
    rw [h, Nat.mod_self]; exact atI_nat g
  · rw [if_neg h] at g
    rw [Nat.mod_eq_of_lt (by omega)]; exact atI_nat g
theorem srtI_eq {a b : List Int} : srtI a = srtI b ↔ a.Perm b := by
  constructor
  · intro h
    exact (srtI_perm a).symm.trans (by rw [h]; exact srtI_perm b)
  · intro h
    exact srtI_of ((srtI_perm a).trans h) (srtI_rise a)
def LawAt (l : List Int) (cs : List (Int × Int)) (k : Nat) : Prop := ∀ one p q, l[k]? = some one → l[prevI l.length k]? = some p → l[nextI l.length k]? = some q → srtI (l.filter fun o => decide ((one, o) ∈ cs)) = srtI [p, q]
theorem prevI_lt {len k : Nat} (h : k < len) : prevI len k < len := by unfold prevI; split <;> omega
theorem nextI_lt {len k : Nat} (h : k < len) : nextI len k < len := by unfold nextI; split <;> omega
theorem nodup_get {l : List Int} (h : l.Nodup) {i j : Nat} {x : Int} (hi : l[i]? = some x) (hj : l[j]? = some x) : i = j :=
  (List.getElem?_inj (List.getElem?_eq_some_iff.mp hi).1 h).mp (hi.trans hj.symm)
theorem lawAt_iff {l : List Int} {cs : List (Int × Int)} (hn : l.Nodup) (h4 : 4 ≤ l.length) {k : Nat} (hk : k < l.length) : LawAt l cs k ↔ ∀ j x y, l[k]? = some x → l[j]? = some y → ((x, y) ∈ cs ↔ j = prevI l.length k ∨ j = nextI l.length k) := by
  obtain ⟨one, e1⟩ : ∃ x, l[k]? = some x := ⟨_, List.getElem?_eq_getElem hk⟩
  obtain ⟨p, e2⟩ : ∃ x, l[prevI l.length k]? = some x := ⟨_, List.getElem?_eq_getElem (prevI_lt hk)⟩
  obtain ⟨q, e3⟩ : ∃ x, l[nextI l.length k]? = some x := ⟨_, List.getElem?_eq_getElem (nextI_lt hk)⟩
  have hpq : p ≠ q := by
    intro z
    subst z
    have := nodup_get hn e2 e3
    unfold prevI nextI at this
    split at this <;> split at this <;> omega
  have hperm : (l.filter fun o => decide ((one, o) ∈ cs)).Perm [p, q] ↔ ∀ x, (x ∈ l ∧ (one, x) ∈ cs) ↔ (x = p ∨ x = q) := by
    rw [List.perm_ext_iff_of_nodup (hn.filter _) (by simp [hpq])]
    constructor
    · intro h x
      have := h x
      rw [List.mem_filter, decide_eq_true_iff] at this
      rw [this]; simp
    · intro h x
      rw [List.mem_filter, decide_eq_true_iff, h]; simp
  constructor
  · intro h j x y ex ey
    have hx : x = one := by rw [e1] at ex; cases ex; rfl
    subst hx
    have h' := hperm.mp (srtI_eq.mp (h x p q e1 e2 e3)) y
    constructor
    · intro hc
      rcases h'.mp ⟨List.mem_of_getElem? ey, hc⟩ with z | z
      · exact .inl (nodup_get hn ey (by rw [z]; exact e2))
      · exact .inr (nodup_get hn ey (by rw [z]; exact e3))
    · rintro (z | z)
      · subst z
        rw [e2] at ey; cases ey
        exact (h'.mpr (.inl rfl)).2
      · subst z
        rw [e3] at ey; cases ey
        exact (h'.mpr (.inr rfl)).2
  · intro h one' p' q' g1 g2 g3
    rw [e1] at g1; cases g1
    rw [e2] at g2; cases g2
    rw [e3] at g3; cases g3
    rw [srtI_eq, hperm]
    intro x
    constructor
    · rintro ⟨hx, hc⟩
      obtain ⟨j, hj, ej⟩ := List.mem_iff_getElem.mp hx
      have ej : l[j]? = some x := by rw [List.getElem?_eq_getElem hj, ej]
      rcases (h j one x e1 ej).mp hc with z | z
      · subst z; rw [e2] at ej; cases ej; exact .inl rfl
      · subst z; rw [e3] at ej; cases ej; exact .inr rfl
    · rintro (z | z)
      · subst z; exact ⟨List.mem_of_getElem? e2, (h _ one x e1 e2).mpr (.inl rfl)⟩
      · subst z; exact ⟨List.mem_of_getElem? e3, (h _ one x e1 e3).mpr (.inr rfl)⟩
theorem law_ring_iff {n : Nat} {l : List Int} {cs : List (Int × Int)} (hW : Web n cs) (hn : l.Nodup) (h4 : 4 ≤ l.length) : (∀ k, k < l.length → LawAt l cs k) ↔ ∀ i j x y, i < j → l[i]? = some x → l[j]? = some y → ((x, y) ∈ cs ↔ NextP l.length i j) := by
  constructor
  · intro h i j x y hij ex ey
    have hi := (List.getElem?_eq_some_iff.mp ex).1
    have hj := (List.getElem?_eq_some_iff.mp ey).1
    rw [(lawAt_iff hn h4 hi).mp (h i hi) j x y ex ey]
    unfold prevI nextI NextP
    split <;> split <;> omega
  · intro h k hk
    rw [lawAt_iff hn h4 hk]
    intro j x y ex ey
    have hj := (List.getElem?_eq_some_iff.mp ey).1
    rcases Nat.lt_trichotomy k j with hlt | rfl | hlt
    · rw [h k j x y hlt ex ey]
      unfold prevI nextI NextP
      split <;> split <;> omega
    · rw [ex] at ey; cases ey
      constructor
      · intro z; exact absurd rfl (hW.irr _ z)
      · intro z
        unfold prevI nextI at z
        split at z <;> split at z <;> omega
    · have hs : (x, y) ∈ cs ↔ (y, x) ∈ cs := ⟨fun z => hW.sym _ z, fun z => hW.sym _ z⟩
      rw [hs, h j k y x hlt ey ex]
      unfold prevI nextI NextP
      split <;> split <;> omega
theorem ne_ints {l l' : List Int} {mu : Mu} {Q : QW} (h : Q (.bl (!decide (l = l'))) mu) : cmpR .NotEq (.lst (l.map W.int)) (.lst (l'.map W.int)) mu Q := eq_ints (Q := fun b => Q (.bl (!b)) mu) h
theorem ok_law_is_ring (F : Fe) (h1 : F.fn "_law_are_places" = sp_are_places) (h2 : F.fn "_law_near" = sp_law_near) : ∀ ws mu Q, sp_is_ring ws mu Q → ws.length = 2 ∧ (b_law_is_ring).wp F (endR Q) (startW n_law_is_ring ws) mu := by
  rintro ws mu Q ⟨n, cs, r, rfl, hW, hz, hq⟩
  refine ⟨rfl, ?_⟩
  show (b_law_is_ring).wp F (endR Q) [some (webW n cs), some (rtW r), none, none, none, none, none] mu
  simp only [SL.wp, S.wp, E.wp, C.wp, EL.wp, CO.wp, EO.wp, T.wp, TL.wp, I.wp, getS0, getSs, Cn.w, List.set_cons_zero, List.set_cons_succ, wipeW, Bool.false_eq_true, if_false, if_true, tl2, lt_ii, le_ii, gt_ii, ge_ii, eq_ii, eq_ss, int_i, ne_ii, ne_bb, eq_bb, add_ii, sub_ii, mod_ii, add_tt, add_ll, optQ_s, decide_eq_true_eq, Bool.not_eq_true', decide_eq_false_iff_not, Bool.not_true, Bool.not_false, Bool.true_eq_false, not_true_eq_false, not_false_eq_true, b_law_is_ring, h1]
  refine idx_tup (w := .int n) rfl ⟨n, r, rfl, by omega, fun b hb => ?_⟩
  cases b with
  | false =>
    simp only [SL.wp, S.wp, E.wp, C.wp, EL.wp, CO.wp, EO.wp, T.wp, TL.wp, I.wp, getS0, getSs, Cn.w, List.set_cons_zero, List.set_cons_succ, wipeW, Bool.false_eq_true, if_false, if_true, tl2, lt_ii, le_ii, gt_ii, ge_ii, eq_ii, eq_ss, int_i, ne_ii, ne_bb, eq_bb, add_ii, sub_ii, mod_ii, add_tt, add_ll, optQ_s, decide_eq_true_eq, Bool.not_eq_true', decide_eq_false_iff_not, Bool.not_true, Bool.not_false, Bool.true_eq_false, not_true_eq_false, not_false_eq_true, b_law_is_ring_0t0]
    exact ret_same (hq false ⟨fun z => Bool.noConfusion z, fun z => (hb.mpr z.1).symm ▸ rfl⟩)
  | true =>
    have hp := hb.mp rfl
    obtain ⟨bb, l⟩ := r
    obtain ⟨rfl, hin, hnd⟩ : bb = true ∧ (∀ x ∈ l, 0 ≤ x ∧ x < (n : Int)) ∧ l.Nodup := hp
    simp only [SL.wp, S.wp, E.wp, C.wp, EL.wp, CO.wp, EO.wp, T.wp, TL.wp, I.wp, getS0, getSs, Cn.w, List.set_cons_zero, List.set_cons_succ, wipeW, Bool.false_eq_true, if_false, if_true, tl2, lt_ii, le_ii, gt_ii, ge_ii, eq_ii, eq_ss, int_i, ne_ii, ne_bb, eq_bb, add_ii, sub_ii, mod_ii, add_tt, add_ll, optQ_s, decide_eq_true_eq, Bool.not_eq_true', decide_eq_false_iff_not, Bool.not_true, Bool.not_false, Bool.true_eq_false, not_true_eq_false, not_false_eq_true]
    refine len_tI ?_
    simp only [SL.wp, S.wp, E.wp, C.wp, EL.wp, CO.wp, EO.wp, T.wp, TL.wp, I.wp, getS0, getSs, Cn.w, List.set_cons_zero, List.set_cons_succ, wipeW, Bool.false_eq_true, if_false, if_true, tl2, lt_ii, le_ii, gt_ii, ge_ii, eq_ii, eq_ss, int_i, ne_ii, ne_bb, eq_bb, add_ii, sub_ii, mod_ii, add_tt, add_ll, optQ_s, decide_eq_true_eq, Bool.not_eq_true', decide_eq_false_iff_not, Bool.not_true, Bool.not_false, Bool.true_eq_false, not_true_eq_false, not_false_eq_true]
    by_cases h4 : ((l.length : Nat) : Int) < 4
    · rw [if_pos h4]
      simp only [SL.wp, S.wp, E.wp, C.wp, EL.wp, CO.wp, EO.wp, T.wp, TL.wp, I.wp, getS0, getSs, Cn.w, List.set_cons_zero, List.set_cons_succ, wipeW, Bool.false_eq_true, if_false, if_true, tl2, lt_ii, le_ii, gt_ii, ge_ii, eq_ii, eq_ss, int_i, ne_ii, ne_bb, eq_bb, add_ii, sub_ii, mod_ii, add_tt, add_ll, optQ_s, decide_eq_true_eq, Bool.not_eq_true', decide_eq_false_iff_not, Bool.not_true, Bool.not_false, Bool.true_eq_false, not_true_eq_false, not_false_eq_true, b_law_is_ring_0t0]
      refine ret_same (hq false ⟨fun z => Bool.noConfusion z, fun z => ?_⟩)
      have := z.2.1
      simp only at this
      omega
    · rw [if_neg h4]
      have h4' : 4 ≤ l.length := by omega
      have hall := law_ring_iff hW hnd h4'
      simp only [SL.wp, S.wp, E.wp, C.wp, EL.wp, CO.wp, EO.wp, T.wp, TL.wp, I.wp, getS0, getSs, Cn.w, List.set_cons_zero, List.set_cons_succ, wipeW, Bool.false_eq_true, if_false, if_true, tl2, lt_ii, le_ii, gt_ii, ge_ii, eq_ii, eq_ss, int_i, ne_ii, ne_bb, eq_bb, add_ii, sub_ii, mod_ii, add_tt, add_ll, optQ_s, decide_eq_true_eq, Bool.not_eq_true', decide_eq_false_iff_not, Bool.not_true, Bool.not_false, Bool.true_eq_false, not_true_eq_false, not_false_eq_true, b_law_is_ring_1, h2]
      refine ⟨n, cs, rfl, by have := hW.le; omega, hW.ran, hW.len, ?_⟩
      simp only [SL.wp, S.wp, E.wp, C.wp, EL.wp, CO.wp, EO.wp, T.wp, TL.wp, I.wp, getS0, getSs, Cn.w, List.set_cons_zero, List.set_cons_succ, wipeW, Bool.false_eq_true, if_false, if_true, tl2, lt_ii, le_ii, gt_ii, ge_ii, eq_ii, eq_ss, int_i, ne_ii, ne_bb, eq_bb, add_ii, sub_ii, mod_ii, add_tt, add_ll, optQ_s, decide_eq_true_eq, Bool.not_eq_true', decide_eq_false_iff_not, Bool.not_true, Bool.not_false, Bool.true_eq_false, not_true_eq_false, not_false_eq_true, b_law_is_ring_2]
      refine ⟨l.map FF.W.int, rfl, ?_⟩
      simp only at hz
      refine forW_inv (fun i t m => m = mu ∧ (∃ x y u v, t = [some (webW n cs), some (rtW (true, l)), some (nearW n cs), x, y, u, v]) ∧ ∀ a, a < i → LawAt l cs a) ⟨rfl, ⟨_, _, _, _, rfl⟩, fun _ h => absurd h (Nat.not_lt_zero _)⟩ (fun _ _ _ _ _ => True.intro) ?_ ?_
      · rintro i w t m R hw ⟨rfl, ⟨x, y, u, v, rfl⟩, hI⟩ k
        obtain ⟨w1, hw1, rfl⟩ := enuW_get _ _ _ _ hw
        rw [List.getElem?_map] at hw1
        cases ea : l[i]? with
        | none => rw [ea] at hw1; cases hw1
        | some a =>
          rw [ea] at hw1; cases hw1
          have hil : i < l.length := (List.getElem?_eq_some_iff.mp ea).1
          obtain ⟨ha0, han⟩ := hin a (List.mem_of_getElem? ea)
          rw [Nat.zero_add]
          obtain ⟨p, e2⟩ : ∃ x, l[prevI l.length i]? = some x := ⟨_, List.getElem?_eq_getElem (prevI_lt hil)⟩
          obtain ⟨q, e3⟩ : ∃ x, l[nextI l.length i]? = some x := ⟨_, List.getElem?_eq_getElem (nextI_lt hil)⟩
          refine ⟨rfl, ?_⟩
          simp only [SL.wp, S.wp, E.wp, C.wp, EL.wp, CO.wp, EO.wp, T.wp, TL.wp, I.wp, getS0, getSs, Cn.w, List.set_cons_zero, List.set_cons_succ, wipeW, Bool.false_eq_true, if_false, if_true, tl2, lt_ii, le_ii, gt_ii, ge_ii, eq_ii, eq_ss, int_i, ne_ii, ne_bb, eq_bb, add_ii, sub_ii, mod_ii, add_tt, add_ll, optQ_s, decide_eq_true_eq, Bool.not_eq_true', decide_eq_false_iff_not, Bool.not_true, Bool.not_false, Bool.true_eq_false, not_true_eq_false, not_false_eq_true, b_law_is_ring_2b0]
          refine idx_tup (w := .int p) (atI_prev (by rw [List.length_map]; exact hil) (by rw [List.length_map, List.getElem?_map, e2]; rfl)) ?_
          refine len_tI ?_
          simp only [SL.wp, S.wp, E.wp, C.wp, EL.wp, CO.wp, EO.wp, T.wp, TL.wp, I.wp, getS0, getSs, Cn.w, List.set_cons_zero, List.set_cons_succ, wipeW, Bool.false_eq_true, if_false, if_true, tl2, lt_ii, le_ii, gt_ii, ge_ii, eq_ii, eq_ss, int_i, ne_ii, ne_bb, eq_bb, add_ii, sub_ii, mod_ii, add_tt, add_ll, optQ_s, decide_eq_true_eq, Bool.not_eq_true', decide_eq_false_iff_not, Bool.not_true, Bool.not_false, Bool.true_eq_false, not_true_eq_false, not_false_eq_true]
          refine ⟨by omega, ?_⟩
          have e4 : atI (l.map FF.W.int) (((i : Int) + 1).fmod (l.length : Int)) = some (.int q) := by
            have := atI_next (ws := l.map FF.W.int) (k := i) (w := .int q) (by rw [List.length_map]; exact hil) (by rw [List.length_map, List.getElem?_map, e3]; rfl)
            rwa [List.length_map] at this
          refine idx_tup e4 ?_
          refine newL_f (le_sz (Nat.le_of_ble_eq_true rfl)) ?_
          simp only [SL.wp, S.wp, E.wp, C.wp, EL.wp, CO.wp, EO.wp, T.wp, TL.wp, I.wp, getS0, getSs, Cn.w, List.set_cons_zero, List.set_cons_succ, wipeW, Bool.false_eq_true, if_false, if_true, tl2, lt_ii, le_ii, gt_ii, ge_ii, eq_ii, eq_ss, int_i, ne_ii, ne_bb, eq_bb, add_ii, sub_ii, mod_ii, add_tt, add_ll, optQ_s, decide_eq_true_eq, Bool.not_eq_true', decide_eq_false_iff_not, Bool.not_true, Bool.not_false, Bool.true_eq_false, not_true_eq_false, not_false_eq_true, b_law_is_ring_2b1]
          show ∀ p, m p = none → _
          intro p0 hp0
          obtain ⟨a', rfl⟩ : ∃ a' : Nat, a = (a' : Int) := ⟨a.toNat, by omega⟩
          refine comp_p hp0 (fun w => decide (((a' : Int), intV w) ∈ cs)) id (le_sz (by rw [List.length_map]; omega)) .free True.intro ?_ ?_
          · intro w m G N hw _ g1 g2
            obtain ⟨b, rfl, hb⟩ := take_ints hw
            have g1 : decide (((a' : Int), b) ∈ cs) = true → G (.int b) m := g1
            have g2 : decide (((a' : Int), b) ∈ cs) = false → N m := g2
            simp only [SL.wp, S.wp, E.wp, C.wp, EL.wp, CO.wp, EO.wp, T.wp, TL.wp, I.wp, getS0, getSs, Cn.w, List.set_cons_zero, List.set_cons_succ, wipeW, Bool.false_eq_true, if_false, if_true, tl2, lt_ii, le_ii, gt_ii, ge_ii, eq_ii, eq_ss, int_i, ne_ii, ne_bb, eq_bb, add_ii, sub_ii, mod_ii, add_tt, add_ll, optQ_s, decide_eq_true_eq, Bool.not_eq_true', decide_eq_false_iff_not, Bool.not_true, Bool.not_false, Bool.true_eq_false, not_true_eq_false, not_false_eq_true]
            refine idx_lst (atI_nat (near_at (by omega))) (cin_near ?_)
            simp only [SL.wp, S.wp, E.wp, C.wp, EL.wp, CO.wp, EO.wp, T.wp, TL.wp, I.wp, getS0, getSs, Cn.w, List.set_cons_zero, List.set_cons_succ, wipeW, Bool.false_eq_true, if_false, if_true, tl2, lt_ii, le_ii, gt_ii, ge_ii, eq_ii, eq_ss, int_i, ne_ii, ne_bb, eq_bb, add_ii, sub_ii, mod_ii, add_tt, add_ll, optQ_s, decide_eq_true_eq, Bool.not_eq_true', decide_eq_false_iff_not, Bool.not_true, Bool.not_false, Bool.true_eq_false, not_true_eq_false, not_false_eq_true]
            by_cases hc : ((a' : Int), b) ∈ cs
            · rw [if_pos hc]; exact g1 (decide_eq_true hc)
            · rw [if_neg hc]; exact g2 (decide_eq_false hc)
          · rw [dell_sett hp0, filt_intd (fun (b : Int) => decide (((a' : Int), b) ∈ cs)) (fun _ => rfl)]
            refine .inl ⟨_, intsOf_map _, .inl ⟨[p, q], rfl, ?_⟩⟩
            refine ne_ints ?_
            simp only [SL.wp, S.wp, E.wp, C.wp, EL.wp, CO.wp, EO.wp, T.wp, TL.wp, I.wp, getS0, getSs, Cn.w, List.set_cons_zero, List.set_cons_succ, wipeW, Bool.false_eq_true, if_false, if_true, tl2, lt_ii, le_ii, gt_ii, ge_ii, eq_ii, eq_ss, int_i, ne_ii, ne_bb, eq_bb, add_ii, sub_ii, mod_ii, add_tt, add_ll, optQ_s, decide_eq_true_eq, Bool.not_eq_true', decide_eq_false_iff_not, Bool.not_true, Bool.not_false, Bool.true_eq_false, not_true_eq_false, not_false_eq_true]
            have hla : LawAt l cs i ↔ srtI (l.filter fun o => decide (((a' : Int), o) ∈ cs)) = srtI [p, q] := by
              constructor
              · intro h; exact h _ p q ea e2 e3
              · intro h one p' q' g1 g2 g3
                rw [ea] at g1; cases g1
                rw [e2] at g2; cases g2
                rw [e3] at g3; cases g3
                exact h
            by_cases heq : srtI (l.filter fun o => decide (((a' : Int), o) ∈ cs)) = srtI [p, q]
            · rw [if_neg (fun z => z heq)]
              refine k _ _ ⟨rfl, ⟨_, _, _, _, rfl⟩, fun b hb => ?_⟩
              by_cases hbi : b = i
              · subst hbi; exact hla.mpr heq
              · exact hI b (by omega)
            · rw [if_pos heq]
              simp only [SL.wp, S.wp, E.wp, C.wp, EL.wp, CO.wp, EO.wp, T.wp, TL.wp, I.wp, getS0, getSs, Cn.w, List.set_cons_zero, List.set_cons_succ, wipeW, Bool.false_eq_true, if_false, if_true, tl2, lt_ii, le_ii, gt_ii, ge_ii, eq_ii, eq_ss, int_i, ne_ii, ne_bb, eq_bb, add_ii, sub_ii, mod_ii, add_tt, add_ll, optQ_s, decide_eq_true_eq, Bool.not_eq_true', decide_eq_false_iff_not, Bool.not_true, Bool.not_false, Bool.true_eq_false, not_true_eq_false, not_false_eq_true, b_law_is_ring_2b1t0]
              refine ret_same (hq false ⟨fun z => Bool.noConfusion z, fun z => ?_⟩)
              exact absurd (hla.mp (hall.mpr z.2.2 i hil)) heq
      · rintro t m ⟨rfl, ⟨x, y, u, v, rfl⟩, hI⟩
        rw [enuW_len, List.length_map] at hI
        simp only [SL.wp, S.wp, E.wp, C.wp, EL.wp, CO.wp, EO.wp, T.wp, TL.wp, I.wp, getS0, getSs, Cn.w, List.set_cons_zero, List.set_cons_succ, wipeW, Bool.false_eq_true, if_false, if_true, tl2, lt_ii, le_ii, gt_ii, ge_ii, eq_ii, eq_ss, int_i, ne_ii, ne_bb, eq_bb, add_ii, sub_ii, mod_ii, add_tt, add_ll, optQ_s, decide_eq_true_eq, Bool.not_eq_true', decide_eq_false_iff_not, Bool.not_true, Bool.not_false, Bool.true_eq_false, not_true_eq_false, not_false_eq_true, b_law_is_ring_3]
        exact ret_same (hq true ⟨fun _ => ⟨⟨rfl, hin, hnd⟩, h4', hall.mp hI⟩, fun _ => rfl⟩)
end FF

/-! The law's own hand: what papers of rings show. -/
namespace FF
open PySem PySem.Spec PyProof.Rows L2
def rtD : Rt → PyData
  | (true, l) => .tuple (l.map .int)
  | (false, l) => .list (l.map .int)
theorem toD_rt (r : Rt) : toD (rtW r) = some (rtD r) := by
  obtain ⟨b, l⟩ := r
  cases b
  · show (toDs (l.map W.int)).map _ = _
    rw [toDs_ints]; rfl
  · show (toDs (l.map W.int)).map _ = _
    rw [toDs_ints]; rfl
theorem toDs_rts : ∀ rs : List Rt, toDs (rs.map rtW) = some (rs.map rtD)
  | [] => by simp only [List.map_nil, toDs]
  | r :: rs => by simp only [List.map_cons, toDs, toD_rt, toDs_rts rs]
theorem can_rt (r : Rt) : (rtD r).canLay0 = true := by
  obtain ⟨b, l⟩ := r
  cases b <;> simp only [rtD, PyData.canLay0, can_ints]
theorem dep_rt (r : Rt) : (rtD r).depth = 1 := by
  obtain ⟨b, l⟩ := r
  cases b <;> simp only [rtD, PyData.depth, dep_ints]
theorem can_rts : ∀ rs : List Rt, PyData.canLayAll0 (rs.map rtD) = true
  | [] => by simp only [List.map_nil, PyData.canLayAll0]
  | r :: rs => by simp only [List.map_cons, PyData.canLayAll0, can_rt, can_rts rs, Bool.and_self]
theorem dep_rts : ∀ rs : List Rt, PyData.depthAll (rs.map rtD) ≤ 1
  | [] => by simp only [List.map_nil, PyData.depthAll]; omega
  | r :: rs => by
    simp only [List.map_cons, PyData.depthAll, dep_rt]
    have := dep_rts rs
    omega
theorem shaped_rts (rs : List Rt) : SeqAt.shaped (.list (rs.map rtD)) = true := shaped_of (by simp only [PyData.canLay0, can_rts]) (by simp only [PyData.depth]; have := dep_rts rs; omega)
theorem shaped_nil : SeqAt.shaped (.list []) = true := shaped_ints []
theorem eq_nilR {rs : List Rt} {Q : Bool → Prop} (h : Q (decide (rs = []))) : eqR (.lst (rs.map rtW)) (.lst []) Q := by
  refine ⟨.list (rs.map rtD), .list [], by simp only [toD, toDs_rts, Option.map_some], by simp only [toD, toDs, Option.map_some], shaped_rts rs, shaped_nil, ?_⟩
  have : PyData.eqv (.list (rs.map rtD)) (.list []) = decide (rs = []) := by
    cases rs <;> simp [PyData.eqv, PyData.eqvAll]
  rw [this]; exact h
theorem ne_nilR {rs : List Rt} {mu : Mu} {Q : QW} (h : Q (.bl (!decide (rs = []))) mu) : cmpR .NotEq (.lst (rs.map rtW)) (.lst []) mu Q := eq_nilR (Q := fun b => Q (.bl (!b)) mu) h
theorem filt_rtd {c : W → Bool} (d : Rt → Bool) (h : ∀ i, c (rtW i) = d i) (l : List Rt) : ((l.map rtW).filter c).map id = (l.filter d).map rtW := by
  rw [List.map_id, List.filter_map]
  congr 2
  funext i
  exact h i
theorem ok_law_shown_rings (F : Fe) (h1 : F.fn "_law_is_ring" = sp_is_ring) (h2 : F.fn "_law_near" = sp_law_near) (h3 : F.fn "_law_are_near" = sp_law_are_near) : ∀ ws mu Q, sp_shown_by_rings ws mu Q → ws.length = 2 ∧ (b_law_shown_rings).wp F (endR Q) (startW n_law_shown_rings ws) mu := by
  rintro ws mu Q ⟨n, cs, th, rfl, hW, hz, hzr, hq⟩
  refine ⟨rfl, ?_⟩
  show (b_law_shown_rings).wp F (endR Q) [some (webW n cs), some (thW th), none, none, none, none, none] mu
  simp only [SL.wp, S.wp, E.wp, C.wp, EL.wp, CO.wp, EO.wp, T.wp, TL.wp, I.wp, getS0, getSs, Cn.w, List.set_cons_zero, List.set_cons_succ, wipeW, Bool.false_eq_true, if_false, if_true, tl2, lt_ii, le_ii, gt_ii, ge_ii, eq_ii, eq_ss, int_i, ne_ii, ne_bb, eq_bb, add_ii, sub_ii, mod_ii, add_tt, add_ll, optQ_s, decide_eq_true_eq, Bool.not_eq_true', decide_eq_false_iff_not, Bool.not_true, Bool.not_false, Bool.true_eq_false, not_true_eq_false, not_false_eq_true, b_law_shown_rings, h1]
  refine isi_tuple (tyd_th th) ?_
  rw [tup_th]
  obtain ⟨b, rs⟩ := th
  cases b with
  | false =>
    simp only [SL.wp, S.wp, E.wp, C.wp, EL.wp, CO.wp, EO.wp, T.wp, TL.wp, I.wp, getS0, getSs, Cn.w, List.set_cons_zero, List.set_cons_succ, wipeW, Bool.false_eq_true, if_false, if_true, tl2, lt_ii, le_ii, gt_ii, ge_ii, eq_ii, eq_ss, int_i, ne_ii, ne_bb, eq_bb, add_ii, sub_ii, mod_ii, add_tt, add_ll, optQ_s, decide_eq_true_eq, Bool.not_eq_true', decide_eq_false_iff_not, Bool.not_true, Bool.not_false, Bool.true_eq_false, not_true_eq_false, not_false_eq_true, b_law_shown_rings_0t0]
    rw [shown_no (fun z => Bool.noConfusion z.1)] at hq
    exact ret_same hq
  | true =>
    simp only [SL.wp, S.wp, E.wp, C.wp, EL.wp, CO.wp, EO.wp, T.wp, TL.wp, I.wp, getS0, getSs, Cn.w, List.set_cons_zero, List.set_cons_succ, wipeW, Bool.false_eq_true, if_false, if_true, tl2, lt_ii, le_ii, gt_ii, ge_ii, eq_ii, eq_ss, int_i, ne_ii, ne_bb, eq_bb, add_ii, sub_ii, mod_ii, add_tt, add_ll, optQ_s, decide_eq_true_eq, Bool.not_eq_true', decide_eq_false_iff_not, Bool.not_true, Bool.not_false, Bool.true_eq_false, not_true_eq_false, not_false_eq_true]
    show ∀ p, mu p = none → _
    intro p hp
    simp only at hz hzr
    refine comp_p hp (fun w => !(ringB n cs (invRt w))) id (le_sz (by rw [List.length_map]; omega)) .free True.intro ?_ ?_
    · intro w m G N hw _ g1 g2
      obtain ⟨r, rfl, hr⟩ := take_rts hw
      simp only [SL.wp, S.wp, E.wp, C.wp, EL.wp, CO.wp, EO.wp, T.wp, TL.wp, I.wp, getS0, getSs, Cn.w, List.set_cons_zero, List.set_cons_succ, wipeW, Bool.false_eq_true, if_false, if_true, tl2, lt_ii, le_ii, gt_ii, ge_ii, eq_ii, eq_ss, int_i, ne_ii, ne_bb, eq_bb, add_ii, sub_ii, mod_ii, add_tt, add_ll, optQ_s, decide_eq_true_eq, Bool.not_eq_true', decide_eq_false_iff_not, Bool.not_true, Bool.not_false, Bool.true_eq_false, not_true_eq_false, not_false_eq_true]
      refine ⟨n, cs, r, rfl, hW, hzr r hr, fun b hb => ?_⟩
      simp only [inv_rt] at g1 g2
      have : b = ringB n cs r := by rw [Bool.eq_iff_iff, hb, ringB_iff]
      rw [this]
      cases e : ringB n cs r
      · simp only [SL.wp, S.wp, E.wp, C.wp, EL.wp, CO.wp, EO.wp, T.wp, TL.wp, I.wp, getS0, getSs, Cn.w, List.set_cons_zero, List.set_cons_succ, wipeW, Bool.false_eq_true, if_false, if_true, tl2, lt_ii, le_ii, gt_ii, ge_ii, eq_ii, eq_ss, int_i, ne_ii, ne_bb, eq_bb, add_ii, sub_ii, mod_ii, add_tt, add_ll, optQ_s, decide_eq_true_eq, Bool.not_eq_true', decide_eq_false_iff_not, Bool.not_true, Bool.not_false, Bool.true_eq_false, not_true_eq_false, not_false_eq_true]
        exact g1 (by rw [e]; rfl)
      · simp only [SL.wp, S.wp, E.wp, C.wp, EL.wp, CO.wp, EO.wp, T.wp, TL.wp, I.wp, getS0, getSs, Cn.w, List.set_cons_zero, List.set_cons_succ, wipeW, Bool.false_eq_true, if_false, if_true, tl2, lt_ii, le_ii, gt_ii, ge_ii, eq_ii, eq_ss, int_i, ne_ii, ne_bb, eq_bb, add_ii, sub_ii, mod_ii, add_tt, add_ll, optQ_s, decide_eq_true_eq, Bool.not_eq_true', decide_eq_false_iff_not, Bool.not_true, Bool.not_false, Bool.true_eq_false, not_true_eq_false, not_false_eq_true]
        exact g2 (by rw [e]; rfl)
    · rw [dell_sett hp, filt_rtd (fun r => !(ringB n cs r)) (fun r => by rw [inv_rt])]
      refine newL_f (Nat.zero_le _) (ne_nilR ?_)
      simp only [SL.wp, S.wp, E.wp, C.wp, EL.wp, CO.wp, EO.wp, T.wp, TL.wp, I.wp, getS0, getSs, Cn.w, List.set_cons_zero, List.set_cons_succ, wipeW, Bool.false_eq_true, if_false, if_true, tl2, lt_ii, le_ii, gt_ii, ge_ii, eq_ii, eq_ss, int_i, ne_ii, ne_bb, eq_bb, add_ii, sub_ii, mod_ii, add_tt, add_ll, optQ_s, decide_eq_true_eq, Bool.not_eq_true', decide_eq_false_iff_not, Bool.not_true, Bool.not_false, Bool.true_eq_false, not_true_eq_false, not_false_eq_true]
      have hfe : (rs.filter fun r => !(ringB n cs r)) = [] ↔ ∀ r ∈ rs, RingP n cs r := by
        rw [List.filter_eq_nil_iff]
        constructor
        · intro z r hr
          have := z r hr
          rw [← ringB_iff]; simpa using this
        · intro z r hr
          rw [ringB_iff.mpr (z r hr)]; decide
      by_cases hall : (rs.filter fun r => !(ringB n cs r)) = []
      · rw [if_neg (fun z => z hall)]
        have hall' := hfe.mp hall
        simp only [SL.wp, S.wp, E.wp, C.wp, EL.wp, CO.wp, EO.wp, T.wp, TL.wp, I.wp, getS0, getSs, Cn.w, List.set_cons_zero, List.set_cons_succ, wipeW, Bool.false_eq_true, if_false, if_true, tl2, lt_ii, le_ii, gt_ii, ge_ii, eq_ii, eq_ss, int_i, ne_ii, ne_bb, eq_bb, add_ii, sub_ii, mod_ii, add_tt, add_ll, optQ_s, decide_eq_true_eq, Bool.not_eq_true', decide_eq_false_iff_not, Bool.not_true, Bool.not_false, Bool.true_eq_false, not_true_eq_false, not_false_eq_true, b_law_shown_rings_1, h2]
        refine ⟨n, cs, rfl, by have := hW.le; omega, hW.ran, hW.len, ?_⟩
        simp only [SL.wp, S.wp, E.wp, C.wp, EL.wp, CO.wp, EO.wp, T.wp, TL.wp, I.wp, getS0, getSs, Cn.w, List.set_cons_zero, List.set_cons_succ, wipeW, Bool.false_eq_true, if_false, if_true, tl2, lt_ii, le_ii, gt_ii, ge_ii, eq_ii, eq_ss, int_i, ne_ii, ne_bb, eq_bb, add_ii, sub_ii, mod_ii, add_tt, add_ll, optQ_s, decide_eq_true_eq, Bool.not_eq_true', decide_eq_false_iff_not, Bool.not_true, Bool.not_false, Bool.true_eq_false, not_true_eq_false, not_false_eq_true, b_law_shown_rings_2]
        refine ⟨rs.map rtW, rfl, ?_⟩
        refine forW_inv (fun i t m => m = mu ∧ (∃ x y z u, t = [some (webW n cs), some (thW (true, rs)), x, some (nearW n cs), y, z, u]) ∧ ∀ a b x y, a < b → b < i → rs[a]? = some x → rs[b]? = some y → ApartP cs y x) ⟨rfl, ⟨_, _, _, _, rfl⟩, fun _ _ _ _ _ h => absurd h (Nat.not_lt_zero _)⟩ (fun _ _ _ _ _ => True.intro) ?_ ?_
        · rintro i w t m R hw ⟨rfl, ⟨x, y, z, u, rfl⟩, hI⟩ k
          obtain ⟨w1, hw1, rfl⟩ := enuW_get _ _ _ _ hw
          rw [List.getElem?_map] at hw1
          cases er : rs[i]? with
          | none => rw [er] at hw1; cases hw1
          | some r =>
            rw [er] at hw1; cases hw1
            have hil : i < rs.length := (List.getElem?_eq_some_iff.mp er).1
            have hr := hall' r (List.mem_of_getElem? er)
            obtain ⟨bb, l⟩ := r
            obtain ⟨rfl, hin, hnd⟩ : bb = true ∧ (∀ x ∈ l, 0 ≤ x ∧ x < (n : Int)) ∧ l.Nodup := hr.1
            have hll := hzr _ (List.mem_of_getElem? er)
            simp only at hll
            rw [Nat.zero_add]
            refine ⟨rfl, ?_⟩
            simp only [SL.wp, S.wp, E.wp, C.wp, EL.wp, CO.wp, EO.wp, T.wp, TL.wp, I.wp, getS0, getSs, Cn.w, List.set_cons_zero, List.set_cons_succ, wipeW, Bool.false_eq_true, if_false, if_true, tl2, lt_ii, le_ii, gt_ii, ge_ii, eq_ii, eq_ss, int_i, ne_ii, ne_bb, eq_bb, add_ii, sub_ii, mod_ii, add_tt, add_ll, optQ_s, decide_eq_true_eq, Bool.not_eq_true', decide_eq_false_iff_not, Bool.not_true, Bool.not_false, Bool.true_eq_false, not_true_eq_false, not_false_eq_true, b_law_shown_rings_2b0]
            refine slT_to (k := i) rfl ?_
            show forW _ _ .free _ ((rs.map rtW).take i) _ m
            refine forW_inv (fun j t m' => m' = m ∧ (∃ z u, t = [some (webW n cs), some (thW (true, rs)), some (.tup (l.map FF.W.int)), some (nearW n cs), some (.int i), z, u]) ∧ ∀ a x, a < j → rs[a]? = some x → ApartP cs (true, l) x) ⟨rfl, ⟨_, _, rfl⟩, fun _ _ h => absurd h (Nat.not_lt_zero _)⟩ (fun _ _ _ _ _ => True.intro) ?_ ?_
            · rintro j w t m' R2 hw ⟨rfl, ⟨z, u, rfl⟩, hJ⟩ k2
              rw [List.getElem?_take] at hw
              split at hw
              · rename_i hji
                rw [List.getElem?_map] at hw
                cases eo : rs[j]? with
                | none => rw [eo] at hw; cases hw
                | some o =>
                  rw [eo] at hw; cases hw
                  have ho := hall' o (List.mem_of_getElem? eo)
                  obtain ⟨bo, lo⟩ := o
                  obtain ⟨rfl, hino, hndo⟩ : bo = true ∧ (∀ x ∈ lo, 0 ≤ x ∧ x < (n : Int)) ∧ lo.Nodup := ho.1
                  simp only [SL.wp, S.wp, E.wp, C.wp, EL.wp, CO.wp, EO.wp, T.wp, TL.wp, I.wp, getS0, getSs, Cn.w, List.set_cons_zero, List.set_cons_succ, wipeW, Bool.false_eq_true, if_false, if_true, tl2, lt_ii, le_ii, gt_ii, ge_ii, eq_ii, eq_ss, int_i, ne_ii, ne_bb, eq_bb, add_ii, sub_ii, mod_ii, add_tt, add_ll, optQ_s, decide_eq_true_eq, Bool.not_eq_true', decide_eq_false_iff_not, Bool.not_true, Bool.not_false, Bool.true_eq_false, not_true_eq_false, not_false_eq_true, b_law_shown_rings_2b0b0, h3]
                  show ∀ p, m' p = none → _
                  intro p hp
                  refine comp_p hp (fun w => decide (intV w ∈ lo)) id (le_sz (by rw [List.length_map]; omega)) .free True.intro ?_ ?_
                  · intro w m G N hw _ g1 g2
                    obtain ⟨b, rfl, hb⟩ := take_ints hw
                    have g1 : decide (b ∈ lo) = true → G (.int b) m := g1
                    have g2 : decide (b ∈ lo) = false → N m := g2
                    simp only [SL.wp, S.wp, E.wp, C.wp, EL.wp, CO.wp, EO.wp, T.wp, TL.wp, I.wp, getS0, getSs, Cn.w, List.set_cons_zero, List.set_cons_succ, wipeW, Bool.false_eq_true, if_false, if_true, tl2, lt_ii, le_ii, gt_ii, ge_ii, eq_ii, eq_ss, int_i, ne_ii, ne_bb, eq_bb, add_ii, sub_ii, mod_ii, add_tt, add_ll, optQ_s, decide_eq_true_eq, Bool.not_eq_true', decide_eq_false_iff_not, Bool.not_true, Bool.not_false, Bool.true_eq_false, not_true_eq_false, not_false_eq_true]
                    refine cin_t ?_
                    simp only [SL.wp, S.wp, E.wp, C.wp, EL.wp, CO.wp, EO.wp, T.wp, TL.wp, I.wp, getS0, getSs, Cn.w, List.set_cons_zero, List.set_cons_succ, wipeW, Bool.false_eq_true, if_false, if_true, tl2, lt_ii, le_ii, gt_ii, ge_ii, eq_ii, eq_ss, int_i, ne_ii, ne_bb, eq_bb, add_ii, sub_ii, mod_ii, add_tt, add_ll, optQ_s, decide_eq_true_eq, Bool.not_eq_true', decide_eq_false_iff_not, Bool.not_true, Bool.not_false, Bool.true_eq_false, not_true_eq_false, not_false_eq_true]
                    by_cases hc : b ∈ lo
                    · rw [if_pos hc]; exact g1 (decide_eq_true hc)
                    · rw [if_neg hc]; exact g2 (decide_eq_false hc)
                  · rw [dell_sett hp, filt_intd (fun (b : Int) => decide (b ∈ lo)) (fun _ => rfl)]
                    refine ⟨n, cs, _, rfl, fun x hx => hin x (List.mem_filter.mp hx).1, Nat.le_trans (List.length_filter_le _ _) (by omega), fun b hb => ?_⟩
                    have hb : b = true ↔ ApartP cs (true, l) (true, lo) := by
                      rw [hb]
                      unfold ApartP
                      constructor
                      · intro h x hx y hy hx' hy' hne
                        exact h x (List.mem_filter.mpr ⟨hx, decide_eq_true hx'⟩) y (List.mem_filter.mpr ⟨hy, decide_eq_true hy'⟩) hne
                      · intro h x hx y hy hne
                        obtain ⟨g1, g2⟩ := List.mem_filter.mp hx
                        obtain ⟨g3, g4⟩ := List.mem_filter.mp hy
                        exact h x g1 y g3 (of_decide_eq_true g2) (of_decide_eq_true g4) hne
                    cases b with
                    | true =>
                      simp only [SL.wp, S.wp, E.wp, C.wp, EL.wp, CO.wp, EO.wp, T.wp, TL.wp, I.wp, getS0, getSs, Cn.w, List.set_cons_zero, List.set_cons_succ, wipeW, Bool.false_eq_true, if_false, if_true, tl2, lt_ii, le_ii, gt_ii, ge_ii, eq_ii, eq_ss, int_i, ne_ii, ne_bb, eq_bb, add_ii, sub_ii, mod_ii, add_tt, add_ll, optQ_s, decide_eq_true_eq, Bool.not_eq_true', decide_eq_false_iff_not, Bool.not_true, Bool.not_false, Bool.true_eq_false, not_true_eq_false, not_false_eq_true]
                      refine k2 _ _ ⟨rfl, ⟨_, _, rfl⟩, fun a x ha ex => ?_⟩
                      by_cases haj : a = j
                      · subst haj
                        rw [eo] at ex; cases ex
                        exact hb.mp rfl
                      · exact hJ a x (by omega) ex
                    | false =>
                      simp only [SL.wp, S.wp, E.wp, C.wp, EL.wp, CO.wp, EO.wp, T.wp, TL.wp, I.wp, getS0, getSs, Cn.w, List.set_cons_zero, List.set_cons_succ, wipeW, Bool.false_eq_true, if_false, if_true, tl2, lt_ii, le_ii, gt_ii, ge_ii, eq_ii, eq_ss, int_i, ne_ii, ne_bb, eq_bb, add_ii, sub_ii, mod_ii, add_tt, add_ll, optQ_s, decide_eq_true_eq, Bool.not_eq_true', decide_eq_false_iff_not, Bool.not_true, Bool.not_false, Bool.true_eq_false, not_true_eq_false, not_false_eq_true, b_law_shown_rings_2b0b0t0]
                      rw [shown_no (fun z => ?_)] at hq
                      · exact ret_same hq
                      · refine absurd (hb.mpr ?_) Bool.false_ne_true
                        have hp := List.pairwise_iff_getElem.mp z.2.2 j i (show j < rs.length from (List.getElem?_eq_some_iff.mp eo).1) hil hji
                        have e1 : rs[j] = (true, lo) := by
                          have := (List.getElem?_eq_some_iff.mp eo).2
                          exact this
                        have e2 : rs[i] = (true, l) := by
                          have := (List.getElem?_eq_some_iff.mp er).2
                          exact this
                        have hp : ApartP cs rs[j] rs[i] := hp
                        rw [e1, e2] at hp
                        intro x hx y hy hx' hy' hne
                        exact hp x hx' y hy' hx hy hne
              · cases hw
            · rintro t m' ⟨rfl, ⟨z, u, rfl⟩, hJ⟩
              rw [List.length_take, List.length_map, Nat.min_eq_left (by omega)] at hJ
              refine k _ _ ⟨rfl, ⟨_, _, _, _, rfl⟩, fun a b x y hab hb ea eb => ?_⟩
              by_cases hbi : b = i
              · subst hbi
                rw [er] at eb; cases eb
                exact hJ a x hab ea
              · exact hI a b x y hab (by omega) ea eb
        · rintro t m ⟨rfl, ⟨x, y, z, u, rfl⟩, hI⟩
          rw [enuW_len, List.length_map] at hI
          simp only [SL.wp, S.wp, E.wp, C.wp, EL.wp, CO.wp, EO.wp, T.wp, TL.wp, I.wp, getS0, getSs, Cn.w, List.set_cons_zero, List.set_cons_succ, wipeW, Bool.false_eq_true, if_false, if_true, tl2, lt_ii, le_ii, gt_ii, ge_ii, eq_ii, eq_ss, int_i, ne_ii, ne_bb, eq_bb, add_ii, sub_ii, mod_ii, add_tt, add_ll, optQ_s, decide_eq_true_eq, Bool.not_eq_true', decide_eq_false_iff_not, Bool.not_true, Bool.not_false, Bool.true_eq_false, not_true_eq_false, not_false_eq_true, b_law_shown_rings_3]
          have hpw : rs.Pairwise (ApartP cs) := by
            rw [List.pairwise_iff_getElem]
            intro i j hi hj hij x hx y hy hx' hy' hne
            exact hI i j _ _ hij hj (List.getElem?_eq_getElem hi) (List.getElem?_eq_getElem hj) x hx' y hy' hx hy hne
          rw [shown_yes ⟨rfl, hall', hpw⟩] at hq
          show ∀ p, m p = none → _
          intro p hp
          refine comp_m hp (fun w => .int ((invRt w).2.length - 3)) (by rw [List.length_map]; exact le_sz (by omega)) .free True.intro ?_ ?_
          · intro w m G hw _ k
            obtain ⟨r, rfl, hr⟩ := take_rts hw
            simp only [SL.wp, S.wp, E.wp, C.wp, EL.wp, CO.wp, EO.wp, T.wp, TL.wp, I.wp, getS0, getSs, Cn.w, List.set_cons_zero, List.set_cons_succ, wipeW, Bool.false_eq_true, if_false, if_true, tl2, lt_ii, le_ii, gt_ii, ge_ii, eq_ii, eq_ss, int_i, ne_ii, ne_bb, eq_bb, add_ii, sub_ii, mod_ii, add_tt, add_ll, optQ_s, decide_eq_true_eq, Bool.not_eq_true', decide_eq_false_iff_not, Bool.not_true, Bool.not_false, Bool.true_eq_false, not_true_eq_false, not_false_eq_true]
            refine len_rt ?_
            simp only [inv_rt] at k
            exact k
          · rw [dell_sett hp, List.map_map]
            have e : (fun w => FF.W.int (((invRt w).2.length : Nat) - 3)) ∘ rtW = fun (r : Rt) => FF.W.int ((r.2.length : Int) - 3) := by funext r; simp only [Function.comp, inv_rt]
            rw [e]
            exact ⟨_, _, rfl, ints_map _ _, ret_same hq⟩
      · rw [if_pos hall]
        simp only [SL.wp, S.wp, E.wp, C.wp, EL.wp, CO.wp, EO.wp, T.wp, TL.wp, I.wp, getS0, getSs, Cn.w, List.set_cons_zero, List.set_cons_succ, wipeW, Bool.false_eq_true, if_false, if_true, tl2, lt_ii, le_ii, gt_ii, ge_ii, eq_ii, eq_ss, int_i, ne_ii, ne_bb, eq_bb, add_ii, sub_ii, mod_ii, add_tt, add_ll, optQ_s, decide_eq_true_eq, Bool.not_eq_true', decide_eq_false_iff_not, Bool.not_true, Bool.not_false, Bool.true_eq_false, not_true_eq_false, not_false_eq_true, b_law_shown_rings_0t0]
        rw [shown_no (fun z => hall (hfe.mpr z.2.1))] at hq
        exact ret_same hq
def thD : Bool × List Rt → PyData
  | (true, l) => .tuple (l.map rtD)
  | (false, l) => .list (l.map rtD)
theorem toD_th (r : Bool × List Rt) : toD (thW r) = some (thD r) := by
  obtain ⟨b, l⟩ := r
  cases b
  · show (toDs (l.map rtW)).map _ = _
    rw [toDs_rts]; rfl
  · show (toDs (l.map rtW)).map _ = _
    rw [toDs_rts]; rfl
theorem can_th (r : Bool × List Rt) : (thD r).canLay0 = true := by
  obtain ⟨b, l⟩ := r
  cases b <;> simp only [thD, PyData.canLay0, can_rts]
theorem dep_th (r : Bool × List Rt) : (thD r).depth ≤ 2 := by
  obtain ⟨b, l⟩ := r
  have := dep_rts l
  cases b <;> simp only [thD, PyData.depth] <;> omega
def papD (th : Bool × List Rt) : PyData := .tuple [.str "rings", thD th]
theorem toD_pap (th : Bool × List Rt) : toD (papW th) = some (papD th) := by
  show (toDs [.str "rings", thW th]).map _ = _
  simp only [toDs, toD_th, toD, Option.map_some]
  rfl
theorem can_pap (th : Bool × List Rt) : (papD th).canLay0 = true := by
  have : PyData.strOk "rings" = true := by decide +kernel
  simp only [papD, PyData.canLay0, PyData.canLayAll0, can_th, this, Bool.and_self]
theorem dep_pap (th : Bool × List Rt) : (papD th).depth ≤ 3 := by
  have := dep_th th
  simp only [papD, PyData.depth, PyData.depthAll]
  omega
theorem eq_pap {th : Bool × List Rt} {mu : Mu} {Q : QW} (h : Q (.bl false) mu) : cmpR .Eq (papW th) (.tup []) mu Q :=
  ⟨papD th, .tuple [], toD_pap th, (show toD (.tup []) = some (.tuple []) by simp only [toD, toDs, Option.map_some]), shaped_of (can_pap th) (by have := dep_pap th; omega), shaped_intsT [], by
    show Q (.bl (PyData.eqv (papD th) (.tuple []))) mu
    have : PyData.eqv (papD th) (.tuple []) = false := by simp only [papD, PyData.eqv, PyData.eqvAll]
    rw [this]; exact h⟩
theorem ok_law_shown (F : Fe) (h1 : F.fn "_law_shown_rings" = sp_shown_by_rings) : ∀ ws mu Q, sp_shown_by ws mu Q → ws.length = 2 ∧ (b_law_shown).wp F (endR Q) (startW n_law_shown ws) mu := by
  rintro ws mu Q ⟨n, cs, th, rfl, hW, hz, hzr, hq⟩
  refine ⟨rfl, ?_⟩
  show (b_law_shown).wp F (endR Q) [some (webW n cs), some (papW th), none, none, none, none, none] mu
  simp only [SL.wp, S.wp, E.wp, C.wp, EL.wp, CO.wp, EO.wp, T.wp, TL.wp, I.wp, getS0, getSs, Cn.w, List.set_cons_zero, List.set_cons_succ, wipeW, Bool.false_eq_true, if_false, if_true, tl2, lt_ii, le_ii, gt_ii, ge_ii, eq_ii, eq_ss, int_i, ne_ii, ne_bb, eq_bb, add_ii, sub_ii, mod_ii, add_tt, add_ll, optQ_s, decide_eq_true_eq, Bool.not_eq_true', decide_eq_false_iff_not, Bool.not_true, Bool.not_false, Bool.true_eq_false, not_true_eq_false, not_false_eq_true, b_law_shown]
  refine isi_tuple (w := papW th) rfl ?_
  simp only [SL.wp, S.wp, E.wp, C.wp, EL.wp, CO.wp, EO.wp, T.wp, TL.wp, I.wp, getS0, getSs, Cn.w, List.set_cons_zero, List.set_cons_succ, wipeW, Bool.false_eq_true, if_false, if_true, tl2, lt_ii, le_ii, gt_ii, ge_ii, eq_ii, eq_ss, int_i, ne_ii, ne_bb, eq_bb, add_ii, sub_ii, mod_ii, add_tt, add_ll, optQ_s, decide_eq_true_eq, Bool.not_eq_true', decide_eq_false_iff_not, Bool.not_true, Bool.not_false, Bool.true_eq_false, not_true_eq_false, not_false_eq_true, isTupW, papW]
  refine ⟨Nat.zero_le _, eq_pap ?_⟩
  simp only [SL.wp, S.wp, E.wp, C.wp, EL.wp, CO.wp, EO.wp, T.wp, TL.wp, I.wp, getS0, getSs, Cn.w, List.set_cons_zero, List.set_cons_succ, wipeW, Bool.false_eq_true, if_false, if_true, tl2, lt_ii, le_ii, gt_ii, ge_ii, eq_ii, eq_ss, int_i, ne_ii, ne_bb, eq_bb, add_ii, sub_ii, mod_ii, add_tt, add_ll, optQ_s, decide_eq_true_eq, Bool.not_eq_true', decide_eq_false_iff_not, Bool.not_true, Bool.not_false, Bool.true_eq_false, not_true_eq_false, not_false_eq_true]
  refine idx_tup (w := .str "rings") rfl (isi_str (w := .str "rings") rfl ?_)
  simp only [SL.wp, S.wp, E.wp, C.wp, EL.wp, CO.wp, EO.wp, T.wp, TL.wp, I.wp, getS0, getSs, Cn.w, List.set_cons_zero, List.set_cons_succ, wipeW, Bool.false_eq_true, if_false, if_true, tl2, lt_ii, le_ii, gt_ii, ge_ii, eq_ii, eq_ss, int_i, ne_ii, ne_bb, eq_bb, add_ii, sub_ii, mod_ii, add_tt, add_ll, optQ_s, decide_eq_true_eq, Bool.not_eq_true', decide_eq_false_iff_not, Bool.not_true, Bool.not_false, Bool.true_eq_false, not_true_eq_false, not_false_eq_true, isStrW]
  simp only [SL.wp, S.wp, E.wp, C.wp, EL.wp, CO.wp, EO.wp, T.wp, TL.wp, I.wp, getS0, getSs, Cn.w, List.set_cons_zero, List.set_cons_succ, wipeW, Bool.false_eq_true, if_false, if_true, tl2, lt_ii, le_ii, gt_ii, ge_ii, eq_ii, eq_ss, int_i, ne_ii, ne_bb, eq_bb, add_ii, sub_ii, mod_ii, add_tt, add_ll, optQ_s, decide_eq_true_eq, Bool.not_eq_true', decide_eq_false_iff_not, Bool.not_true, Bool.not_false, Bool.true_eq_false, not_true_eq_false, not_false_eq_true, b_law_shown_1]
  refine idx_tup (w := .str "rings") rfl ?_
  simp only [SL.wp, S.wp, E.wp, C.wp, EL.wp, CO.wp, EO.wp, T.wp, TL.wp, I.wp, getS0, getSs, Cn.w, List.set_cons_zero, List.set_cons_succ, wipeW, Bool.false_eq_true, if_false, if_true, tl2, lt_ii, le_ii, gt_ii, ge_ii, eq_ii, eq_ss, int_i, ne_ii, ne_bb, eq_bb, add_ii, sub_ii, mod_ii, add_tt, add_ll, optQ_s, decide_eq_true_eq, Bool.not_eq_true', decide_eq_false_iff_not, Bool.not_true, Bool.not_false, Bool.true_eq_false, not_true_eq_false, not_false_eq_true]
  refine len_tup ?_
  simp only [SL.wp, S.wp, E.wp, C.wp, EL.wp, CO.wp, EO.wp, T.wp, TL.wp, I.wp, getS0, getSs, Cn.w, List.set_cons_zero, List.set_cons_succ, wipeW, Bool.false_eq_true, if_false, if_true, tl2, lt_ii, le_ii, gt_ii, ge_ii, eq_ii, eq_ss, int_i, ne_ii, ne_bb, eq_bb, add_ii, sub_ii, mod_ii, add_tt, add_ll, optQ_s, decide_eq_true_eq, Bool.not_eq_true', decide_eq_false_iff_not, Bool.not_true, Bool.not_false, Bool.true_eq_false, not_true_eq_false, not_false_eq_true]
  rw [if_pos (by simp)]
  simp only [SL.wp, S.wp, E.wp, C.wp, EL.wp, CO.wp, EO.wp, T.wp, TL.wp, I.wp, getS0, getSs, Cn.w, List.set_cons_zero, List.set_cons_succ, wipeW, Bool.false_eq_true, if_false, if_true, tl2, lt_ii, le_ii, gt_ii, ge_ii, eq_ii, eq_ss, int_i, ne_ii, ne_bb, eq_bb, add_ii, sub_ii, mod_ii, add_tt, add_ll, optQ_s, decide_eq_true_eq, Bool.not_eq_true', decide_eq_false_iff_not, Bool.not_true, Bool.not_false, Bool.true_eq_false, not_true_eq_false, not_false_eq_true, b_law_shown_1t0, h1]
  refine idx_tup (w := thW th) rfl ?_
  exact ⟨n, cs, th, rfl, hW, hz, hzr, ret_same hq⟩
end FF

/-! The deck. -/
namespace FF
open PySem PySem.Spec PyProof.Rows L2
/-- a deck stands at a, its cells at b -/
def Dk (a b : Addr) (mu : Mu) : Prop := a ≠ b ∧ ∃ (cells : List Int) (seed n : Int), mu a = some (.lst [.ref b, .int seed, .int n]) ∧ mu b = some (.lst (cells.map W.int)) ∧ cells.length ≤ 1000
/-- nothing but the deck has changed -/
structure Dr (a b : Addr) (mu mu' : Mu) : Prop where
  dk : Dk a b mu'
  fr : ∀ c, c ≠ a → c ≠ b → mu' c = mu c
theorem Dr.trans {a b : Addr} {m1 m2 m3 : Mu} (h : Dr a b m1 m2) (k : Dr a b m2 m3) : Dr a b m1 m3 := ⟨k.dk, fun c h1 h2 => (k.fr c h1 h2).trans (h.fr c h1 h2)⟩
theorem Dr.refl {a b : Addr} {m : Mu} (h : Dk a b m) : Dr a b m m := ⟨h, fun _ _ _ => rfl⟩
theorem mul_ii {i j : Int} {mu : Mu} {Q : QW} (h : CMul i j) (q : Q (.int (i * j)) mu) : binR .Mult (.int i) (.int j) mu Q := ⟨h.ok, q⟩
theorem max_ii {i j : Int} {mu : Mu} {Q : QW} : bifR .max2 [.int i, .int j] mu Q = Q (.int (if j > i then j else i)) mu := rfl
theorem min_ii {i j : Int} {mu : Mu} {Q : QW} : bifR .min2 [.int i, .int j] mu Q = Q (.int (if j < i then j else i)) mu := rfl
def sp_law_draw : SpW := fun ws mu Q => ∃ (a b : Addr) (most : Int), ws = [.ref a, .int most] ∧ 0 < most ∧ most ≤ 1000000 ∧ Dk a b mu ∧ ∀ r mu', 0 ≤ r → r < most → Dr a b mu mu' → Q (.int r) mu'
theorem fmod_rng (i : Int) {m : Int} (h : 0 < m) : 0 ≤ i.fmod m ∧ i.fmod m < m := ⟨Int.fmod_nonneg_of_pos _ h, Int.fmod_lt_of_pos _ h⟩
theorem set_l {a : Addr} {ws : List W} {i : Int} {j : Nat} {w : W} {mu : Mu} {Q : Mu → Prop} (hm : mu a = some (.lst ws)) (hi : i = (j : Int)) (hj : j < ws.length) (h : Q (sett mu a (.lst (ws.set j w)))) : setR (.ref a) (.int i) w mu Q := by
  unfold setR
  dsimp only
  rw [hm]
  refine ⟨j, ?_, h⟩
  subst hi
  unfold ixN
  rw [if_pos (by omega), if_pos (by omega), Int.toNat_natCast]
theorem ok_law_draw (F : Fe) : ∀ ws mu Q, sp_law_draw ws mu Q → ws.length = 2 ∧ (b_law_draw).wp F (endR Q) (startW n_law_draw ws) mu := by
  rintro ws mu Q ⟨a, b, most, rfl, h0, h1, ⟨hab, cells, seed, n, ha, hb, hl⟩, hq⟩
  refine ⟨rfl, ?_⟩
  show (b_law_draw).wp F (endR Q) [some (.ref a), some (.int most), none, none] mu
  simp only [SL.wp, S.wp, E.wp, C.wp, EL.wp, CO.wp, EO.wp, T.wp, TL.wp, I.wp, getS0, getSs, Cn.w, List.set_cons_zero, List.set_cons_succ, wipeW, Bool.false_eq_true, if_false, if_true, tl2, lt_ii, le_ii, gt_ii, ge_ii, eq_ii, eq_ss, int_i, ne_ii, ne_bb, eq_bb, add_ii, sub_ii, mod_ii, add_tt, add_ll, optQ_s, decide_eq_true_eq, Bool.not_eq_true', decide_eq_false_iff_not, Bool.not_true, Bool.not_false, Bool.true_eq_false, not_true_eq_false, not_false_eq_true, b_law_draw]
  refine idx_ref ha (w := .int n) rfl ?_
  simp only [SL.wp, S.wp, E.wp, C.wp, EL.wp, CO.wp, EO.wp, T.wp, TL.wp, I.wp, getS0, getSs, Cn.w, List.set_cons_zero, List.set_cons_succ, wipeW, Bool.false_eq_true, if_false, if_true, tl2, lt_ii, le_ii, gt_ii, ge_ii, eq_ii, eq_ss, int_i, ne_ii, ne_bb, eq_bb, add_ii, sub_ii, mod_ii, add_tt, add_ll, optQ_s, decide_eq_true_eq, Bool.not_eq_true', decide_eq_false_iff_not, Bool.not_true, Bool.not_false, Bool.true_eq_false, not_true_eq_false, not_false_eq_true]
  refine set_l (j := 2) ha rfl (Nat.le_of_ble_eq_true rfl) ?_
  have e : [W.ref b, W.int seed, W.int n].set 2 (.int (n + 1)) = [W.ref b, W.int seed, W.int (n + 1)] := rfl
  rw [e]
  have ha' : sett mu a (.lst [W.ref b, W.int seed, W.int (n + 1)]) a = some (.lst [W.ref b, W.int seed, W.int (n + 1)]) := sett_same
  have hb' : sett mu a (.lst [W.ref b, W.int seed, W.int (n + 1)]) b = some (.lst (cells.map W.int)) := by rw [sett_ne (Ne.symm hab)]; exact hb
  have hfr : ∀ c, c ≠ a → c ≠ b → sett mu a (.lst [W.ref b, W.int seed, W.int (n + 1)]) c = mu c := fun c h _ => sett_ne h
  generalize sett mu a (.lst [W.ref b, W.int seed, W.int (n + 1)]) = m1 at ha' hb' hfr
  generalize n + 1 = n1 at ha'
  have rest : ∀ (cell : Int) (m2 : Mu) (x : Option W) (cells2 : List Int), m2 a = some (.lst [W.ref b, W.int seed, W.int n1]) → m2 b = some (.lst (cells2.map W.int)) → cells2.length ≤ 1000 → (∀ c, c ≠ a → c ≠ b → m2 c = mu c) → (b_law_draw_3).wp F (endR Q) [some (.ref a), some (.int most), some (.int cell), x] m2 := by
    intro cell m2 x cells2 g1 g2 gl g3
    simp only [SL.wp, S.wp, E.wp, C.wp, EL.wp, CO.wp, EO.wp, T.wp, TL.wp, I.wp, getS0, getSs, Cn.w, List.set_cons_zero, List.set_cons_succ, wipeW, Bool.false_eq_true, if_false, if_true, tl2, lt_ii, le_ii, gt_ii, ge_ii, eq_ii, eq_ss, int_i, ne_ii, ne_bb, eq_bb, add_ii, sub_ii, mod_ii, add_tt, add_ll, optQ_s, decide_eq_true_eq, Bool.not_eq_true', decide_eq_false_iff_not, Bool.not_true, Bool.not_false, Bool.true_eq_false, not_true_eq_false, not_false_eq_true, b_law_draw_3]
    refine ⟨by decide, idx_ref g1 (w := .int n1) rfl ?_⟩
    refine mul_ii (.inl (by omega)) ?_
    simp only [SL.wp, S.wp, E.wp, C.wp, EL.wp, CO.wp, EO.wp, T.wp, TL.wp, I.wp, getS0, getSs, Cn.w, List.set_cons_zero, List.set_cons_succ, wipeW, Bool.false_eq_true, if_false, if_true, tl2, lt_ii, le_ii, gt_ii, ge_ii, eq_ii, eq_ss, int_i, ne_ii, ne_bb, eq_bb, add_ii, sub_ii, mod_ii, add_tt, add_ll, optQ_s, decide_eq_true_eq, Bool.not_eq_true', decide_eq_false_iff_not, Bool.not_true, Bool.not_false, Bool.true_eq_false, not_true_eq_false, not_false_eq_true]
    refine mul_ii (.inr (by omega)) ?_
    simp only [SL.wp, S.wp, E.wp, C.wp, EL.wp, CO.wp, EO.wp, T.wp, TL.wp, I.wp, getS0, getSs, Cn.w, List.set_cons_zero, List.set_cons_succ, wipeW, Bool.false_eq_true, if_false, if_true, tl2, lt_ii, le_ii, gt_ii, ge_ii, eq_ii, eq_ss, int_i, ne_ii, ne_bb, eq_bb, add_ii, sub_ii, mod_ii, add_tt, add_ll, optQ_s, decide_eq_true_eq, Bool.not_eq_true', decide_eq_false_iff_not, Bool.not_true, Bool.not_false, Bool.true_eq_false, not_true_eq_false, not_false_eq_true]
    refine ⟨by decide, ?_⟩
    simp only [SL.wp, S.wp, E.wp, C.wp, EL.wp, CO.wp, EO.wp, T.wp, TL.wp, I.wp, getS0, getSs, Cn.w, List.set_cons_zero, List.set_cons_succ, wipeW, Bool.false_eq_true, if_false, if_true, tl2, lt_ii, le_ii, gt_ii, ge_ii, eq_ii, eq_ss, int_i, ne_ii, ne_bb, eq_bb, add_ii, sub_ii, mod_ii, add_tt, add_ll, optQ_s, decide_eq_true_eq, Bool.not_eq_true', decide_eq_false_iff_not, Bool.not_true, Bool.not_false, Bool.true_eq_false, not_true_eq_false, not_false_eq_true, b_law_draw_4]
    obtain ⟨r1, r2⟩ := fmod_rng ((cell.fmod 2147483629 + 7919 * n1) * 48271) (m := 2147483647) (by omega)
    generalize ((cell.fmod 2147483629 + 7919 * n1) * 48271).fmod 2147483647 = nu at r1 r2
    refine mul_ii (.inl (by omega)) (mul_ii (.inl (by omega)) ?_)
    simp only [SL.wp, S.wp, E.wp, C.wp, EL.wp, CO.wp, EO.wp, T.wp, TL.wp, I.wp, getS0, getSs, Cn.w, List.set_cons_zero, List.set_cons_succ, wipeW, Bool.false_eq_true, if_false, if_true, tl2, lt_ii, le_ii, gt_ii, ge_ii, eq_ii, eq_ss, int_i, ne_ii, ne_bb, eq_bb, add_ii, sub_ii, mod_ii, add_tt, add_ll, optQ_s, decide_eq_true_eq, Bool.not_eq_true', decide_eq_false_iff_not, Bool.not_true, Bool.not_false, Bool.true_eq_false, not_true_eq_false, not_false_eq_true]
    refine idx_ref g1 (w := .int n1) rfl ?_
    simp only [SL.wp, S.wp, E.wp, C.wp, EL.wp, CO.wp, EO.wp, T.wp, TL.wp, I.wp, getS0, getSs, Cn.w, List.set_cons_zero, List.set_cons_succ, wipeW, Bool.false_eq_true, if_false, if_true, tl2, lt_ii, le_ii, gt_ii, ge_ii, eq_ii, eq_ss, int_i, ne_ii, ne_bb, eq_bb, add_ii, sub_ii, mod_ii, add_tt, add_ll, optQ_s, decide_eq_true_eq, Bool.not_eq_true', decide_eq_false_iff_not, Bool.not_true, Bool.not_false, Bool.true_eq_false, not_true_eq_false, not_false_eq_true]
    refine ⟨by decide, ?_⟩
    simp only [SL.wp, S.wp, E.wp, C.wp, EL.wp, CO.wp, EO.wp, T.wp, TL.wp, I.wp, getS0, getSs, Cn.w, List.set_cons_zero, List.set_cons_succ, wipeW, Bool.false_eq_true, if_false, if_true, tl2, lt_ii, le_ii, gt_ii, ge_ii, eq_ii, eq_ss, int_i, ne_ii, ne_bb, eq_bb, add_ii, sub_ii, mod_ii, add_tt, add_ll, optQ_s, decide_eq_true_eq, Bool.not_eq_true', decide_eq_false_iff_not, Bool.not_true, Bool.not_false, Bool.true_eq_false, not_true_eq_false, not_false_eq_true, b_law_draw_5]
    refine ⟨⟨by decide, by decide⟩, ?_⟩
    simp only [SL.wp, S.wp, E.wp, C.wp, EL.wp, CO.wp, EO.wp, T.wp, TL.wp, I.wp, getS0, getSs, Cn.w, List.set_cons_zero, List.set_cons_succ, wipeW, Bool.false_eq_true, if_false, if_true, tl2, lt_ii, le_ii, gt_ii, ge_ii, eq_ii, eq_ss, int_i, ne_ii, ne_bb, eq_bb, add_ii, sub_ii, mod_ii, add_tt, add_ll, optQ_s, decide_eq_true_eq, Bool.not_eq_true', decide_eq_false_iff_not, Bool.not_true, Bool.not_false, Bool.true_eq_false, not_true_eq_false, not_false_eq_true]
    refine ⟨by omega, ?_⟩
    obtain ⟨r3, r4⟩ := fmod_rng (((nu * nu + 69621 * nu + n1).fmod 2147483587).fdiv 64) h0
    exact ret_same (hq _ _ r3 r4 ⟨⟨hab, cells2, seed, n1, g1, g2, gl⟩, g3⟩)
  simp only [SL.wp, S.wp, E.wp, C.wp, EL.wp, CO.wp, EO.wp, T.wp, TL.wp, I.wp, getS0, getSs, Cn.w, List.set_cons_zero, List.set_cons_succ, wipeW, Bool.false_eq_true, if_false, if_true, tl2, lt_ii, le_ii, gt_ii, ge_ii, eq_ii, eq_ss, int_i, ne_ii, ne_bb, eq_bb, add_ii, sub_ii, mod_ii, add_tt, add_ll, optQ_s, decide_eq_true_eq, Bool.not_eq_true', decide_eq_false_iff_not, Bool.not_true, Bool.not_false, Bool.true_eq_false, not_true_eq_false, not_false_eq_true, b_law_draw_1]
  refine idx_ref ha' (w := .int seed) rfl ?_
  refine idx_ref ha' (w := .int n1) rfl ?_
  refine mul_ii (.inl (by omega)) ?_
  simp only [SL.wp, S.wp, E.wp, C.wp, EL.wp, CO.wp, EO.wp, T.wp, TL.wp, I.wp, getS0, getSs, Cn.w, List.set_cons_zero, List.set_cons_succ, wipeW, Bool.false_eq_true, if_false, if_true, tl2, lt_ii, le_ii, gt_ii, ge_ii, eq_ii, eq_ss, int_i, ne_ii, ne_bb, eq_bb, add_ii, sub_ii, mod_ii, add_tt, add_ll, optQ_s, decide_eq_true_eq, Bool.not_eq_true', decide_eq_false_iff_not, Bool.not_true, Bool.not_false, Bool.true_eq_false, not_true_eq_false, not_false_eq_true, b_law_draw_2]
  refine idx_ref ha' (w := .ref b) rfl (newL_f (Nat.zero_le _) ?_)
  unfold cmpR
  dsimp only
  rw [vw_lst hb']
  refine eq_nilI ?_
  simp only [SL.wp, S.wp, E.wp, C.wp, EL.wp, CO.wp, EO.wp, T.wp, TL.wp, I.wp, getS0, getSs, Cn.w, List.set_cons_zero, List.set_cons_succ, wipeW, Bool.false_eq_true, if_false, if_true, tl2, lt_ii, le_ii, gt_ii, ge_ii, eq_ii, eq_ss, int_i, ne_ii, ne_bb, eq_bb, add_ii, sub_ii, mod_ii, add_tt, add_ll, optQ_s, decide_eq_true_eq, Bool.not_eq_true', decide_eq_false_iff_not, Bool.not_true, Bool.not_false, Bool.true_eq_false, not_true_eq_false, not_false_eq_true]
  by_cases hc : cells = []
  · rw [if_neg (fun z => z hc)]
    exact rest _ _ _ _ ha' hb' hl hfr
  · rw [if_pos hc]
    obtain ⟨init, x, rfl⟩ : ∃ l x, cells = l ++ [x] := (List.eq_nil_or_concat cells).resolve_left hc |>.imp fun l h => h.imp fun x e => by rw [e, List.concat_eq_append]
    simp only [SL.wp, S.wp, E.wp, C.wp, EL.wp, CO.wp, EO.wp, T.wp, TL.wp, I.wp, getS0, getSs, Cn.w, List.set_cons_zero, List.set_cons_succ, wipeW, Bool.false_eq_true, if_false, if_true, tl2, lt_ii, le_ii, gt_ii, ge_ii, eq_ii, eq_ss, int_i, ne_ii, ne_bb, eq_bb, add_ii, sub_ii, mod_ii, add_tt, add_ll, optQ_s, decide_eq_true_eq, Bool.not_eq_true', decide_eq_false_iff_not, Bool.not_true, Bool.not_false, Bool.true_eq_false, not_true_eq_false, not_false_eq_true, b_law_draw_2t0]
    refine idx_ref ha' (w := .ref b) rfl ⟨by rw [vw_lst hb']; rfl, ?_⟩
    refine ⟨init.map W.int, .int x, by rw [hb', List.map_append]; rfl, ?_⟩
    have ha2 : sett m1 b (.lst (init.map W.int)) a = some (.lst [W.ref b, W.int seed, W.int n1]) := by rw [sett_ne hab]; exact ha'
    have hb2 : sett m1 b (.lst (init.map W.int)) b = some (.lst (init.map W.int)) := sett_same
    have hfr2 : ∀ c, c ≠ a → c ≠ b → sett m1 b (.lst (init.map W.int)) c = mu c := fun c h h' => by rw [sett_ne h']; exact hfr c h h'
    generalize sett m1 b (.lst (init.map W.int)) = m2 at ha2 hb2 hfr2
    simp only [SL.wp, S.wp, E.wp, C.wp, EL.wp, CO.wp, EO.wp, T.wp, TL.wp, I.wp, getS0, getSs, Cn.w, List.set_cons_zero, List.set_cons_succ, wipeW, Bool.false_eq_true, if_false, if_true, tl2, lt_ii, le_ii, gt_ii, ge_ii, eq_ii, eq_ss, int_i, ne_ii, ne_bb, eq_bb, add_ii, sub_ii, mod_ii, add_tt, add_ll, optQ_s, decide_eq_true_eq, Bool.not_eq_true', decide_eq_false_iff_not, Bool.not_true, Bool.not_false, Bool.true_eq_false, not_true_eq_false, not_false_eq_true, b_law_draw_2t1]
    refine ⟨⟨by decide, by decide, by decide⟩, ?_⟩
    simp only [SL.wp, S.wp, E.wp, C.wp, EL.wp, CO.wp, EO.wp, T.wp, TL.wp, I.wp, getS0, getSs, Cn.w, List.set_cons_zero, List.set_cons_succ, wipeW, Bool.false_eq_true, if_false, if_true, tl2, lt_ii, le_ii, gt_ii, ge_ii, eq_ii, eq_ss, int_i, ne_ii, ne_bb, eq_bb, add_ii, sub_ii, mod_ii, add_tt, add_ll, optQ_s, decide_eq_true_eq, Bool.not_eq_true', decide_eq_false_iff_not, Bool.not_true, Bool.not_false, Bool.true_eq_false, not_true_eq_false, not_false_eq_true]
    by_cases hx : (10 : Int) ^ (18 : Int).toNat ≤ x
    · rw [if_pos hx]
      simp only [SL.wp, S.wp, E.wp, C.wp, EL.wp, CO.wp, EO.wp, T.wp, TL.wp, I.wp, getS0, getSs, Cn.w, List.set_cons_zero, List.set_cons_succ, wipeW, Bool.false_eq_true, if_false, if_true, tl2, lt_ii, le_ii, gt_ii, ge_ii, eq_ii, eq_ss, int_i, ne_ii, ne_bb, eq_bb, add_ii, sub_ii, mod_ii, add_tt, add_ll, optQ_s, decide_eq_true_eq, Bool.not_eq_true', decide_eq_false_iff_not, Bool.not_true, Bool.not_false, Bool.true_eq_false, not_true_eq_false, not_false_eq_true, b_law_draw_2t1t0]
      refine idx_ref ha2 (w := .ref b) rfl ⟨by rw [vw_lst hb2]; rfl, ?_⟩
      rw [max_ii]
      refine ⟨⟨by split <;> omega, by split <;> omega⟩, ?_⟩
      rw [List.length_append] at hl
      refine ⟨_, hb2, sz1000 (by rw [List.length_map]; omega), ?_⟩
      simp only [SL.wp, S.wp, E.wp, C.wp, EL.wp, CO.wp, EO.wp, T.wp, TL.wp, I.wp, getS0, getSs, Cn.w, List.set_cons_zero, List.set_cons_succ, wipeW, Bool.false_eq_true, if_false, if_true, tl2, lt_ii, le_ii, gt_ii, ge_ii, eq_ii, eq_ss, int_i, ne_ii, ne_bb, eq_bb, add_ii, sub_ii, mod_ii, add_tt, add_ll, optQ_s, decide_eq_true_eq, Bool.not_eq_true', decide_eq_false_iff_not, Bool.not_true, Bool.not_false, Bool.true_eq_false, not_true_eq_false, not_false_eq_true, b_law_draw_2t1t1]
      refine ⟨by omega, ?_⟩
      obtain ⟨r3, r4⟩ := fmod_rng x h0
      refine ret_same (hq _ _ r3 r4 ⟨⟨hab, init ++ [x.fdiv (if most > 2 then most else 2)], seed, n1, ?_, ?_, by rw [List.length_append]; exact hl⟩, fun c h h' => by rw [sett_ne h']; exact hfr2 c h h'⟩)
      · rw [sett_ne hab]; exact ha2
      · rw [sett_same, List.map_append]; rfl
    · rw [if_neg hx]
      exact rest _ _ _ _ ha2 hb2 (by rw [List.length_append] at hl; omega) hfr2
end FF

/-! What is drawn from a deck. -/
namespace FF
open PySem PySem.Spec PyProof.Rows L2
/-- what stood at first stands yet, the deck is a deck, all else is new -/
structure Dg (a b : Addr) (mu m : Mu) : Prop where
  k0 : Dk a b mu
  k1 : Dk a b m
  sub : ∀ c, c ≠ a → c ≠ b → mu c = m c ∨ mu c = none
theorem Dk.na {a b : Addr} {mu : Mu} (h : Dk a b mu) {p : Addr} (hp : mu p = none) : p ≠ a ∧ p ≠ b := by
  obtain ⟨_, cells, seed, n, ha, hb, _⟩ := h
  constructor
  · intro z
    rw [z, ha] at hp; cases hp
  · intro z
    rw [z, hb] at hp; cases hp
theorem Dk.keep {a b : Addr} {m m' : Mu} (h : Dk a b m) (ha : m' a = m a) (hb : m' b = m b) : Dk a b m' := by
  obtain ⟨h1, c, s, n, h2, h3, h4⟩ := h
  exact ⟨h1, c, s, n, by rw [ha]; exact h2, by rw [hb]; exact h3, h4⟩
theorem Dg.refl {a b : Addr} {mu : Mu} (h : Dk a b mu) : Dg a b mu mu := ⟨h, h, fun _ _ _ => .inl rfl⟩
theorem Dg.draw {a b : Addr} {mu m m' : Mu} (h : Dg a b mu m) (k : Dr a b m m') : Dg a b mu m' := ⟨h.k0, k.dk, fun c h1 h2 => (h.sub c h1 h2).imp (fun e => by rw [e, k.fr c h1 h2]) id⟩
theorem Dg.new {a b : Addr} {mu m : Mu} (h : Dg a b mu m) {p : Addr} (hp : m p = none) : mu p = none := by
  obtain ⟨h1, h2⟩ := h.k1.na hp
  exact (h.sub p h1 h2).elim (fun e => e.trans hp) id
theorem Dg.sett {a b : Addr} {mu m : Mu} (h : Dg a b mu m) {p : Addr} {o : O} (hp : mu p = none) : Dg a b mu (FF.sett m p o) := by
  obtain ⟨h1, h2⟩ := h.k0.na hp
  refine ⟨h.k0, h.k1.keep (sett_ne (Ne.symm h1)) (sett_ne (Ne.symm h2)), fun c h3 h4 => ?_⟩
  by_cases e : c = p
  · subst e; exact .inr hp
  · rw [sett_ne e]; exact h.sub c h3 h4
theorem dell_ne {mu : Mu} {a b : Addr} (h : b ≠ a) : dell mu a b = mu b := if_neg h
theorem Dg.dell {a b : Addr} {mu m : Mu} (h : Dg a b mu m) {p : Addr} (hp : mu p = none) : Dg a b mu (FF.dell m p) := by
  obtain ⟨h1, h2⟩ := h.k0.na hp
  refine ⟨h.k0, h.k1.keep (dell_ne (Ne.symm h1)) (dell_ne (Ne.symm h2)), fun c h3 h4 => ?_⟩
  by_cases e : c = p
  · subst e; exact .inr hp
  · rw [dell_ne e]; exact h.sub c h3 h4
theorem Dg.fix {a b : Addr} {mu m : Mu} (h : Dg a b mu m) : ∃ mu', Sub mu' m ∧ Dr a b mu mu' ∧ ∀ p, mu p = none → mu' p = none := by
  refine ⟨fun c => if c = a ∨ c = b then m c else mu c, fun c => ?_, ⟨h.k1.keep (if_pos (.inl rfl)) (if_pos (.inr rfl)), fun c h1 h2 => if_neg (fun (z : c = a ∨ c = b) => z.elim h1 h2)⟩, fun p hp => ?_⟩
  · by_cases e : c = a ∨ c = b
    · exact .inl (if_pos e)
    · show (if c = a ∨ c = b then m c else mu c) = m c ∨ (if c = a ∨ c = b then m c else mu c) = none
      rw [if_neg e]
      exact h.sub c (fun z => e (.inl z)) fun z => e (.inr z)
  · obtain ⟨h1, h2⟩ := h.k0.na hp
    show (if p = a ∨ p = b then m p else mu p) = none
    rw [if_neg (fun (z : p = a ∨ p = b) => z.elim h1 h2)]; exact hp
theorem ret_dg {a b : Addr} {mu m : Mu} {Q : QW} {w : W} (h : Dg a b mu m) (q : ∀ mu', Dr a b mu mu' → Q w mu') : RetR Q w m := by
  obtain ⟨mu', s, d, _⟩ := h.fix
  exact ret_go s (q mu' d)
theorem len_vw {x : W} {xs : List W} {mu : Mu} {Q : QW} (e : vw mu x = .lst xs) (h : Q (.int xs.length) mu) : bifR .len [x] mu Q := by
  show lenR x mu Q
  unfold lenR
  rw [e]; exact h
def sp_law_pick : SpW := fun ws mu Q => ∃ (a b : Addr) (x : W) (xs : List W), ws = [.ref a, x] ∧ Dk a b mu ∧ 0 < xs.length ∧ xs.length ≤ 1000000 ∧ (∀ mu', Dr a b mu mu' → vw mu' x = .lst xs) ∧ ∀ w ∈ xs, ∀ mu', Dr a b mu mu' → Q w mu'
theorem atI_int {α : Type} {ws : List α} {r : Int} (h0 : 0 ≤ r) (h1 : r < ws.length) : ∃ w, w ∈ ws ∧ atI ws r = some w := by
  obtain ⟨j, rfl⟩ : ∃ j : Nat, r = (j : Int) := ⟨r.toNat, by omega⟩
  have hj : j < ws.length := by omega
  exact ⟨ws[j], List.getElem_mem hj, atI_nat (List.getElem?_eq_getElem hj)⟩
theorem ok_law_pick (F : Fe) (h1 : F.fn "_law_draw" = sp_law_draw) : ∀ ws mu Q, sp_law_pick ws mu Q → ws.length = 2 ∧ (b_law_pick).wp F (endR Q) (startW n_law_pick ws) mu := by
  rintro ws mu Q ⟨a, b, x, xs, rfl, hk, h0, hz, hv, hq⟩
  refine ⟨rfl, ?_⟩
  show (b_law_pick).wp F (endR Q) [some (.ref a), some x] mu
  simp only [SL.wp, S.wp, E.wp, C.wp, EL.wp, CO.wp, EO.wp, T.wp, TL.wp, I.wp, getS0, getSs, Cn.w, List.set_cons_zero, List.set_cons_succ, wipeW, Bool.false_eq_true, if_false, if_true, tl2, lt_ii, le_ii, gt_ii, ge_ii, eq_ii, eq_ss, int_i, ne_ii, ne_bb, eq_bb, add_ii, sub_ii, mod_ii, add_tt, add_ll, optQ_s, decide_eq_true_eq, Bool.not_eq_true', decide_eq_false_iff_not, Bool.not_true, Bool.not_false, Bool.true_eq_false, not_true_eq_false, not_false_eq_true, b_law_pick, h1]
  refine len_vw (hv mu (.refl hk)) ⟨a, b, xs.length, rfl, by omega, by omega, hk, fun r mu' r0 r1 d => ?_⟩
  obtain ⟨w, hw, e⟩ := atI_int r0 r1
  unfold idxR
  rw [hv mu' d]
  dsimp only
  rw [e]
  exact ret_same (hq w hw mu' d)
def sp_law_turned : SpW := fun ws mu Q => ∃ (a b : Addr) (x : W) (xs : List W), ws = [.ref a, x] ∧ Dk a b mu ∧ xs.length ≤ 1000000 ∧ itemsOf mu x = some xs ∧ ∀ zs : List W, zs.Perm xs → ∀ mu', Dr a b mu mu' → Q (.lst zs) mu'
theorem take_perm {α : Type} : ∀ (rs : List α) (j : Nat) (hj : j < rs.length), (rs[j] :: rs.eraseIdx j).Perm rs
  | r :: rs, 0, _ => List.Perm.refl _
  | r :: rs, j + 1, hj => by
    have ih := take_perm rs j (by simpa using hj)
    rw [List.getElem_cons_succ, List.eraseIdx_cons_succ]
    exact (List.Perm.swap _ _ _).trans (ih.cons r)
theorem perm_take {α : Type} {acc rs xs : List α} {j : Nat} {w : α} (h : (acc ++ rs).Perm xs) (e : rs[j]? = some w) : ((acc ++ [w]) ++ rs.eraseIdx j).Perm xs := by
  obtain ⟨hj, e⟩ := List.getElem?_eq_some_iff.mp e
  refine List.Perm.trans ?_ h
  rw [List.append_assoc]
  refine List.Perm.append_left acc ?_
  rw [← e]
  exact take_perm rs j hj
theorem ok_law_turned (F : Fe) (h1 : F.fn "_law_draw" = sp_law_draw) : ∀ ws mu Q, sp_law_turned ws mu Q → ws.length = 2 ∧ (b_law_turned).wp F (endR Q) (startW n_law_turned ws) mu := by
  rintro ws mu Q ⟨a, b, x, xs, rfl, hk, hz, hx, hq⟩
  refine ⟨rfl, ?_⟩
  show (b_law_turned).wp F (endR Q) [some (.ref a), some x, none, none] mu
  simp only [SL.wp, S.wp, E.wp, C.wp, EL.wp, CO.wp, EO.wp, T.wp, TL.wp, I.wp, getS0, getSs, Cn.w, List.set_cons_zero, List.set_cons_succ, wipeW, Bool.false_eq_true, if_false, if_true, tl2, lt_ii, le_ii, gt_ii, ge_ii, eq_ii, eq_ss, int_i, ne_ii, ne_bb, eq_bb, add_ii, sub_ii, mod_ii, add_tt, add_ll, optQ_s, decide_eq_true_eq, Bool.not_eq_true', decide_eq_false_iff_not, Bool.not_true, Bool.not_false, Bool.true_eq_false, not_true_eq_false, not_false_eq_true, b_law_turned, h1]
  refine ⟨xs, hx, newL_t (le_sz hz) fun q hq0 => ?_⟩
  simp only [SL.wp, S.wp, E.wp, C.wp, EL.wp, CO.wp, EO.wp, T.wp, TL.wp, I.wp, getS0, getSs, Cn.w, List.set_cons_zero, List.set_cons_succ, wipeW, Bool.false_eq_true, if_false, if_true, tl2, lt_ii, le_ii, gt_ii, ge_ii, eq_ii, eq_ss, int_i, ne_ii, ne_bb, eq_bb, add_ii, sub_ii, mod_ii, add_tt, add_ll, optQ_s, decide_eq_true_eq, Bool.not_eq_true', decide_eq_false_iff_not, Bool.not_true, Bool.not_false, Bool.true_eq_false, not_true_eq_false, not_false_eq_true, b_law_turned_1]
  refine len_vw (vw_lst sett_same) ⟨xs.length, rfl, by omega, fun p hp => ?_⟩
  have hpq : p ≠ q := fun z => by rw [z, sett_same] at hp; cases hp
  have hp0 : mu p = none := by rw [sett_ne hpq] at hp; exact hp
  have hqa := hk.na hq0
  have hpa := hk.na hp0
  refine compW_inv (fun i acc m => Dg a b mu m ∧ m p = some (.lst acc) ∧ acc.length = i ∧ ∃ rs, m q = some (.lst rs) ∧ (acc ++ rs).Perm xs) ⟨((Dg.refl hk).sett hq0).sett hp0, sett_same, rfl, xs, by rw [sett_ne (Ne.symm hpq)]; exact sett_same, by simp⟩ (fun i acc m _ h => ⟨True.intro, h.2.1⟩) ?_ ?_
  · rintro i w acc m R hw ⟨d, hm, hl, rs, hrs, hperm⟩ k
    simp only [if_true]
    have hi := (rngW_get hw).2
    rw [Int.toNat_natCast] at hi
    have hlen := hperm.length_eq
    rw [List.length_append] at hlen
    simp only [SL.wp, S.wp, E.wp, C.wp, EL.wp, CO.wp, EO.wp, T.wp, TL.wp, I.wp, getS0, getSs, Cn.w, List.set_cons_zero, List.set_cons_succ, wipeW, Bool.false_eq_true, if_false, if_true, tl2, lt_ii, le_ii, gt_ii, ge_ii, eq_ii, eq_ss, int_i, ne_ii, ne_bb, eq_bb, add_ii, sub_ii, mod_ii, add_tt, add_ll, optQ_s, decide_eq_true_eq, Bool.not_eq_true', decide_eq_false_iff_not, Bool.not_true, Bool.not_false, Bool.true_eq_false, not_true_eq_false, not_false_eq_true, h1]
    refine ⟨by rw [vw_lst hrs]; rfl, ?_⟩
    refine len_vw (vw_lst hrs) ⟨a, b, rs.length, rfl, by omega, by omega, d.k1, fun r m' r0 r1 d' => ?_⟩
    have hq' : m' q = some (.lst rs) := by rw [d'.fr q hqa.1 hqa.2]; exact hrs
    have hp' : m' p = some (.lst acc) := by rw [d'.fr p hpa.1 hpa.2]; exact hm
    obtain ⟨j, rfl⟩ : ∃ j : Nat, r = (j : Int) := ⟨r.toNat, by omega⟩
    have hj : j < rs.length := by omega
    have e := List.getElem?_eq_getElem hj
    refine ⟨rs, rs[j], hq', by omega, by omega, by rw [Int.toNat_natCast]; exact e, ?_⟩
    rw [Int.toNat_natCast]
    refine ⟨by rw [sett_ne hpq]; exact hp', sz1000 (by omega), k _ _ ⟨((d.draw d').sett hq0).sett hp0, sett_same, by rw [List.length_append, hl]; rfl, rs.eraseIdx j, ?_, perm_take hperm e⟩⟩
    rw [sett_ne (Ne.symm hpq)]; exact sett_same
  · rintro acc m ⟨d, hm, hl, rs, hrs, hperm⟩
    rw [rngW_len, Int.toNat_natCast] at hl
    have hlen := hperm.length_eq
    rw [List.length_append] at hlen
    have : rs = [] := List.eq_nil_of_length_eq_zero (by omega)
    subst this
    rw [List.append_nil] at hperm
    exact ret_dg (d.dell hp0) (hq acc hperm)
end FF

/-! What is drawn from a deck: rings turned about; webs from pairs. -/
namespace FF
open PySem PySem.Spec PyProof.Rows L2
theorem sst_r {l : List Int} {own : Bool} {mu : Mu} {Q : QW} (h : Q (.tup (l.reverse.map W.int)) mu) : sstR own (.tup (l.map W.int)) (-1) mu Q := by
  refine ⟨.inl rfl, ?_⟩
  show Q (.tup (stepW (-1) (l.map W.int))) mu
  unfold stepW
  rw [if_pos rfl, ← List.map_reverse]; exact h
theorem sst_l {ws : List W} {mu : Mu} {Q : QW} (hz : ws.length ≤ sizeLine) (h : Q (.lst ws.reverse) mu) : sstR false (.lst ws) (-1) mu Q := by
  refine ⟨.inl rfl, ?_⟩
  show (-1 : Int) = -1 ∧ newL false (stepW (-1) ws) mu Q
  refine ⟨rfl, ?_⟩
  unfold stepW
  rw [if_pos rfl]
  exact newL_f (by rw [List.length_reverse]; exact hz) h
def sp_law_about : SpW := fun ws mu Q => ∃ (a b : Addr) (l : List Int), ws = [.ref a, .tup (l.map W.int)] ∧ Dk a b mu ∧ 0 < l.length ∧ l.length ≤ 1000 ∧ ∀ l' : List Int, l'.Perm l → ∀ mu', Dr a b mu mu' → Q (.tup (l'.map W.int)) mu'
theorem ok_law_about (F : Fe) (h1 : F.fn "_law_draw" = sp_law_draw) (h2 : F.fn "_law_pick" = sp_law_pick) : ∀ ws mu Q, sp_law_about ws mu Q → ws.length = 2 ∧ (b_law_about).wp F (endR Q) (startW n_law_about ws) mu := by
  rintro ws mu Q ⟨a, b, l, rfl, hk, h0, hz, hq⟩
  refine ⟨rfl, ?_⟩
  show (b_law_about).wp F (endR Q) [some (.ref a), some (.tup (l.map W.int)), none] mu
  simp only [SL.wp, S.wp, E.wp, C.wp, EL.wp, CO.wp, EO.wp, T.wp, TL.wp, I.wp, getS0, getSs, Cn.w, List.set_cons_zero, List.set_cons_succ, wipeW, Bool.false_eq_true, if_false, if_true, tl2, lt_ii, le_ii, gt_ii, ge_ii, eq_ii, eq_ss, int_i, ne_ii, ne_bb, eq_bb, add_ii, sub_ii, mod_ii, add_tt, add_ll, optQ_s, decide_eq_true_eq, Bool.not_eq_true', decide_eq_false_iff_not, Bool.not_true, Bool.not_false, Bool.true_eq_false, not_true_eq_false, not_false_eq_true, b_law_about, h1]
  refine len_tI ⟨a, b, l.length, rfl, by omega, by omega, hk, fun r mu' r0 r1 d => ?_⟩
  obtain ⟨j, rfl⟩ : ∃ j : Nat, r = (j : Int) := ⟨r.toNat, by omega⟩
  simp only [SL.wp, S.wp, E.wp, C.wp, EL.wp, CO.wp, EO.wp, T.wp, TL.wp, I.wp, getS0, getSs, Cn.w, List.set_cons_zero, List.set_cons_succ, wipeW, Bool.false_eq_true, if_false, if_true, tl2, lt_ii, le_ii, gt_ii, ge_ii, eq_ii, eq_ss, int_i, ne_ii, ne_bb, eq_bb, add_ii, sub_ii, mod_ii, add_tt, add_ll, optQ_s, decide_eq_true_eq, Bool.not_eq_true', decide_eq_false_iff_not, Bool.not_true, Bool.not_false, Bool.true_eq_false, not_true_eq_false, not_false_eq_true, b_law_about_1]
  refine slT_from (k := j) rfl (slT_to (k := j) rfl ?_)
  simp only [SL.wp, S.wp, E.wp, C.wp, EL.wp, CO.wp, EO.wp, T.wp, TL.wp, I.wp, getS0, getSs, Cn.w, List.set_cons_zero, List.set_cons_succ, wipeW, Bool.false_eq_true, if_false, if_true, tl2, lt_ii, le_ii, gt_ii, ge_ii, eq_ii, eq_ss, int_i, ne_ii, ne_bb, eq_bb, add_ii, sub_ii, mod_ii, add_tt, add_ll, optQ_s, decide_eq_true_eq, Bool.not_eq_true', decide_eq_false_iff_not, Bool.not_true, Bool.not_false, Bool.true_eq_false, not_true_eq_false, not_false_eq_true, b_law_about_2, h2]
  rw [← List.map_drop, ← List.map_take, ← List.map_append]
  refine ⟨by rw [List.length_map, List.length_map, List.length_drop, List.length_take]; exact le_sz (by omega), ?_⟩
  have hp : (l.drop j ++ l.take j).Perm l := List.perm_append_comm.trans (by rw [List.take_append_drop])
  generalize l.drop j ++ l.take j = l2 at hp
  refine sst_r ?_
  refine newL_f (le_sz (Nat.le_of_ble_eq_true rfl)) ?_
  refine ⟨a, b, _, [.tup (l2.map FF.W.int), .tup (l2.reverse.map FF.W.int)], rfl, d.dk, Nat.le_of_ble_eq_true rfl, Nat.le_of_ble_eq_true rfl, fun _ _ => rfl, fun w hw m' d' => ?_⟩
  rcases List.mem_cons.mp hw with rfl | hw
  · exact ret_same (hq _ hp _ (d.trans d'))
  · rw [List.mem_singleton] at hw
    subst hw
    exact ret_same (hq _ ((List.reverse_perm l2).trans hp) _ (d.trans d'))
end FF

/-! Webs of pairs; the pairs of a shape. -/
namespace FF
open PySem PySem.Spec PyProof.Rows L2
def putP (ks : List (Int × Int)) (c : Int × Int) : List (Int × Int) := if c ∈ ks then ks else ks ++ [c]
theorem dput_P (ks : List (Int × Int)) (c : Int × Int) : dput (ks.map trueP) (dkP c) (pairW c) (.bl true) = (putP ks c).map trueP := by
  unfold putP
  by_cases h : c ∈ ks
  · rw [if_pos h]
    have e : ((ks.map trueP).any fun p => decide (dkOf p.1 = some (dkP c))) = true := List.any_eq_true.mpr ⟨trueP c, List.mem_map.mpr ⟨c, h, rfl⟩, decide_eq_true rfl⟩
    unfold dput
    rw [if_pos e]
    conv => rhs; rw [← List.map_id (ks.map trueP)]
    refine List.map_congr_left fun p hp => ?_
    obtain ⟨q, hq, rfl⟩ := List.mem_map.mp hp
    split <;> rfl
  · rw [if_neg h]; exact dput_new h
theorem putP_mem {ks : List (Int × Int)} {c x : Int × Int} : x ∈ putP ks c ↔ x ∈ ks ∨ x = c := by
  unfold putP
  split
  · rename_i h
    exact ⟨.inl, fun z => z.elim id fun z => by rw [z]; exact h⟩
  · rw [List.mem_append, List.mem_singleton]
theorem putP_len (ks : List (Int × Int)) (c : Int × Int) : (putP ks c).length ≤ ks.length + 1 := by
  unfold putP
  split
  · omega
  · rw [List.length_append, List.length_singleton]; exact Nat.le_refl _
theorem pairs_map : ∀ ks : List (Int × Int), pairsOf (ks.map pairW) = some ks
  | [] => rfl
  | (i, j) :: ks => by
    rw [List.map_cons]
    show (pairsOf (ks.map pairW)).map ((i, j) :: ·) = _
    rw [pairs_map ks]; rfl
theorem keys_P (ks : List (Int × Int)) : (ks.map trueP).map (·.1) = ks.map pairW := by rw [List.map_map]; rfl
theorem sort_d {q : Addr} {ks : List (Int × Int)} {mu : Mu} {Q : QW} (hm : mu q = some (.dct true (ks.map trueP))) (h : Q (.lst ((srtP ks).map pairW)) mu) : bifR .sorted [.ref q] mu Q := by
  show sortR (.ref q) mu Q
  unfold sortR
  rw [vw_dct hm]
  exact .inr ⟨ks, by rw [keys_P]; exact pairs_map ks, h⟩
def sp_law_web_of : SpW := fun ws mu Q => ∃ (n : Nat) (ps : List (Int × Int)), ws = [.int n, .lst (ps.map pairW)] ∧ ps.length ≤ 50000 ∧ ∀ cs : List (Int × Int), (∀ c, c ∈ cs ↔ c ∈ ps ∨ (c.2, c.1) ∈ ps) → cs.length ≤ 2 * ps.length → Q (webW n cs) mu
theorem ok_law_web_of (F : Fe) : ∀ ws mu Q, sp_law_web_of ws mu Q → ws.length = 2 ∧ (b_law_web_of).wp F (endR Q) (startW n_law_web_of ws) mu := by
  rintro ws mu Q ⟨n, ps, rfl, hz, hq⟩
  refine ⟨rfl, ?_⟩
  show (b_law_web_of).wp F (endR Q) [some (.int n), some (.lst (ps.map pairW)), none, none, none] mu
  simp only [SL.wp, S.wp, E.wp, C.wp, EL.wp, CO.wp, EO.wp, T.wp, TL.wp, I.wp, getS0, getSs, Cn.w, List.set_cons_zero, List.set_cons_succ, wipeW, Bool.false_eq_true, if_false, if_true, tl2, lt_ii, le_ii, gt_ii, ge_ii, eq_ii, eq_ss, int_i, ne_ii, ne_bb, eq_bb, add_ii, sub_ii, mod_ii, add_tt, add_ll, optQ_s, decide_eq_true_eq, Bool.not_eq_true', decide_eq_false_iff_not, Bool.not_true, Bool.not_false, Bool.true_eq_false, not_true_eq_false, not_false_eq_true, b_law_web_of]
  show ∀ q, mu q = none → _
  intro q hq0
  simp only [SL.wp, S.wp, E.wp, C.wp, EL.wp, CO.wp, EO.wp, T.wp, TL.wp, I.wp, getS0, getSs, Cn.w, List.set_cons_zero, List.set_cons_succ, wipeW, Bool.false_eq_true, if_false, if_true, tl2, lt_ii, le_ii, gt_ii, ge_ii, eq_ii, eq_ss, int_i, ne_ii, ne_bb, eq_bb, add_ii, sub_ii, mod_ii, add_tt, add_ll, optQ_s, decide_eq_true_eq, Bool.not_eq_true', decide_eq_false_iff_not, Bool.not_true, Bool.not_false, Bool.true_eq_false, not_true_eq_false, not_false_eq_true, b_law_web_of_1]
  show forW _ _ .free _ (ps.map pairW) _ _
  refine forW_inv (fun i t m => (∃ x y, t = [some (.int n), some (.lst (ps.map pairW)), some (.ref q), x, y]) ∧ ∃ ks : List (Int × Int), m = sett mu q (.dct true (ks.map trueP)) ∧ ks.length ≤ 2 * i ∧ ∀ c, c ∈ ks ↔ c ∈ ps.take i ∨ (c.2, c.1) ∈ ps.take i) ⟨⟨_, _, rfl⟩, [], rfl, Nat.zero_le _, fun c => by simp⟩ (fun _ _ _ _ _ => True.intro) ?_ ?_
  · rintro i w t m R hw ⟨⟨x, y, rfl⟩, ks, rfl, hl, hm⟩ k
    rw [List.getElem?_map] at hw
    cases ec : ps[i]? with
    | none => rw [ec] at hw; cases hw
    | some c =>
      rw [ec] at hw; cases hw
      have hi : i < ps.length := (List.getElem?_eq_some_iff.mp ec).1
      obtain ⟨c1, c2⟩ := c
      refine ⟨rfl, ?_⟩
      simp only [SL.wp, S.wp, E.wp, C.wp, EL.wp, CO.wp, EO.wp, T.wp, TL.wp, I.wp, getS0, getSs, Cn.w, List.set_cons_zero, List.set_cons_succ, wipeW, Bool.false_eq_true, if_false, if_true, tl2, lt_ii, le_ii, gt_ii, ge_ii, eq_ii, eq_ss, int_i, ne_ii, ne_bb, eq_bb, add_ii, sub_ii, mod_ii, add_tt, add_ll, optQ_s, decide_eq_true_eq, Bool.not_eq_true', decide_eq_false_iff_not, Bool.not_true, Bool.not_false, Bool.true_eq_false, not_true_eq_false, not_false_eq_true, b_law_web_of_1b0]
      refine ⟨le_sz (Nat.le_of_ble_eq_true rfl), ?_⟩
      refine set_d (d := dkP (c1, c2)) sett_same rfl rfl (sz1000 (by rw [List.length_map]; omega)) ?_
      have e1 := dput_P ks (c1, c2)
      unfold pairW at e1
      rw [e1, sett_sett]
      simp only [SL.wp, S.wp, E.wp, C.wp, EL.wp, CO.wp, EO.wp, T.wp, TL.wp, I.wp, getS0, getSs, Cn.w, List.set_cons_zero, List.set_cons_succ, wipeW, Bool.false_eq_true, if_false, if_true, tl2, lt_ii, le_ii, gt_ii, ge_ii, eq_ii, eq_ss, int_i, ne_ii, ne_bb, eq_bb, add_ii, sub_ii, mod_ii, add_tt, add_ll, optQ_s, decide_eq_true_eq, Bool.not_eq_true', decide_eq_false_iff_not, Bool.not_true, Bool.not_false, Bool.true_eq_false, not_true_eq_false, not_false_eq_true, b_law_web_of_1b1]
      refine ⟨le_sz (Nat.le_of_ble_eq_true rfl), ?_⟩
      have l1 := putP_len ks (c1, c2)
      have l2 := putP_len (putP ks (c1, c2)) (c2, c1)
      refine set_d (d := dkP (c2, c1)) sett_same rfl rfl (sz1000 (by rw [List.length_map]; omega)) ?_
      have e2 := dput_P (putP ks (c1, c2)) (c2, c1)
      unfold pairW at e2
      rw [e2, sett_sett]
      refine k _ _ ⟨⟨_, _, rfl⟩, _, rfl, by omega, fun c => ?_⟩
      rw [putP_mem, putP_mem, hm, List.take_add_one, ec]
      obtain ⟨d1, d2⟩ := c
      simp only [Option.toList_some, List.mem_append, List.mem_singleton, Prod.mk.injEq]
      constructor
      · rintro (((z | z) | z) | z)
        · exact .inl (.inl z)
        · exact .inr (.inl z)
        · exact .inl (.inr z)
        · exact .inr (.inr ⟨z.2, z.1⟩)
      · rintro ((z | z) | (z | z))
        · exact .inl (.inl (.inl z))
        · exact .inl (.inr z)
        · exact .inl (.inl (.inr z))
        · exact .inr ⟨z.2, z.1⟩
  · rintro t m ⟨⟨x, y, rfl⟩, ks, rfl, hl, hm⟩
    rw [List.length_map] at hl
    rw [List.length_map, List.take_length] at hm
    simp only [SL.wp, S.wp, E.wp, C.wp, EL.wp, CO.wp, EO.wp, T.wp, TL.wp, I.wp, getS0, getSs, Cn.w, List.set_cons_zero, List.set_cons_succ, wipeW, Bool.false_eq_true, if_false, if_true, tl2, lt_ii, le_ii, gt_ii, ge_ii, eq_ii, eq_ss, int_i, ne_ii, ne_bb, eq_bb, add_ii, sub_ii, mod_ii, add_tt, add_ll, optQ_s, decide_eq_true_eq, Bool.not_eq_true', decide_eq_false_iff_not, Bool.not_true, Bool.not_false, Bool.true_eq_false, not_true_eq_false, not_false_eq_true, b_law_web_of_2]
    refine sort_d sett_same ?_
    refine ⟨le_sz (Nat.le_of_ble_eq_true rfl), ?_⟩
    have hp := srtP_perm ks
    refine ret_go ((Sub.refl mu).sett hq0) (hq (srtP ks) (fun c => ?_) ?_)
    · rw [hp.mem_iff]; exact hm c
    · rw [hp.length_eq]; exact hl
/-! _law_shape -/
theorem eq_tupI {l m : List Int} {Q : Bool → Prop} (h : Q (decide (l = m))) : eqR (.tup (l.map W.int)) (.tup (m.map W.int)) Q :=
  ⟨.tuple (l.map PyData.int), .tuple (m.map PyData.int), by simp only [toD, toDs_ints, Option.map_some], by simp only [toD, toDs_ints, Option.map_some], shaped_intsT l, shaped_intsT m, by simp only [PyData.eqv, eqv_ints]; exact h⟩
theorem eq_tupC {l m : List Int} {mu : Mu} {Q : QW} (h : Q (.bl (decide (l = m))) mu) : cmpR .Eq (.tup (l.map W.int)) (.tup (m.map W.int)) mu Q := eq_tupI (Q := fun b => Q (.bl b) mu) h
theorem ret_dgL {a b : Addr} {mu m : Mu} {Q : QW} {q : Addr} {ws : List W} (h : Dg a b mu m) (hq : mu q = none) (hm : m q = some (.lst ws)) (k : ∀ mu', Dr a b mu mu' → Q (.lst ws) mu') : RetR Q (.ref q) m := by
  obtain ⟨mu', s, d, hn⟩ := h.fix
  exact ⟨_, mu', s, Fz.refL hm (hn q hq) (Fzs_refl _), k mu' d⟩
/-- pairs that rise, below many -/
def UpTo (n : Int) (ps : List (Int × Int)) : Prop := ∀ c ∈ ps, 0 ≤ c.1 ∧ c.1 < c.2 ∧ c.2 < n
def sp_law_shape : SpW := fun ws mu Q => ∃ (a b : Addr) (way : Int) (n : Nat), ws = [.ref a, .int way, .int n] ∧ n ≤ 32 ∧ Dk a b mu ∧ ∀ ps, UpTo n ps → ps.length ≤ 5000 → ∀ mu', Dr a b mu mu' → Q (.lst (ps.map pairW)) mu'
/-- the pairs so far stand at q -/
def Shp (a b q : Addr) (mu : Mu) (n : Nat) (N : Nat) (m : Mu) : Prop := Dg a b mu m ∧ ∃ ps, UpTo n ps ∧ ps.length ≤ N ∧ m q = some (.lst (ps.map pairW))
theorem Shp.add {a b q : Addr} {mu m : Mu} {n N : Nat} (h : Shp a b q mu n N m) (hq : mu q = none) {i k : Int} (h0 : 0 ≤ i) (h1 : i < k) (h2 : k < n) (hN : N ≤ 100000) {P : Mu → Prop} (hP : ∀ m', Shp a b q mu n (N + 1) m' → P m') : mthR .append (.ref q) [.tup [.int i, .int k]] m fun _ m' => P m' := by
  obtain ⟨d, ps, hu, hl, hm⟩ := h
  refine ⟨_, hm, sz1000 (by rw [List.length_map]; omega), hP _ ⟨d.sett hq, ps ++ [(i, k)], fun c hc => ?_, by rw [List.length_append, List.length_singleton]; omega, by rw [sett_same, List.map_append]; rfl⟩⟩
  rcases List.mem_append.mp hc with hc | hc
  · exact hu c hc
  · rw [List.mem_singleton] at hc
    subst hc
    exact ⟨h0, h1, h2⟩
theorem Shp.up {a b q : Addr} {mu m : Mu} {n N N' : Nat} (h : Shp a b q mu n N m) (hN : N ≤ N') : Shp a b q mu n N' m :=
  let ⟨d, ps, hu, hl, hm⟩ := h; ⟨d, ps, hu, Nat.le_trans hl hN, hm⟩
theorem Shp.ty {a b q : Addr} {mu m : Mu} {n N : Nat} (h : Shp a b q mu n N m) : tyW (vw m (.ref q)) = some Mt.append.ty := by
  obtain ⟨_, ps, _, _, hm⟩ := h
  rw [vw_lst hm]; rfl
theorem Shp.draw {a b q : Addr} {mu m m' : Mu} {n N : Nat} (h : Shp a b q mu n N m) (hq : mu q = none) (d : Dr a b m m') : Shp a b q mu n N m' := by
  obtain ⟨g, ps, hu, hl, hm⟩ := h
  have := g.k0.na hq
  exact ⟨g.draw d, ps, hu, hl, by rw [d.fr q this.1 this.2]; exact hm⟩
theorem ok_law_shape (F : Fe) (h1 : F.fn "_law_draw" = sp_law_draw) : ∀ ws mu Q, sp_law_shape ws mu Q → ws.length = 3 ∧ (b_law_shape).wp F (endR Q) (startW n_law_shape ws) mu := by
  rintro ws mu Q ⟨a, b, way, n, rfl, hn, hk, hq⟩
  refine ⟨rfl, ?_⟩
  show (b_law_shape).wp F (endR Q) [some (.ref a), some (.int way), some (.int n), none, none, none, none, none, none, none, none] mu
  simp only [SL.wp, S.wp, E.wp, C.wp, EL.wp, CO.wp, EO.wp, T.wp, TL.wp, I.wp, getS0, getSs, Cn.w, List.set_cons_zero, List.set_cons_succ, wipeW, Bool.false_eq_true, if_false, if_true, tl2, lt_ii, le_ii, gt_ii, ge_ii, eq_ii, eq_ss, int_i, ne_ii, ne_bb, eq_bb, add_ii, sub_ii, mod_ii, add_tt, add_ll, optQ_s, decide_eq_true_eq, Bool.not_eq_true', decide_eq_false_iff_not, Bool.not_true, Bool.not_false, Bool.true_eq_false, not_true_eq_false, not_false_eq_true, b_law_shape, h1]
  refine ⟨a, b, _, rfl, by omega, by omega, hk, fun cut mu1 c0 c1 d1 => ?_⟩
  refine ⟨a, b, _, rfl, by omega, by omega, d1.dk, fun wd mu2 w0 w1 d2 => ?_⟩
  simp only [SL.wp, S.wp, E.wp, C.wp, EL.wp, CO.wp, EO.wp, T.wp, TL.wp, I.wp, getS0, getSs, Cn.w, List.set_cons_zero, List.set_cons_succ, wipeW, Bool.false_eq_true, if_false, if_true, tl2, lt_ii, le_ii, gt_ii, ge_ii, eq_ii, eq_ss, int_i, ne_ii, ne_bb, eq_bb, add_ii, sub_ii, mod_ii, add_tt, add_ll, optQ_s, decide_eq_true_eq, Bool.not_eq_true', decide_eq_false_iff_not, Bool.not_true, Bool.not_false, Bool.true_eq_false, not_true_eq_false, not_false_eq_true]
  refine newL_t (Nat.zero_le _) fun q hq2 => ?_
  simp only [SL.wp, S.wp, E.wp, C.wp, EL.wp, CO.wp, EO.wp, T.wp, TL.wp, I.wp, getS0, getSs, Cn.w, List.set_cons_zero, List.set_cons_succ, wipeW, Bool.false_eq_true, if_false, if_true, tl2, lt_ii, le_ii, gt_ii, ge_ii, eq_ii, eq_ss, int_i, ne_ii, ne_bb, eq_bb, add_ii, sub_ii, mod_ii, add_tt, add_ll, optQ_s, decide_eq_true_eq, Bool.not_eq_true', decide_eq_false_iff_not, Bool.not_true, Bool.not_false, Bool.true_eq_false, not_true_eq_false, not_false_eq_true, parT]
  have hd := d1.trans d2
  have hqa := d2.dk.na hq2
  have hq0 : mu q = none := by rw [← hd.fr q hqa.1 hqa.2]; exact hq2
  have hS : Shp a b q mu n 0 (sett mu2 q (.lst [])) := ⟨((Dg.refl hk).draw hd).sett hq0, [], fun c hc => (List.not_mem_nil hc).elim, Nat.le_refl _, sett_same⟩
  simp only [SL.wp, S.wp, E.wp, C.wp, EL.wp, CO.wp, EO.wp, T.wp, TL.wp, I.wp, getS0, getSs, Cn.w, List.set_cons_zero, List.set_cons_succ, wipeW, Bool.false_eq_true, if_false, if_true, tl2, lt_ii, le_ii, gt_ii, ge_ii, eq_ii, eq_ss, int_i, ne_ii, ne_bb, eq_bb, add_ii, sub_ii, mod_ii, add_tt, add_ll, optQ_s, decide_eq_true_eq, Bool.not_eq_true', decide_eq_false_iff_not, Bool.not_true, Bool.not_false, Bool.true_eq_false, not_true_eq_false, not_false_eq_true, b_law_shape_1]
  refine ⟨n, rfl, by omega, ?_⟩
  refine forW_inv (fun i t m => (∃ x1 x2 x3 x4 x5, t = [some (.ref a), some (.int way), some (.int n), some (.int cut), some (.int (2 + wd)), some (.ref q), x1, x2, x3, x4, x5]) ∧ Shp a b q mu n (i * 128) m) ⟨⟨_, _, _, _, _, rfl⟩, by rw [Nat.zero_mul]; exact hS⟩ (fun _ _ _ _ _ => True.intro) ?_ ?_
  · rintro k w t m R hw ⟨⟨x1, x2, x3, x4, x5, rfl⟩, hI⟩ kk
    obtain ⟨rfl, hkn⟩ := rngW_get hw
    rw [Int.toNat_natCast] at hkn
    rw [Int.zero_add]
    simp only [SL.wp, S.wp, E.wp, C.wp, EL.wp, CO.wp, EO.wp, T.wp, TL.wp, I.wp, getS0, getSs, Cn.w, List.set_cons_zero, List.set_cons_succ, wipeW, Bool.false_eq_true, if_false, if_true, tl2, lt_ii, le_ii, gt_ii, ge_ii, eq_ii, eq_ss, int_i, ne_ii, ne_bb, eq_bb, add_ii, sub_ii, mod_ii, add_tt, add_ll, optQ_s, decide_eq_true_eq, Bool.not_eq_true', decide_eq_false_iff_not, Bool.not_true, Bool.not_false, Bool.true_eq_false, not_true_eq_false, not_false_eq_true, b_law_shape_1b0, h1, max_ii]
    refine ⟨a, b, _, rfl, by split <;> omega, by split <;> omega, hI.1.k1, fun tree m1 t0 t1 d3 => ?_⟩
    have hI1 := hI.draw hq0 d3
    simp only [SL.wp, S.wp, E.wp, C.wp, EL.wp, CO.wp, EO.wp, T.wp, TL.wp, I.wp, getS0, getSs, Cn.w, List.set_cons_zero, List.set_cons_succ, wipeW, Bool.false_eq_true, if_false, if_true, tl2, lt_ii, le_ii, gt_ii, ge_ii, eq_ii, eq_ss, int_i, ne_ii, ne_bb, eq_bb, add_ii, sub_ii, mod_ii, add_tt, add_ll, optQ_s, decide_eq_true_eq, Bool.not_eq_true', decide_eq_false_iff_not, Bool.not_true, Bool.not_false, Bool.true_eq_false, not_true_eq_false, not_false_eq_true, b_law_shape_1b1]
    refine ⟨k, rfl, by omega, ?_⟩
    rw [Int.toNat_natCast]
    refine forW_inv (fun j t m' => (∃ x1 x2 x3, t = [some (.ref a), some (.int way), some (.int n), some (.int cut), some (.int (2 + wd)), some (.ref q), some (.int k), some (.int tree), x1, x2, x3]) ∧ Shp a b q mu n (k * 128 + j * 4) m') ⟨⟨_, _, _, rfl⟩, hI1.up (by omega)⟩ (fun _ _ _ _ _ => True.intro) ?_ ?_
    · rintro j w t m' R2 hw ⟨⟨x1, x2, x3, rfl⟩, hJ⟩ k2
      obtain ⟨rfl, hjk⟩ := rngW_get hw
      rw [Int.zero_add]
      have fin : ∀ r s m2, Shp a b q mu n (k * 128 + (j + 1) * 4) m2 → R2 [some (.ref a), some (.int way), some (.int n), some (.int cut), some (.int (2 + wd)), some (.ref q), some (.int k), some (.int tree), some (.int j), r, s] m2 := fun r s m2 h => k2 _ _ ⟨⟨_, _, _, rfl⟩, h⟩
      have r4 : ∀ (r s : Bool) m2, Shp a b q mu n (k * 128 + j * 4 + 3) m2 → (b_law_shape_1b1b4).wp F { nx := fun t m => R2 t m, rt := (endR Q).rt, bk := R, ct := R2 } [some (.ref a), some (.int way), some (.int n), some (.int cut), some (.int (2 + wd)), some (.ref q), some (.int k), some (.int tree), some (.int j), some (.bl r), some (.bl s)] m2 := by
        intro r s m2 h
        have no := fin (some (.bl r)) (some (.bl s)) m2 (h.up (by omega))
        have yes : (b_law_shape_1b1b4t0).wp F { nx := fun t m => R2 t m, rt := (endR Q).rt, bk := R, ct := R2 } [some (.ref a), some (.int way), some (.int n), some (.int cut), some (.int (2 + wd)), some (.ref q), some (.int k), some (.int tree), some (.int j), some (.bl r), some (.bl s)] m2 := by
          simp only [SL.wp, S.wp, E.wp, C.wp, EL.wp, CO.wp, EO.wp, T.wp, TL.wp, I.wp, getS0, getSs, Cn.w, List.set_cons_zero, List.set_cons_succ, wipeW, Bool.false_eq_true, if_false, if_true, tl2, lt_ii, le_ii, gt_ii, ge_ii, eq_ii, eq_ss, int_i, ne_ii, ne_bb, eq_bb, add_ii, sub_ii, mod_ii, add_tt, add_ll, optQ_s, decide_eq_true_eq, Bool.not_eq_true', decide_eq_false_iff_not, Bool.not_true, Bool.not_false, Bool.true_eq_false, not_true_eq_false, not_false_eq_true, b_law_shape_1b1b4t0]
          refine ⟨h.ty, le_sz (Nat.le_of_ble_eq_true rfl), ?_⟩
          exact h.add hq0 (by omega) (by omega) (by omega) (by omega) fun m3 h3 => fin _ _ _ (h3.up (by omega))
        simp only [SL.wp, S.wp, E.wp, C.wp, EL.wp, CO.wp, EO.wp, T.wp, TL.wp, I.wp, getS0, getSs, Cn.w, List.set_cons_zero, List.set_cons_succ, wipeW, Bool.false_eq_true, if_false, if_true, tl2, lt_ii, le_ii, gt_ii, ge_ii, eq_ii, eq_ss, int_i, ne_ii, ne_bb, eq_bb, add_ii, sub_ii, mod_ii, add_tt, add_ll, optQ_s, decide_eq_true_eq, Bool.not_eq_true', decide_eq_false_iff_not, Bool.not_true, Bool.not_false, Bool.true_eq_false, not_true_eq_false, not_false_eq_true, b_law_shape_1b1b4]
        have hwd : (2 : Int) + wd ≠ 0 := by omega
        cases r <;> cases s <;> simp only [SL.wp, S.wp, E.wp, C.wp, EL.wp, CO.wp, EO.wp, T.wp, TL.wp, I.wp, getS0, getSs, Cn.w, List.set_cons_zero, List.set_cons_succ, wipeW, Bool.false_eq_true, if_false, if_true, tl2, lt_ii, le_ii, gt_ii, ge_ii, eq_ii, eq_ss, int_i, ne_ii, ne_bb, eq_bb, add_ii, sub_ii, mod_ii, add_tt, add_ll, optQ_s, decide_eq_true_eq, Bool.not_eq_true', decide_eq_false_iff_not, Bool.not_true, Bool.not_false, Bool.true_eq_false, not_true_eq_false, not_false_eq_true] <;> repeat' (first | exact no | exact yes | (refine ⟨hwd, ?_⟩) | split)
      have r3 : ∀ (r s : Bool) m2, Shp a b q mu n (k * 128 + j * 4 + 2) m2 → (b_law_shape_1b1b3).wp F { nx := fun t m => R2 t m, rt := (endR Q).rt, bk := R, ct := R2 } [some (.ref a), some (.int way), some (.int n), some (.int cut), some (.int (2 + wd)), some (.ref q), some (.int k), some (.int tree), some (.int j), some (.bl r), some (.bl s)] m2 := by
        intro r s m2 h
        have no := r4 r s m2 (h.up (by omega))
        have yes : (b_law_shape_1b1b3t0).wp F { nx := fun t m => (b_law_shape_1b1b4).wp F { nx := fun t m => R2 t m, rt := (endR Q).rt, bk := R, ct := R2 } t m, rt := (endR Q).rt, bk := R, ct := R2 } [some (.ref a), some (.int way), some (.int n), some (.int cut), some (.int (2 + wd)), some (.ref q), some (.int k), some (.int tree), some (.int j), some (.bl r), some (.bl s)] m2 := by
          simp only [SL.wp, S.wp, E.wp, C.wp, EL.wp, CO.wp, EO.wp, T.wp, TL.wp, I.wp, getS0, getSs, Cn.w, List.set_cons_zero, List.set_cons_succ, wipeW, Bool.false_eq_true, if_false, if_true, tl2, lt_ii, le_ii, gt_ii, ge_ii, eq_ii, eq_ss, int_i, ne_ii, ne_bb, eq_bb, add_ii, sub_ii, mod_ii, add_tt, add_ll, optQ_s, decide_eq_true_eq, Bool.not_eq_true', decide_eq_false_iff_not, Bool.not_true, Bool.not_false, Bool.true_eq_false, not_true_eq_false, not_false_eq_true, b_law_shape_1b1b3t0]
          refine ⟨h.ty, le_sz (Nat.le_of_ble_eq_true rfl), ?_⟩
          exact h.add hq0 (by omega) (by omega) (by omega) (by omega) fun m3 h3 => r4 _ _ _ h3
        simp only [SL.wp, S.wp, E.wp, C.wp, EL.wp, CO.wp, EO.wp, T.wp, TL.wp, I.wp, getS0, getSs, Cn.w, List.set_cons_zero, List.set_cons_succ, wipeW, Bool.false_eq_true, if_false, if_true, tl2, lt_ii, le_ii, gt_ii, ge_ii, eq_ii, eq_ss, int_i, ne_ii, ne_bb, eq_bb, add_ii, sub_ii, mod_ii, add_tt, add_ll, optQ_s, decide_eq_true_eq, Bool.not_eq_true', decide_eq_false_iff_not, Bool.not_true, Bool.not_false, Bool.true_eq_false, not_true_eq_false, not_false_eq_true, b_law_shape_1b1b3]
        repeat' (first | exact no | exact yes | (refine ⟨_, rfl, ?_⟩) | split)
      have r2 : ∀ (r s : Bool) m2, Shp a b q mu n (k * 128 + j * 4 + 1) m2 → (b_law_shape_1b1b2).wp F { nx := fun t m => R2 t m, rt := (endR Q).rt, bk := R, ct := R2 } [some (.ref a), some (.int way), some (.int n), some (.int cut), some (.int (2 + wd)), some (.ref q), some (.int k), some (.int tree), some (.int j), some (.bl r), some (.bl s)] m2 := by
        intro r s m2 h
        have no := r3 r s m2 (h.up (by omega))
        have yes : (b_law_shape_1b1b2t0).wp F { nx := fun t m => (b_law_shape_1b1b3).wp F { nx := fun t m => R2 t m, rt := (endR Q).rt, bk := R, ct := R2 } t m, rt := (endR Q).rt, bk := R, ct := R2 } [some (.ref a), some (.int way), some (.int n), some (.int cut), some (.int (2 + wd)), some (.ref q), some (.int k), some (.int tree), some (.int j), some (.bl r), some (.bl s)] m2 := by
          simp only [SL.wp, S.wp, E.wp, C.wp, EL.wp, CO.wp, EO.wp, T.wp, TL.wp, I.wp, getS0, getSs, Cn.w, List.set_cons_zero, List.set_cons_succ, wipeW, Bool.false_eq_true, if_false, if_true, tl2, lt_ii, le_ii, gt_ii, ge_ii, eq_ii, eq_ss, int_i, ne_ii, ne_bb, eq_bb, add_ii, sub_ii, mod_ii, add_tt, add_ll, optQ_s, decide_eq_true_eq, Bool.not_eq_true', decide_eq_false_iff_not, Bool.not_true, Bool.not_false, Bool.true_eq_false, not_true_eq_false, not_false_eq_true, b_law_shape_1b1b2t0]
          refine ⟨h.ty, le_sz (Nat.le_of_ble_eq_true rfl), ?_⟩
          exact h.add hq0 (by omega) (by omega) (by omega) (by omega) fun m3 h3 => r3 _ _ _ h3
        simp only [SL.wp, S.wp, E.wp, C.wp, EL.wp, CO.wp, EO.wp, T.wp, TL.wp, I.wp, getS0, getSs, Cn.w, List.set_cons_zero, List.set_cons_succ, wipeW, Bool.false_eq_true, if_false, if_true, tl2, lt_ii, le_ii, gt_ii, ge_ii, eq_ii, eq_ss, int_i, ne_ii, ne_bb, eq_bb, add_ii, sub_ii, mod_ii, add_tt, add_ll, optQ_s, decide_eq_true_eq, Bool.not_eq_true', decide_eq_false_iff_not, Bool.not_true, Bool.not_false, Bool.true_eq_false, not_true_eq_false, not_false_eq_true, b_law_shape_1b1b2]
        cases r <;> cases s <;> simp only [SL.wp, S.wp, E.wp, C.wp, EL.wp, CO.wp, EO.wp, T.wp, TL.wp, I.wp, getS0, getSs, Cn.w, List.set_cons_zero, List.set_cons_succ, wipeW, Bool.false_eq_true, if_false, if_true, tl2, lt_ii, le_ii, gt_ii, ge_ii, eq_ii, eq_ss, int_i, ne_ii, ne_bb, eq_bb, add_ii, sub_ii, mod_ii, add_tt, add_ll, optQ_s, decide_eq_true_eq, Bool.not_eq_true', decide_eq_false_iff_not, Bool.not_true, Bool.not_false, Bool.true_eq_false, not_true_eq_false, not_false_eq_true] <;> repeat' (first | exact no | exact yes | split)
      have r1 : ∀ (r s : Bool) m2, Shp a b q mu n (k * 128 + j * 4) m2 → (b_law_shape_1b1b1).wp F { nx := fun t m => R2 t m, rt := (endR Q).rt, bk := R, ct := R2 } [some (.ref a), some (.int way), some (.int n), some (.int cut), some (.int (2 + wd)), some (.ref q), some (.int k), some (.int tree), some (.int j), some (.bl r), some (.bl s)] m2 := by
        intro r s m2 h
        have no : ∀ m3, Dr a b m2 m3 → _ := fun m3 d => r2 r s m3 ((h.draw hq0 d).up (by omega))
        have yes : ∀ m3, Dr a b m2 m3 → (b_law_shape_1b1b1t0).wp F { nx := fun t m => (b_law_shape_1b1b2).wp F { nx := fun t m => R2 t m, rt := (endR Q).rt, bk := R, ct := R2 } t m, rt := (endR Q).rt, bk := R, ct := R2 } [some (.ref a), some (.int way), some (.int n), some (.int cut), some (.int (2 + wd)), some (.ref q), some (.int k), some (.int tree), some (.int j), some (.bl r), some (.bl s)] m3 := by
          intro m3 d
          have h := h.draw hq0 d
          simp only [SL.wp, S.wp, E.wp, C.wp, EL.wp, CO.wp, EO.wp, T.wp, TL.wp, I.wp, getS0, getSs, Cn.w, List.set_cons_zero, List.set_cons_succ, wipeW, Bool.false_eq_true, if_false, if_true, tl2, lt_ii, le_ii, gt_ii, ge_ii, eq_ii, eq_ss, int_i, ne_ii, ne_bb, eq_bb, add_ii, sub_ii, mod_ii, add_tt, add_ll, optQ_s, decide_eq_true_eq, Bool.not_eq_true', decide_eq_false_iff_not, Bool.not_true, Bool.not_false, Bool.true_eq_false, not_true_eq_false, not_false_eq_true, b_law_shape_1b1b1t0]
          refine ⟨h.ty, le_sz (Nat.le_of_ble_eq_true rfl), ?_⟩
          exact h.add hq0 (by omega) (by omega) (by omega) (by omega) fun m3 h3 => r2 _ _ _ h3
        simp only [SL.wp, S.wp, E.wp, C.wp, EL.wp, CO.wp, EO.wp, T.wp, TL.wp, I.wp, getS0, getSs, Cn.w, List.set_cons_zero, List.set_cons_succ, wipeW, Bool.false_eq_true, if_false, if_true, tl2, lt_ii, le_ii, gt_ii, ge_ii, eq_ii, eq_ss, int_i, ne_ii, ne_bb, eq_bb, add_ii, sub_ii, mod_ii, add_tt, add_ll, optQ_s, decide_eq_true_eq, Bool.not_eq_true', decide_eq_false_iff_not, Bool.not_true, Bool.not_false, Bool.true_eq_false, not_true_eq_false, not_false_eq_true, b_law_shape_1b1b1, h1]
        split
        · refine ⟨a, b, 4, rfl, by omega, by omega, h.1.k1, fun e m3 e0 e1 d => ?_⟩
          simp only [SL.wp, S.wp, E.wp, C.wp, EL.wp, CO.wp, EO.wp, T.wp, TL.wp, I.wp, getS0, getSs, Cn.w, List.set_cons_zero, List.set_cons_succ, wipeW, Bool.false_eq_true, if_false, if_true, tl2, lt_ii, le_ii, gt_ii, ge_ii, eq_ii, eq_ss, int_i, ne_ii, ne_bb, eq_bb, add_ii, sub_ii, mod_ii, add_tt, add_ll, optQ_s, decide_eq_true_eq, Bool.not_eq_true', decide_eq_false_iff_not, Bool.not_true, Bool.not_false, Bool.true_eq_false, not_true_eq_false, not_false_eq_true]
          split
          · exact yes m3 d
          · exact no m3 d
        · exact no m2 (.refl h.1.k1)
      simp only [SL.wp, S.wp, E.wp, C.wp, EL.wp, CO.wp, EO.wp, T.wp, TL.wp, I.wp, getS0, getSs, Cn.w, List.set_cons_zero, List.set_cons_succ, wipeW, Bool.false_eq_true, if_false, if_true, tl2, lt_ii, le_ii, gt_ii, ge_ii, eq_ii, eq_ss, int_i, ne_ii, ne_bb, eq_bb, add_ii, sub_ii, mod_ii, add_tt, add_ll, optQ_s, decide_eq_true_eq, Bool.not_eq_true', decide_eq_false_iff_not, Bool.not_true, Bool.not_false, Bool.true_eq_false, not_true_eq_false, not_false_eq_true, b_law_shape_1b1b0]
      refine ⟨le_sz (Nat.le_of_ble_eq_true rfl), le_sz (Nat.le_of_ble_eq_true rfl), ?_⟩
      refine eq_tupC (l := [(j : Int), k]) (m := [0, (n : Int) - 1]) ?_
      simp only [SL.wp, S.wp, E.wp, C.wp, EL.wp, CO.wp, EO.wp, T.wp, TL.wp, I.wp, getS0, getSs, Cn.w, List.set_cons_zero, List.set_cons_succ, wipeW, Bool.false_eq_true, if_false, if_true, tl2, lt_ii, le_ii, gt_ii, ge_ii, eq_ii, eq_ss, int_i, ne_ii, ne_bb, eq_bb, add_ii, sub_ii, mod_ii, add_tt, add_ll, optQ_s, decide_eq_true_eq, Bool.not_eq_true', decide_eq_false_iff_not, Bool.not_true, Bool.not_false, Bool.true_eq_false, not_true_eq_false, not_false_eq_true, parT]
      exact r1 _ _ _ hJ
    · rintro t m' ⟨⟨x1, x2, x3, rfl⟩, hJ⟩
      rw [rngW_len] at hJ
      exact kk _ _ ⟨⟨_, _, _, _, _, rfl⟩, hJ.up (by omega)⟩
  · rintro t m ⟨⟨x1, x2, x3, x4, x5, rfl⟩, hd, ps, hu, hl, hm⟩
    rw [rngW_len, Int.toNat_natCast] at hl
    simp only [SL.wp, S.wp, E.wp, C.wp, EL.wp, CO.wp, EO.wp, T.wp, TL.wp, I.wp, getS0, getSs, Cn.w, List.set_cons_zero, List.set_cons_succ, wipeW, Bool.false_eq_true, if_false, if_true, tl2, lt_ii, le_ii, gt_ii, ge_ii, eq_ii, eq_ss, int_i, ne_ii, ne_bb, eq_bb, add_ii, sub_ii, mod_ii, add_tt, add_ll, optQ_s, decide_eq_true_eq, Bool.not_eq_true', decide_eq_false_iff_not, Bool.not_true, Bool.not_false, Bool.true_eq_false, not_true_eq_false, not_false_eq_true, b_law_shape_2]
    exact ret_dgL hd hq0 hm (hq ps hu (by omega))
end FF

/-! A drawn web. -/
namespace FF
open PySem PySem.Spec PyProof.Rows L2
theorem dmerge_P : ∀ (ps ks : List (Int × Int)), ∃ ks' : List (Int × Int), dmerge (ks.map trueP) (ps.map trueP) = ks'.map trueP ∧ ks'.length ≤ ks.length + ps.length ∧ ∀ c ∈ ks', c ∈ ks ∨ c ∈ ps
  | [], ks => ⟨ks, rfl, Nat.le_refl _, fun c h => .inl h⟩
  | p :: ps, ks => by
    obtain ⟨ks', e, hl, hm⟩ := dmerge_P ps (putP ks p)
    refine ⟨ks', ?_, ?_, fun c hc => ?_⟩
    · rw [← e, ← dput_P]
      rfl
    · have := putP_len ks p
      rw [List.length_cons]; omega
    · rcases hm c hc with h | h
      · rcases putP_mem.mp h with h | h
        · exact .inl h
        · exact .inr (by rw [h]; exact List.mem_cons_self)
      · exact .inr (List.mem_cons_of_mem _ h)
theorem dget_P (c : Int × Int) : ∀ ks : List (Int × Int), dget (ks.map trueP) (dkP c) = if c ∈ ks then some (.bl true) else none
  | [] => rfl
  | k :: ks => by
    rw [List.map_cons]
    show (if dkOf (pairW k) = some (dkP c) then some (W.bl true) else dget (ks.map trueP) (dkP c)) = _
    rw [dk_pair, dget_P c ks]
    by_cases h : c = k
    · subst h
      rw [if_pos rfl, if_pos List.mem_cons_self]
    · have h2 : ¬ (some (dkP k) = some (dkP c)) := fun z => h (dkP_inj (Option.some.inj z)).symm
      rw [if_neg h2]
      by_cases h3 : c ∈ ks
      · rw [if_pos h3, if_pos (List.mem_cons_of_mem _ h3)]
      · rw [if_neg h3, if_neg (fun z => (List.mem_cons.mp z).elim h h3)]
theorem ddrop_P (c : Int × Int) (ks : List (Int × Int)) : ∃ ks' : List (Int × Int), ddrop (ks.map trueP) (dkP c) = ks'.map trueP ∧ ks'.length ≤ ks.length ∧ ∀ x ∈ ks', x ∈ ks := by
  refine ⟨ks.filter (fun k => decide (dkOf (trueP k).1 ≠ some (dkP c))), ?_, List.length_filter_le _ _, fun x hx => (List.mem_filter.mp hx).1⟩
  unfold ddrop
  rw [List.filter_map]; rfl
/-! places turned -/
def sg (l : List Int) (i : Int) : Int := (l[i.toNat]?).getD 0
def prW : W → Int × Int
  | .tup [.int i, .int k] => (i, k)
  | _ => (0, 0)
def sg2 (l : List Int) (c : Int × Int) : Int × Int := (sg l c.1, sg l c.2)
structure Tur (l : List Int) (n : Nat) : Prop where
  len : l.length = n
  nd : l.Nodup
  ran : ∀ x ∈ l, 0 ≤ x ∧ x < (n : Int)
theorem perm_mapW {zs : List W} {l : List Int} (h : zs.Perm (l.map W.int)) : ∃ m : List Int, zs = m.map W.int ∧ m.Perm l := by
  refine ⟨zs.map intV, ?_, ?_⟩
  · rw [List.map_map]
    conv => lhs; rw [← List.map_id zs]
    refine List.map_congr_left fun z hz => ?_
    obtain ⟨i, rfl, _⟩ := take_ints (h.mem_iff.mp hz)
    rfl
  · have := h.map intV
    rw [List.map_map] at this
    have e : l.map (intV ∘ W.int) = l := by
      conv => rhs; rw [← List.map_id l]
      exact List.map_congr_left fun _ _ => rfl
    rw [e] at this; exact this
theorem rngW_ints (lo : Int) (n : Nat) : rngW lo n = ((List.range n).map fun (k : Nat) => lo + k).map W.int := by unfold rngW; rw [List.map_map]; rfl
theorem tur_of {zs : List W} {n : Nat} (h : zs.Perm (rngW 0 n)) : ∃ l : List Int, zs = l.map W.int ∧ Tur l n := by
  rw [rngW_ints] at h
  obtain ⟨l, rfl, p⟩ := perm_mapW h
  refine ⟨l, rfl, by rw [p.length_eq, List.length_map, List.length_range], ?_, fun x hx => ?_⟩
  · rw [p.nodup_iff]
    refine List.Pairwise.map _ (fun a b hab => ?_) List.nodup_range
    omega
  · obtain ⟨k, hk, rfl⟩ := List.mem_map.mp (p.mem_iff.mp hx)
    have := List.mem_range.mp hk
    omega
theorem Tur.get {l : List Int} {n : Nat} (h : Tur l n) {i : Int} (h0 : 0 ≤ i) (h1 : i < n) : l[i.toNat]? = some (sg l i) := by
  have hl := h.len
  have : i.toNat < l.length := by omega
  unfold sg
  rw [List.getElem?_eq_getElem this]; rfl
theorem Tur.rng {l : List Int} {n : Nat} (h : Tur l n) {i : Int} (h0 : 0 ≤ i) (h1 : i < n) : 0 ≤ sg l i ∧ sg l i < n := h.ran _ (List.mem_of_getElem? (h.get h0 h1))
theorem Tur.inj {l : List Int} {n : Nat} (h : Tur l n) {i j : Int} (h0 : 0 ≤ i) (h1 : i < n) (h2 : 0 ≤ j) (h3 : j < n) (e : sg l i = sg l j) : i = j := by
  have a := h.get h0 h1
  have b := h.get h2 h3
  rw [e] at a
  have := nodup_get h.nd a b
  omega
theorem Tur.at {l : List Int} {n : Nat} (h : Tur l n) {i : Int} (h0 : 0 ≤ i) (h1 : i < n) : atI (l.map W.int) i = some (.int (sg l i)) := by
  obtain ⟨j, rfl⟩ : ∃ j : Nat, i = (j : Int) := ⟨i.toNat, by omega⟩
  refine atI_nat ?_
  have := h.get h0 h1
  rw [Int.toNat_natCast] at this
  rw [List.getElem?_map, this]; rfl
/-- pairs of unlike places -/
def PrOk (n : Int) (ps : List (Int × Int)) : Prop := ∀ c ∈ ps, 0 ≤ c.1 ∧ c.1 < n ∧ 0 ≤ c.2 ∧ c.2 < n ∧ c.1 ≠ c.2
theorem Tur.prs {l : List Int} {n : Nat} (h : Tur l n) {ps : List (Int × Int)} (hp : PrOk n ps) : PrOk n (ps.map (sg2 l)) := fun c hc => by
  obtain ⟨d, hd, rfl⟩ := List.mem_map.mp hc
  obtain ⟨a1, a2, a3, a4, a5⟩ := hp d hd
  have b1 := h.rng a1 a2
  have b2 := h.rng a3 a4
  exact ⟨b1.1, b1.2, b2.1, b2.2, fun z => a5 (h.inj a1 a2 a3 a4 z)⟩
theorem web_mk {n : Nat} {ps cs : List (Int × Int)} (hn : n ≤ 32) (hp : PrOk n ps) (hl : ps.length ≤ 50000) (hm : ∀ c, c ∈ cs ↔ c ∈ ps ∨ (c.2, c.1) ∈ ps) (hc : cs.length ≤ 2 * ps.length) : Web n cs := by
  refine ⟨hn, by omega, fun c hc => ?_, fun c hc => ?_, fun c hc => ?_⟩
  · rcases (hm c).mp hc with h | h
    · obtain ⟨a1, a2, a3, a4, _⟩ := hp c h
      exact ⟨a1, a2, a3, a4⟩
    · obtain ⟨a1, a2, a3, a4, _⟩ := hp _ h
      exact ⟨a3, a4, a1, a2⟩
  · exact (hm _).mpr ((hm c).mp hc).symm
  · rcases (hm c).mp hc with h | h
    · exact (hp c h).2.2.2.2
    · exact Ne.symm (hp _ h).2.2.2.2
def e_turns : E := .ifx (.and (.cmp .Gt (.var 3) (.con (.int 1))) (.cmp .Eq (.cal "_law_draw" (.cons (.var 0) (.cons (.con (.int 3)) .nil))) (.con (.int 0)))) (.con (.int 2)) (.con (.int 0))
theorem wp_turns {F : Fe} (h1 : F.fn "_law_draw" = sp_law_draw) {a b : Addr} {x1 x2 x4 x5 x6 x7 x8 x9 : Option W} {n : Nat} {mu : Mu} {Q : QW} (hk : Dk a b mu) (h : ∀ (j : Nat) m, j ≤ 2 → (1 < n ∨ j = 0) → Dr a b mu m → Q (.int j) m) : E.wp F e_turns [some (.ref a), x1, x2, some (.int n), x4, x5, x6, x7, x8, x9] mu Q := by
  simp only [SL.wp, S.wp, E.wp, C.wp, EL.wp, CO.wp, EO.wp, T.wp, TL.wp, I.wp, getS0, getSs, Cn.w, List.set_cons_zero, List.set_cons_succ, wipeW, Bool.false_eq_true, if_false, if_true, tl2, lt_ii, le_ii, gt_ii, ge_ii, eq_ii, eq_ss, int_i, ne_ii, ne_bb, eq_bb, add_ii, sub_ii, mod_ii, add_tt, add_ll, optQ_s, decide_eq_true_eq, Bool.not_eq_true', decide_eq_false_iff_not, Bool.not_true, Bool.not_false, Bool.true_eq_false, not_true_eq_false, not_false_eq_true, e_turns, h1]
  split
  · rename_i h2
    refine ⟨a, b, 3, rfl, by omega, by omega, hk, fun r m r0 r1 d => ?_⟩
    simp only [SL.wp, S.wp, E.wp, C.wp, EL.wp, CO.wp, EO.wp, T.wp, TL.wp, I.wp, getS0, getSs, Cn.w, List.set_cons_zero, List.set_cons_succ, wipeW, Bool.false_eq_true, if_false, if_true, tl2, lt_ii, le_ii, gt_ii, ge_ii, eq_ii, eq_ss, int_i, ne_ii, ne_bb, eq_bb, add_ii, sub_ii, mod_ii, add_tt, add_ll, optQ_s, decide_eq_true_eq, Bool.not_eq_true', decide_eq_false_iff_not, Bool.not_true, Bool.not_false, Bool.true_eq_false, not_true_eq_false, not_false_eq_true]
    split
    · exact h 2 m (by omega) (.inl (by omega)) d
    · exact h 0 m (by omega) (.inr rfl) d
  · exact h 0 mu (by omega) (.inr rfl) (.refl hk)
theorem srt2 {i j : Int} (h : i ≠ j) : ∃ x y, srtI [i, j] = [x, y] ∧ (x = i ∨ x = j) ∧ (y = i ∨ y = j) ∧ x ≠ y := by
  have p := srtI_perm [i, j]
  have hl := p.length_eq
  have hn : (srtI [i, j]).Nodup := p.nodup_iff.mpr (by simp [h])
  have hm : ∀ x, x ∈ srtI [i, j] → x = i ∨ x = j := fun x hx => by simpa using p.mem_iff.mp hx
  generalize srtI [i, j] = s at hl hn hm
  match s, hl with
  | [x, y], _ => exact ⟨x, y, rfl, hm x (by simp), hm y (by simp), by simpa using hn⟩
theorem is_bl {c : Bool} {mu : Mu} {Q : QW} (h : Q (.bl false) mu) : cmpR .Is (.bl c) .non mu Q := h
theorem is_non {mu : Mu} {Q : QW} (h : Q (.bl true) mu) : cmpR .Is .non .non mu Q := h
def sp_law_web : SpW := fun ws mu Q => ∃ (a b : Addr) (least most : Nat), ws = [.ref a, .int least, .int most] ∧ 0 < least ∧ least ≤ most ∧ most ≤ 32 ∧ Dk a b mu ∧ ∀ (n : Nat) cs, least ≤ n → n ≤ most → Web n cs → cs.length ≤ 20000 → ∀ mu', Dr a b mu mu' → Q (webW n cs) mu'
theorem ok_law_web (F : Fe) (h1 : F.fn "_law_draw" = sp_law_draw) (h2 : F.fn "_law_pick" = sp_law_pick) (h3 : F.fn "_law_turned" = sp_law_turned) (h4 : F.fn "_law_shape" = sp_law_shape) (h5 : F.fn "_law_web_of" = sp_law_web_of) : ∀ ws mu Q, sp_law_web ws mu Q → ws.length = 3 ∧ (b_law_web).wp F (endR Q) (startW n_law_web ws) mu := by
  rintro ws mu Q ⟨a, b, least, most, rfl, hl0, hlm, hm32, hk, hq⟩
  refine ⟨rfl, ?_⟩
  show (b_law_web).wp F (endR Q) [some (.ref a), some (.int least), some (.int most), none, none, none, none, none, none, none] mu
  simp only [SL.wp, S.wp, E.wp, C.wp, EL.wp, CO.wp, EO.wp, T.wp, TL.wp, I.wp, getS0, getSs, Cn.w, List.set_cons_zero, List.set_cons_succ, wipeW, Bool.false_eq_true, if_false, if_true, tl2, lt_ii, le_ii, gt_ii, ge_ii, eq_ii, eq_ss, int_i, ne_ii, ne_bb, eq_bb, add_ii, sub_ii, mod_ii, add_tt, add_ll, optQ_s, decide_eq_true_eq, Bool.not_eq_true', decide_eq_false_iff_not, Bool.not_true, Bool.not_false, Bool.true_eq_false, not_true_eq_false, not_false_eq_true, b_law_web, h1, h2]
  refine ⟨a, b, _, rfl, by omega, by omega, hk, fun r mu1 r0 r1 d1 => ?_⟩
  obtain ⟨n, hn⟩ : ∃ n : Nat, (least : Int) + r = n := ⟨((least : Int) + r).toNat, by omega⟩
  simp only [SL.wp, S.wp, E.wp, C.wp, EL.wp, CO.wp, EO.wp, T.wp, TL.wp, I.wp, getS0, getSs, Cn.w, List.set_cons_zero, List.set_cons_succ, wipeW, Bool.false_eq_true, if_false, if_true, tl2, lt_ii, le_ii, gt_ii, ge_ii, eq_ii, eq_ss, int_i, ne_ii, ne_bb, eq_bb, add_ii, sub_ii, mod_ii, add_tt, add_ll, optQ_s, decide_eq_true_eq, Bool.not_eq_true', decide_eq_false_iff_not, Bool.not_true, Bool.not_false, Bool.true_eq_false, not_true_eq_false, not_false_eq_true, hn]
  refine newL_f (le_sz (Nat.le_of_ble_eq_true rfl)) ?_
  refine ⟨a, b, _, _, rfl, d1.dk, Nat.le_of_ble_eq_true rfl, Nat.le_of_ble_eq_true rfl, fun _ _ => rfl, fun w hw mu2 d2 => ?_⟩
  obtain ⟨way, rfl, _⟩ := take_ints (l := [0, 1, 2, 3, 4, 4, 5, 6, 7, 8, 9, 9, 10, 1, 4]) hw
  simp only [SL.wp, S.wp, E.wp, C.wp, EL.wp, CO.wp, EO.wp, T.wp, TL.wp, I.wp, getS0, getSs, Cn.w, List.set_cons_zero, List.set_cons_succ, wipeW, Bool.false_eq_true, if_false, if_true, tl2, lt_ii, le_ii, gt_ii, ge_ii, eq_ii, eq_ss, int_i, ne_ii, ne_bb, eq_bb, add_ii, sub_ii, mod_ii, add_tt, add_ll, optQ_s, decide_eq_true_eq, Bool.not_eq_true', decide_eq_false_iff_not, Bool.not_true, Bool.not_false, Bool.true_eq_false, not_true_eq_false, not_false_eq_true, parT]
  have hd := d1.trans d2
  simp only [SL.wp, S.wp, E.wp, C.wp, EL.wp, CO.wp, EO.wp, T.wp, TL.wp, I.wp, getS0, getSs, Cn.w, List.set_cons_zero, List.set_cons_succ, wipeW, Bool.false_eq_true, if_false, if_true, tl2, lt_ii, le_ii, gt_ii, ge_ii, eq_ii, eq_ss, int_i, ne_ii, ne_bb, eq_bb, add_ii, sub_ii, mod_ii, add_tt, add_ll, optQ_s, decide_eq_true_eq, Bool.not_eq_true', decide_eq_false_iff_not, Bool.not_true, Bool.not_false, Bool.true_eq_false, not_true_eq_false, not_false_eq_true, b_law_web_1, h3, h4]
  refine ⟨n, rfl, by omega, newL_f (by rw [rngW_len]; exact le_sz (by omega)) ?_⟩
  rw [Int.toNat_natCast]
  refine ⟨a, b, _, rngW 0 n, rfl, d2.dk, by rw [rngW_len]; omega, rfl, fun zs hz mu3 d3 => ?_⟩
  obtain ⟨l, rfl, hT⟩ := tur_of hz
  refine ⟨a, b, way, n, rfl, by omega, d3.dk, fun ps hu hpl mu4 d4 => ?_⟩
  show ∀ p, mu4 p = none → _
  intro p hp
  have hd := (hd.trans d3).trans d4
  refine comp_m hp (fun w => .tup [w, .bl true]) (by rw [List.length_map]; exact le_sz (by omega)) .free True.intro ?_ ?_
  · intro w m G hw _ k
    simp only [SL.wp, S.wp, E.wp, C.wp, EL.wp, CO.wp, EO.wp, T.wp, TL.wp, I.wp, getS0, getSs, Cn.w, List.set_cons_zero, List.set_cons_succ, wipeW, Bool.false_eq_true, if_false, if_true, tl2, lt_ii, le_ii, gt_ii, ge_ii, eq_ii, eq_ss, int_i, ne_ii, ne_bb, eq_bb, add_ii, sub_ii, mod_ii, add_tt, add_ll, optQ_s, decide_eq_true_eq, Bool.not_eq_true', decide_eq_false_iff_not, Bool.not_true, Bool.not_false, Bool.true_eq_false, not_true_eq_false, not_false_eq_true]
    exact ⟨le_sz (Nat.le_of_ble_eq_true rfl), k⟩
  · rw [dell_sett hp, List.map_map]
    refine ⟨_, ps.map trueP, rfl, dctOf_map ps, fun q hq => ?_, ?_⟩
    · obtain ⟨c, _, rfl⟩ := List.mem_map.mp hq
      exact ⟨_, dk_pair c⟩
    · obtain ⟨ks, e, kl, km⟩ := dmerge_P ps []
      have e : dmerge [] (ps.map trueP) = ks.map trueP := e
      rw [e]
      show ∀ q, mu4 q = none → _
      intro q hq4
      refine ⟨le_sz (Nat.le_of_ble_eq_true rfl), rfl, ?_⟩
      have hqa := hd.dk.na hq4
      have hq0 : mu q = none := by rw [← hd.fr q hqa.1 hqa.2]; exact hq4
      have hks : PrOk n ks := fun c hc => by
        rcases km c hc with h | h
        · exact (List.not_mem_nil h).elim
        · obtain ⟨a1, a2, a3⟩ := hu c h
          exact ⟨a1, by omega, by omega, a3, by omega⟩
      have hkl : ks.length ≤ 5000 := by rw [List.length_nil] at kl; omega
      have hg : Dg a b mu (sett mu4 q (.dct true (ks.map trueP))) := ((Dg.refl hk).draw hd).sett hq0
      simp only [b_law_web_2, SL.wp, S.wp, I.wp]
      refine wp_turns h1 hg.k1 fun j m5 hj2 hjn d5 => ⟨j, rfl, by omega, ?_⟩
      have hg5 := hg.draw d5
      have hm5 : m5 q = some (.dct true (ks.map trueP)) := by rw [d5.fr q hqa.1 hqa.2]; exact sett_same
      refine forW_inv (fun i t m => (∃ x7 x8 x9, t = [some (.ref a), some (.int least), some (.int most), some (.int n), some (.int way), some (.lst (l.map W.int)), some (.ref q), x7, x8, x9]) ∧ Dg a b mu m ∧ ∃ ks, m q = some (.dct true (ks.map trueP)) ∧ PrOk n ks ∧ ks.length ≤ 5000 + i) ⟨⟨_, _, _, rfl⟩, hg5, ks, hm5, hks, hkl⟩ (fun _ _ _ _ _ => True.intro) ?_ ?_
      · clear hks hkl km e kl hm5 hg5 hg
        rintro i w t m R hw ⟨⟨x7, x8, x9, rfl⟩, hgm, ks, hmq, hks, hkl⟩ kk
        obtain ⟨rfl, hi⟩ := rngW_get hw
        rw [Int.toNat_natCast] at hi
        have hn1 : 1 < n := hjn.elim id fun z => by omega
        simp only [SL.wp, S.wp, E.wp, C.wp, EL.wp, CO.wp, EO.wp, T.wp, TL.wp, I.wp, getS0, getSs, Cn.w, List.set_cons_zero, List.set_cons_succ, wipeW, Bool.false_eq_true, if_false, if_true, tl2, lt_ii, le_ii, gt_ii, ge_ii, eq_ii, eq_ss, int_i, ne_ii, ne_bb, eq_bb, add_ii, sub_ii, mod_ii, add_tt, add_ll, optQ_s, decide_eq_true_eq, Bool.not_eq_true', decide_eq_false_iff_not, Bool.not_true, Bool.not_false, Bool.true_eq_false, not_true_eq_false, not_false_eq_true, b_law_web_2b0, h1]
        refine ⟨a, b, _, rfl, by omega, by omega, hgm.k1, fun u m6 u0 u1 d6 => ?_⟩
        simp only [SL.wp, S.wp, E.wp, C.wp, EL.wp, CO.wp, EO.wp, T.wp, TL.wp, I.wp, getS0, getSs, Cn.w, List.set_cons_zero, List.set_cons_succ, wipeW, Bool.false_eq_true, if_false, if_true, tl2, lt_ii, le_ii, gt_ii, ge_ii, eq_ii, eq_ss, int_i, ne_ii, ne_bb, eq_bb, add_ii, sub_ii, mod_ii, add_tt, add_ll, optQ_s, decide_eq_true_eq, Bool.not_eq_true', decide_eq_false_iff_not, Bool.not_true, Bool.not_false, Bool.true_eq_false, not_true_eq_false, not_false_eq_true, b_law_web_2b1, h1]
        refine ⟨a, b, _, rfl, by omega, by omega, d6.dk, fun v m7 v0 v1 d7 => ?_⟩
        simp only [SL.wp, S.wp, E.wp, C.wp, EL.wp, CO.wp, EO.wp, T.wp, TL.wp, I.wp, getS0, getSs, Cn.w, List.set_cons_zero, List.set_cons_succ, wipeW, Bool.false_eq_true, if_false, if_true, tl2, lt_ii, le_ii, gt_ii, ge_ii, eq_ii, eq_ss, int_i, ne_ii, ne_bb, eq_bb, add_ii, sub_ii, mod_ii, add_tt, add_ll, optQ_s, decide_eq_true_eq, Bool.not_eq_true', decide_eq_false_iff_not, Bool.not_true, Bool.not_false, Bool.true_eq_false, not_true_eq_false, not_false_eq_true]
        refine ⟨by omega, ?_⟩
        obtain ⟨g0, g1⟩ := fmod_rng (u + 1 + v) (m := (n : Int)) (by omega)
        have g2 : u ≠ (u + 1 + v).fmod n := by
          intro z
          have h8 : u + 1 + v < 2 * n := by omega
          rw [Int.fmod_eq_emod_of_nonneg _ (by omega)] at z
          by_cases h9 : u + 1 + v < n
          · rw [Int.emod_eq_of_lt (by omega) h9] at z; omega
          · have : (u + 1 + v) % (n : Int) = u + 1 + v - n := by
              rw [← Int.emod_eq_of_lt (a := u + 1 + v - n) (b := n) (by omega) (by omega), Int.sub_emod_right]
            omega
        generalize (u + 1 + v).fmod n = u' at g0 g1 g2
        refine newL_f (le_sz (Nat.le_of_ble_eq_true rfl)) (.inl ⟨[u, u'], rfl, ?_⟩)
        obtain ⟨x, y, es, hx, hy, hxy⟩ := srt2 g2
        rw [es]
        show (b_law_web_2b2).wp F _ [some (.ref a), some (.int least), some (.int most), some (.int n), some (.int way), some (.lst (l.map W.int)), some (.ref q), some (pairW (x, y)), _, some (.int u)] m7
        have d67 := d6.trans d7
        have hm7 : m7 q = some (.dct true (ks.map trueP)) := by rw [d67.fr q hqa.1 hqa.2]; exact hmq
        have hg7 := hgm.draw d67
        have hxyr : 0 ≤ x ∧ x < n ∧ 0 ≤ y ∧ y < n := by
          rcases hx with rfl | rfl <;> rcases hy with rfl | rfl <;> omega
        simp only [SL.wp, S.wp, E.wp, C.wp, EL.wp, CO.wp, EO.wp, T.wp, TL.wp, I.wp, getS0, getSs, Cn.w, List.set_cons_zero, List.set_cons_succ, wipeW, Bool.false_eq_true, if_false, if_true, tl2, lt_ii, le_ii, gt_ii, ge_ii, eq_ii, eq_ss, int_i, ne_ii, ne_bb, eq_bb, add_ii, sub_ii, mod_ii, add_tt, add_ll, optQ_s, decide_eq_true_eq, Bool.not_eq_true', decide_eq_false_iff_not, Bool.not_true, Bool.not_false, Bool.true_eq_false, not_true_eq_false, not_false_eq_true, b_law_web_2b2]
        refine ⟨by rw [vw_dct hm7]; rfl, true, ks.map trueP, dkP (x, y), hm7, rfl, rfl, ?_⟩
        rw [dget_P]
        by_cases hin : (x, y) ∈ ks
        · rw [if_pos hin]
          obtain ⟨ks', e, kl, km⟩ := ddrop_P (x, y) ks
          dsimp only
          rw [e]
          refine is_bl ?_
          simp only [SL.wp, S.wp, E.wp, C.wp, EL.wp, CO.wp, EO.wp, T.wp, TL.wp, I.wp, getS0, getSs, Cn.w, List.set_cons_zero, List.set_cons_succ, wipeW, Bool.false_eq_true, if_false, if_true, tl2, lt_ii, le_ii, gt_ii, ge_ii, eq_ii, eq_ss, int_i, ne_ii, ne_bb, eq_bb, add_ii, sub_ii, mod_ii, add_tt, add_ll, optQ_s, decide_eq_true_eq, Bool.not_eq_true', decide_eq_false_iff_not, Bool.not_true, Bool.not_false, Bool.true_eq_false, not_true_eq_false, not_false_eq_true]
          exact kk _ _ ⟨⟨_, _, _, rfl⟩, hg7.sett hq0, ks', sett_same, fun c hc => hks c (km c hc), by omega⟩
        · rw [if_neg hin]
          dsimp only
          refine is_non ?_
          simp only [SL.wp, S.wp, E.wp, C.wp, EL.wp, CO.wp, EO.wp, T.wp, TL.wp, I.wp, getS0, getSs, Cn.w, List.set_cons_zero, List.set_cons_succ, wipeW, Bool.false_eq_true, if_false, if_true, tl2, lt_ii, le_ii, gt_ii, ge_ii, eq_ii, eq_ss, int_i, ne_ii, ne_bb, eq_bb, add_ii, sub_ii, mod_ii, add_tt, add_ll, optQ_s, decide_eq_true_eq, Bool.not_eq_true', decide_eq_false_iff_not, Bool.not_true, Bool.not_false, Bool.true_eq_false, not_true_eq_false, not_false_eq_true, b_law_web_2b2t0]
          refine set_d (d := dkP (x, y)) hm7 rfl rfl (sz1000 (by rw [List.length_map]; omega)) ?_
          rw [dput_P]
          have := putP_len ks (x, y)
          refine kk _ _ ⟨⟨_, _, _, rfl⟩, hg7.sett hq0, putP ks (x, y), sett_same, fun c hc => ?_, by omega⟩
          rcases putP_mem.mp hc with hc | rfl
          · exact hks c hc
          · exact ⟨hxyr.1, hxyr.2.1, hxyr.2.2.1, hxyr.2.2.2, hxy⟩
      · clear hks hkl km e kl hm5 hg5 hg
        rintro t m ⟨⟨x7, x8, x9, rfl⟩, hgm, ks, hmq, hks, hkl⟩
        rw [rngW_len, Int.toNat_natCast] at hkl
        simp only [SL.wp, S.wp, E.wp, C.wp, EL.wp, CO.wp, EO.wp, T.wp, TL.wp, I.wp, getS0, getSs, Cn.w, List.set_cons_zero, List.set_cons_succ, wipeW, Bool.false_eq_true, if_false, if_true, tl2, lt_ii, le_ii, gt_ii, ge_ii, eq_ii, eq_ss, int_i, ne_ii, ne_bb, eq_bb, add_ii, sub_ii, mod_ii, add_tt, add_ll, optQ_s, decide_eq_true_eq, Bool.not_eq_true', decide_eq_false_iff_not, Bool.not_true, Bool.not_false, Bool.true_eq_false, not_true_eq_false, not_false_eq_true, b_law_web_3, h5]
        unfold iterR
        rw [vw_dct hmq]
        dsimp only
        rw [keys_P]
        show ∀ p, dell m q p = none → _
        intro p2 hp2
        refine comp_m hp2 (fun w => pairW (sg2 l (prW w))) (by rw [List.length_map]; exact le_sz (by omega)) .free True.intro ?_ ?_
        · intro w m' G hw _ k
          obtain ⟨c, hc, rfl⟩ := List.mem_map.mp hw
          obtain ⟨c1, c2⟩ := c
          obtain ⟨b1, b2, b3, b4, _⟩ := hks _ hc
          refine ⟨rfl, ?_⟩
          simp only [SL.wp, S.wp, E.wp, C.wp, EL.wp, CO.wp, EO.wp, T.wp, TL.wp, I.wp, getS0, getSs, Cn.w, List.set_cons_zero, List.set_cons_succ, wipeW, Bool.false_eq_true, if_false, if_true, tl2, lt_ii, le_ii, gt_ii, ge_ii, eq_ii, eq_ss, int_i, ne_ii, ne_bb, eq_bb, add_ii, sub_ii, mod_ii, add_tt, add_ll, optQ_s, decide_eq_true_eq, Bool.not_eq_true', decide_eq_false_iff_not, Bool.not_true, Bool.not_false, Bool.true_eq_false, not_true_eq_false, not_false_eq_true]
          refine idx_lst (hT.at b1 b2) (idx_lst (hT.at b3 b4) ⟨le_sz (Nat.le_of_ble_eq_true rfl), ?_⟩)
          exact k
        · rw [dell_sett hp2, List.map_map]
          refine ⟨n, ks.map (sg2 l), ?_, by rw [List.length_map]; omega, fun cs hcs hcl => ?_⟩
          · rw [List.map_map]; rfl
          · have hW := web_mk (by omega) (hT.prs hks) (by rw [List.length_map]; omega) hcs hcl
            rw [List.length_map] at hcl
            exact ret_dg (hgm.dell hq0) (hq n cs (by omega) (by omega) hW (by omega))
end FF

/-! Plain law: rings glued together. -/
namespace FF
open PySem PySem.Spec PyProof.Rows L2
def EdP (ps : List (Int × Int)) (x y : Int) : Prop := (x, y) ∈ ps ∨ (y, x) ∈ ps
theorem EdP.swap {ps : List (Int × Int)} {x y : Int} (h : EdP ps x y) : EdP ps y x := Or.symm h
theorem EdP.left {ps qs : List (Int × Int)} {x y : Int} (h : EdP ps x y) : EdP (ps ++ qs) x y := h.imp (List.mem_append_left _) (List.mem_append_left _)
theorem EdP.app {ps qs : List (Int × Int)} {x y : Int} : EdP (ps ++ qs) x y ↔ EdP ps x y ∨ EdP qs x y := by
  unfold EdP
  rw [List.mem_append, List.mem_append]
  constructor
  · rintro ((h | h) | (h | h))
    · exact .inl (.inl h)
    · exact .inr (.inl h)
    · exact .inl (.inr h)
    · exact .inr (.inr h)
  · rintro ((h | h) | (h | h))
    · exact .inl (.inl h)
    · exact .inr (.inl h)
    · exact .inl (.inr h)
    · exact .inr (.inr h)
structure RgP (ps : List (Int × Int)) (many : Int) (r : List Int) : Prop where
  ran : ∀ x ∈ r, 0 ≤ x ∧ x < many
  nd : r.Nodup
  four : 4 ≤ r.length
  nine : r.length ≤ 9
  next : ∀ i j x y, i < j → r[i]? = some x → r[j]? = some y → (EdP ps x y ↔ NextP r.length i j)
def ApP (ps : List (Int × Int)) (a b : List Int) : Prop := ∀ x ∈ a, ∀ y ∈ a, x ∈ b → y ∈ b → x ≠ y → EdP ps x y
structure Gl (ps : List (Int × Int)) (rs : List (List Int)) (many : Int) : Prop where
  pr : PrOk many ps
  rg : ∀ r ∈ rs, RgP ps many r
  ap : rs.Pairwise (ApP ps)
theorem Gl.nil : Gl [] [] 0 := ⟨fun _ h => (List.not_mem_nil h).elim, fun _ h => (List.not_mem_nil h).elim, List.Pairwise.nil⟩
/-- more pairs, none of them new between old places -/
theorem Gl.more {ps qs : List (Int × Int)} {rs : List (List Int)} {many many' : Int} (h : Gl ps rs many) (hm : many ≤ many') (hq : PrOk many' qs) (ho : ∀ x y, x < many → y < many → EdP qs x y → EdP ps x y) : Gl (ps ++ qs) rs many' := by
  refine ⟨fun c hc => ?_, fun r hr => ?_, h.ap.imp fun {a b} k x hx y hy hx' hy' hn => (k x hx y hy hx' hy' hn).left⟩
  · rcases List.mem_append.mp hc with hc | hc
    · obtain ⟨a1, a2, a3, a4, a5⟩ := h.pr c hc
      exact ⟨a1, by omega, a3, by omega, a5⟩
    · exact hq c hc
  · obtain ⟨a1, a2, a3, a4, a5⟩ := h.rg r hr
    refine ⟨fun x hx => ⟨(a1 x hx).1, by have := (a1 x hx).2; omega⟩, a2, a3, a4, fun i j x y hij hx hy => ?_⟩
    rw [← a5 i j x y hij hx hy, EdP.app]
    exact ⟨fun z => z.elim id (ho x y (a1 x (List.mem_of_getElem? hx)).2 (a1 y (List.mem_of_getElem? hy)).2), .inl⟩
/-- a place beside -/
theorem Gl.beside {ps : List (Int × Int)} {rs : List (List Int)} {many : Int} (h : Gl ps rs many) (h0 : 0 ≤ many) {xs : List Int} (hx : ∀ x ∈ xs, 0 ≤ x ∧ x < many) : Gl (ps ++ xs.map fun x => (many, x)) rs (many + 1) := by
  refine h.more (by omega) (fun c hc => ?_) fun x y hx' hy' he => ?_
  · obtain ⟨x, h1, rfl⟩ := List.mem_map.mp hc
    have := hx x h1
    exact ⟨h0, by show many < many + 1; omega, this.1, by show x < many + 1; omega, by show many ≠ x; omega⟩
  · rcases he with he | he
    · obtain ⟨z, _, e⟩ := List.mem_map.mp he
      cases e; omega
    · obtain ⟨z, _, e⟩ := List.mem_map.mp he
      cases e; omega
/-- the pairs of a ring -/
def rgPairs (r : List Int) : List (Int × Int) := (List.range r.length).map fun k => ((r[prevI r.length k]?).getD 0, (r[k]?).getD 0)
theorem rgPairs_mem {r : List Int} {x y : Int} : (x, y) ∈ rgPairs r ↔ ∃ k, k < r.length ∧ r[prevI r.length k]? = some x ∧ r[k]? = some y := by
  unfold rgPairs
  rw [List.mem_map]
  constructor
  · rintro ⟨k, hk, e⟩
    have hk := List.mem_range.mp hk
    have h1 := List.getElem?_eq_getElem hk
    have h2 := List.getElem?_eq_getElem (prevI_lt hk)
    rw [h1, h2] at e
    simp only [Option.getD_some, Prod.mk.injEq] at e
    exact ⟨k, hk, by rw [h2, e.1], by rw [h1, e.2]⟩
  · rintro ⟨k, hk, h1, h2⟩
    exact ⟨k, List.mem_range.mpr hk, by rw [h1, h2]; rfl⟩
/-- at two places of the ring -/
theorem rgPairs_next {r : List Int} (hn : r.Nodup) (h4 : 4 ≤ r.length) {i j : Nat} {x y : Int} (hij : i < j) (hx : r[i]? = some x) (hy : r[j]? = some y) : EdP (rgPairs r) x y ↔ NextP r.length i j := by
  have hj := (List.getElem?_eq_some_iff.mp hy).1
  unfold EdP
  rw [rgPairs_mem, rgPairs_mem]
  constructor
  · rintro (⟨k, hk, h1, h2⟩ | ⟨k, hk, h1, h2⟩)
    · have e1 := nodup_get hn h1 hx
      have e2 := nodup_get hn h2 hy
      unfold prevI at e1
      unfold NextP
      split at e1 <;> omega
    · have e1 := nodup_get hn h1 hy
      have e2 := nodup_get hn h2 hx
      unfold prevI at e1
      unfold NextP
      split at e1 <;> omega
  · rintro (e | ⟨e1, e2⟩)
    · refine .inl ⟨j, hj, ?_, hy⟩
      have : prevI r.length j = i := by unfold prevI; split <;> omega
      rw [this]; exact hx
    · refine .inr ⟨i, by omega, ?_, hx⟩
      have : prevI r.length i = j := by unfold prevI; split <;> omega
      rw [this]; exact hy
/-- a ring more, by places that it shares with others -/
theorem Gl.glue {ps : List (Int × Int)} {rs : List (List Int)} {many many' : Int} {sh nw : List Int} (h : Gl ps rs many) (h0 : 0 ≤ many) (hm : many ≤ many') (hsh : ∀ x ∈ sh, 0 ≤ x ∧ x < many) (hnw : ∀ x ∈ nw, many ≤ x ∧ x < many') (n1 : sh.Nodup) (n2 : nw.Nodup) (h2 : sh.length ≤ 2)
    (h3 : ∀ x y, sh[0]? = some x → sh[1]? = some y → EdP ps x y) (h4 : 4 ≤ (sh ++ nw).length) (h9 : (sh ++ nw).length ≤ 9) : Gl (ps ++ rgPairs (sh ++ nw)) (rs ++ [sh ++ nw]) many' := by
  have hran : ∀ x ∈ sh ++ nw, 0 ≤ x ∧ x < many' := fun x hx => by
    rcases List.mem_append.mp hx with hx | hx
    · have := hsh x hx; omega
    · have := hnw x hx; omega
  have hnd : (sh ++ nw).Nodup := List.nodup_append.mpr ⟨n1, n2, fun a ha b hb z => by
    have g1 := hsh a ha
    have g2 := hnw b hb
    omega⟩
  have hold : ∀ (i : Nat) (x : Int), (sh ++ nw)[i]? = some x → x < many → sh[i]? = some x := by
    intro i x hx hxm
    by_cases hi : i < sh.length
    · rw [List.getElem?_append_left hi] at hx; exact hx
    · rw [List.getElem?_append_right (by omega)] at hx
      have := (hnw x (List.mem_of_getElem? hx)).1
      omega
  have hlt : ∀ {i : Nat} {x : Int}, sh[i]? = some x → i < sh.length := fun h => (List.getElem?_eq_some_iff.mp h).1
  have old : ∀ x y, x < many → y < many → EdP (rgPairs (sh ++ nw)) x y → EdP ps x y := by
    intro x y hx hy he
    have go : ∀ x y, x < many → y < many → (x, y) ∈ rgPairs (sh ++ nw) → EdP ps x y := by
      intro x y hx hy he
      obtain ⟨k, hk, h5, h6⟩ := rgPairs_mem.mp he
      have g5 := hold _ _ h5 hx
      have g6 := hold _ _ h6 hy
      have l5 := hlt g5
      have l6 := hlt g6
      have hk1 : k = 1 := by
        unfold prevI at l5
        split at l5 <;> omega
      subst hk1
      have : prevI (sh ++ nw).length 1 = 0 := by unfold prevI; rw [if_neg (by omega)]
      rw [this] at g5
      exact h3 x y g5 g6
    rcases he with he | he
    · exact go x y hx hy he
    · exact (go y x hy hx he).swap
  have hpr : PrOk many' (rgPairs (sh ++ nw)) := by
    rintro ⟨x, y⟩ hc
    obtain ⟨k, hk, h5, h6⟩ := rgPairs_mem.mp hc
    have g5 := hran x (List.mem_of_getElem? h5)
    have g6 := hran y (List.mem_of_getElem? h6)
    refine ⟨g5.1, g5.2, g6.1, g6.2, fun z => ?_⟩
    have z : x = y := z
    subst z
    have := nodup_get hnd h5 h6
    unfold prevI at this
    split at this <;> omega
  have hG := h.more hm hpr old
  refine ⟨hG.pr, fun r hr => ?_, ?_⟩
  · rcases List.mem_append.mp hr with hr | hr
    · exact hG.rg r hr
    · rw [List.mem_singleton] at hr
      subst hr
      refine ⟨hran, hnd, h4, h9, fun i j x y hij hx hy => ?_⟩
      rw [← rgPairs_next hnd h4 hij hx hy, EdP.app]
      refine ⟨fun z => z.elim (fun z => ?_) id, .inr⟩
      rw [rgPairs_next hnd h4 hij hx hy]
      have hxy : x < many ∧ y < many := by
        rcases z with z | z
        · have := h.pr _ z; exact ⟨this.2.1, this.2.2.2.1⟩
        · have := h.pr _ z; exact ⟨this.2.2.2.1, this.2.1⟩
      have l5 := hlt (hold _ _ hx hxy.1)
      have l6 := hlt (hold _ _ hy hxy.2)
      exact .inl (by omega)
  · refine List.pairwise_append.mpr ⟨hG.ap, List.pairwise_singleton _ _, fun a ha c hc => ?_⟩
    rw [List.mem_singleton] at hc
    subst hc
    intro x hx y hy hx' hy' hn
    have hxm := ((h.rg a ha).ran x hx).2
    have hym := ((h.rg a ha).ran y hy).2
    obtain ⟨i, hi, ei⟩ := List.mem_iff_getElem.mp hx'
    obtain ⟨j, hj, ej⟩ := List.mem_iff_getElem.mp hy'
    have gi := hold i x (by rw [List.getElem?_eq_getElem hi, ei]) hxm
    have gj := hold j y (by rw [List.getElem?_eq_getElem hj, ej]) hym
    have l5 := hlt gi
    have l6 := hlt gj
    refine EdP.left ?_
    have : i ≠ j := fun z => by
      subst z
      rw [gi] at gj
      exact hn (Option.some.inj gj)
    have : (i = 0 ∧ j = 1) ∨ (i = 1 ∧ j = 0) := by omega
    rcases this with ⟨rfl, rfl⟩ | ⟨rfl, rfl⟩
    · exact h3 x y gi gj
    · exact (h3 y x gj gi).swap
/-- places turned -/
theorem Gl.turn {ps cs : List (Int × Int)} {rs : List (List Int)} {n : Nat} {l : List Int} (h : Gl ps rs n) (hT : Tur l n) (hc : ∀ c, c ∈ cs ↔ c ∈ ps.map (sg2 l) ∨ (c.2, c.1) ∈ ps.map (sg2 l)) : ShownP n cs (true, rs.map fun r => (true, r.map (sg l))) := by
  have hE : ∀ x y : Int, 0 ≤ x → x < n → 0 ≤ y → y < n → ((sg l x, sg l y) ∈ cs ↔ EdP ps x y) := by
    intro x y x0 x1 y0 y1
    have go : ∀ x y : Int, 0 ≤ x → x < n → 0 ≤ y → y < n → ((sg l x, sg l y) ∈ ps.map (sg2 l) ↔ (x, y) ∈ ps) := by
      intro x y x0 x1 y0 y1
      rw [List.mem_map]
      constructor
      · rintro ⟨⟨u, v⟩, hp, e⟩
        unfold sg2 at e
        simp only [Prod.mk.injEq] at e
        obtain ⟨a1, a2, a3, a4, _⟩ := h.pr _ hp
        have e1 := hT.inj a1 a2 x0 x1 e.1
        have e2 := hT.inj a3 a4 y0 y1 e.2
        simp only at e1 e2
        rw [← e1, ← e2]; exact hp
      · intro hp
        exact ⟨_, hp, rfl⟩
    rw [hc]
    show (sg l x, sg l y) ∈ _ ∨ (sg l y, sg l x) ∈ _ ↔ _
    rw [go x y x0 x1 y0 y1, go y x y0 y1 x0 x1]
    exact Iff.rfl
  refine ⟨rfl, fun r hr => ?_, ?_⟩
  · obtain ⟨q, hq, rfl⟩ := List.mem_map.mp hr
    obtain ⟨a1, a2, a3, a4, a5⟩ := h.rg q hq
    refine ⟨⟨rfl, fun x hx => ?_, ?_⟩, by rw [List.length_map]; exact a3, fun i j x y hij hx hy => ?_⟩
    · obtain ⟨y, hy, rfl⟩ := List.mem_map.mp hx
      exact hT.rng (a1 y hy).1 (a1 y hy).2
    · refine List.pairwise_map.mpr (List.Pairwise.imp_of_mem (fun {u v} hu hv huv z => huv ?_) a2)
      exact hT.inj (a1 u hu).1 (a1 u hu).2 (a1 v hv).1 (a1 v hv).2 z
    · simp only [List.getElem?_map] at hx hy
      cases ex : q[i]? with
      | none => rw [ex] at hx; cases hx
      | some u =>
        cases ey : q[j]? with
        | none => rw [ey] at hy; cases hy
        | some v =>
          rw [ex] at hx; rw [ey] at hy
          cases hx; cases hy
          have g1 := a1 u (List.mem_of_getElem? ex)
          have g2 := a1 v (List.mem_of_getElem? ey)
          rw [hE u v g1.1 g1.2 g2.1 g2.2, a5 i j u v hij ex ey, List.length_map]
          exact Iff.rfl
  · refine List.pairwise_map.mpr (List.Pairwise.imp_of_mem (fun {a b} ha hb k => ?_) h.ap)
    intro x hx y hy hx' hy' hn
    obtain ⟨u, hu, rfl⟩ := List.mem_map.mp hx
    obtain ⟨v, hv, rfl⟩ := List.mem_map.mp hy
    obtain ⟨u', hu', eu⟩ := List.mem_map.mp hx'
    obtain ⟨v', hv', ev⟩ := List.mem_map.mp hy'
    have g1 := (h.rg a ha).ran u hu
    have g2 := (h.rg a ha).ran v hv
    have g3 := (h.rg b hb).ran u' hu'
    have g4 := (h.rg b hb).ran v' hv'
    have e1 := hT.inj g3.1 g3.2 g1.1 g1.2 eu
    have e2 := hT.inj g4.1 g4.2 g2.1 g2.2 ev
    subst e1; subst e2
    refine (hE u' v' g1.1 g1.2 g2.1 g2.2).mpr (k u' hu v' hv hu' hv' fun z => hn ?_)
    rw [z]
end FF

/-! Rings glued together, as drawn. -/
namespace FF
open PySem PySem.Spec PyProof.Rows L2
def tI (l : List Int) : W := .tup (l.map W.int)
theorem tI_rt (rs : List (List Int)) : rs.map tI = (rs.map fun l => (true, l)).map rtW := by rw [List.map_map]; rfl
theorem ne_nilT {q : Addr} {rs : List (List Int)} {mu : Mu} {Q : QW} (hm : mu q = some (.lst (rs.map tI))) (h : Q (.bl (!decide (rs = []))) mu) : cmpR .NotEq (.ref q) (.lst []) mu Q := by
  unfold cmpR
  dsimp only
  rw [vw_lst hm, tI_rt]
  refine eq_nilR (Q := fun b => Q (.bl (!b)) mu) ?_
  have : decide ((rs.map fun l => (true, l)) = ([] : List Rt)) = decide (rs = []) := by
    cases rs <;> simp
  rw [this]; exact h
theorem ne_nilS {l : List Int} {mu : Mu} {Q : QW} (h : Q (.bl (!decide (l = []))) mu) : cmpR .NotEq (tI l) (.tup []) mu Q := eq_tupI (m := []) (Q := fun b => Q (.bl (!b)) mu) h
theorem take_tI {rs : List (List Int)} {w : W} (h : w ∈ rs.map tI) : ∃ l, w = tI l ∧ l ∈ rs := by
  obtain ⟨l, hl, e⟩ := List.mem_map.mp h
  exact ⟨l, e.symm, hl⟩
theorem atI_ints {l : List Int} {i : Int} {x : Int} (h : atI l i = some x) : atI (l.map W.int) i = some (.int x) := by
  unfold atI at h ⊢
  rw [List.length_map]
  cases e : ixN l.length i with
  | none => rw [e] at h; cases h
  | some j =>
    rw [e] at h
    have h : l[j]? = some x := h
    show (l.map W.int)[j]? = _
    rw [List.getElem?_map, h]; rfl
theorem atI_four {l : List Int} (h4 : 4 ≤ l.length) {i : Int} (h0 : -4 ≤ i) (h1 : i < 4) : ∃ x, x ∈ l ∧ atI l i = some x := by
  by_cases hi : 0 ≤ i
  · exact atI_int hi (by omega)
  · obtain ⟨j, hj⟩ : ∃ j : Nat, i + l.length = (j : Int) := ⟨(i + l.length).toNat, by omega⟩
    have hjl : j < l.length := by omega
    exact ⟨l[j], List.getElem_mem hjl, atI_neg (by omega) hj (List.getElem?_eq_getElem hjl)⟩
/-- the pairs and the rings so far -/
structure Gs (a b qp qr : Addr) (mu : Mu) (ps : List (Int × Int)) (rs : List (List Int)) (m : Mu) : Prop where
  dg : Dg a b mu m
  hp : m qp = some (.lst (ps.map pairW))
  hr : m qr = some (.lst (rs.map tI))
  np : mu qp = none
  nr : mu qr = none
  ne : qp ≠ qr
theorem Gs.draw {a b qp qr : Addr} {mu m m' : Mu} {ps : List (Int × Int)} {rs : List (List Int)} (h : Gs a b qp qr mu ps rs m) (d : Dr a b m m') : Gs a b qp qr mu ps rs m' := by
  have g1 := h.dg.k0.na h.np
  have g2 := h.dg.k0.na h.nr
  exact ⟨h.dg.draw d, by rw [d.fr qp g1.1 g1.2]; exact h.hp, by rw [d.fr qr g2.1 g2.2]; exact h.hr, h.np, h.nr, h.ne⟩
theorem Gs.putP {a b qp qr : Addr} {mu m : Mu} {ps : List (Int × Int)} {rs : List (List Int)} (h : Gs a b qp qr mu ps rs m) (ps' : List (Int × Int)) : Gs a b qp qr mu ps' rs (sett m qp (.lst (ps'.map pairW))) :=
  ⟨h.dg.sett h.np, sett_same, by rw [sett_ne (Ne.symm h.ne)]; exact h.hr, h.np, h.nr, h.ne⟩
theorem Gs.putR {a b qp qr : Addr} {mu m : Mu} {ps : List (Int × Int)} {rs : List (List Int)} (h : Gs a b qp qr mu ps rs m) (rs' : List (List Int)) : Gs a b qp qr mu ps rs' (sett m qr (.lst (rs'.map tI))) :=
  ⟨h.dg.sett h.nr, by rw [sett_ne h.ne]; exact h.hp, sett_same, h.np, h.nr, h.ne⟩
/-- what is shared with a ring: nothing, a place, two neighbours -/
structure ShOk (ps : List (Int × Int)) (many : Int) (sh : List Int) : Prop where
  ran : ∀ x ∈ sh, 0 ≤ x ∧ x < many
  nd : sh.Nodup
  two : sh.length ≤ 2
  ed : ∀ x y, sh[0]? = some x → sh[1]? = some y → EdP ps x y
theorem ShOk.nil {ps : List (Int × Int)} {many : Int} : ShOk ps many [] := ⟨fun _ h => (List.not_mem_nil h).elim, List.nodup_nil, by simp, fun _ _ h => by cases h⟩
theorem ShOk.one {ps : List (Int × Int)} {many : Int} {old : List Int} {x : Int} (h : RgP ps many old) (hx : x ∈ old) : ShOk ps many [x] := by
  refine ⟨fun y hy => ?_, by simp, by simp, fun _ _ _ h => by cases h⟩
  rw [List.mem_singleton] at hy
  subst hy
  exact h.ran y hx
theorem ShOk.pair {ps : List (Int × Int)} {many : Int} {old : List Int} {k : Nat} {x y : Int} (h : RgP ps many old) (hk : k < old.length) (hx : old[prevI old.length k]? = some x) (hy : old[k]? = some y) : ShOk ps many [x, y] := by
  have hne : x ≠ y := fun z => by
    subst z
    have := nodup_get h.nd hx hy
    have h4 := h.four
    unfold prevI at this
    split at this <;> omega
  refine ⟨fun z hz => ?_, by simpa using hne, by simp, fun u v hu hv => ?_⟩
  · simp only [List.mem_cons, List.not_mem_nil, or_false] at hz
    rcases hz with rfl | rfl
    · exact h.ran _ (List.mem_of_getElem? hx)
    · exact h.ran _ (List.mem_of_getElem? hy)
  · cases hu; cases hv
    have h4 := h.four
    by_cases h0 : k = 0
    · subst h0
      have e : prevI old.length 0 = old.length - 1 := by unfold prevI; rw [if_pos rfl]
      rw [e] at hx
      refine (EdP.swap ((h.next 0 (old.length - 1) _ _ (by omega) hy hx).mpr (.inr ⟨rfl, by omega⟩)))
    · have e : prevI old.length k = k - 1 := by unfold prevI; rw [if_neg h0]
      rw [e] at hx
      exact (h.next (k - 1) k _ _ (by omega) hx hy).mpr (.inl (by omega))
def intsWt : W → List Int
  | .tup ws => ws.map intV
  | _ => []
theorem intsWt_tI (l : List Int) : intsWt (tI l) = l := by
  show (l.map W.int).map intV = l
  rw [List.map_map]
  conv => rhs; rw [← List.map_id l]
  exact List.map_congr_left fun _ _ => rfl
def sp_law_glued : SpW := fun ws mu Q => ∃ (a b : Addr) (most : Nat), ws = [.ref a, .int most] ∧ 12 ≤ most ∧ most ≤ 24 ∧ Dk a b mu ∧ ∀ (n : Nat) cs (rs : List (List Int)), 0 < n → n ≤ 24 → Web n cs → cs.length ≤ 1000 → rs.length ≤ 5 → (∀ r ∈ rs, 4 ≤ r.length ∧ r.length ≤ 9 ∧ ∀ x ∈ r, 0 ≤ x ∧ x < (n : Int)) → ShownP n cs (true, rs.map fun r => (true, r)) → ∀ mu', Dr a b mu mu' → Q (.tup [webW n cs, .lst (rs.map tI)]) mu'
end FF

/-! Rings glued together: the walk. -/
namespace FF
open PySem PySem.Spec PyProof.Rows L2
theorem iter_own {a : Addr} {ws : List W} {mu : Mu} {Q : List W → Src → Mu → Prop} (e : mu a = some (.lst ws)) (h : Q ws (.own a ws) mu) : iterR (.ref a) mu Q := by
  have e2 : srcOf mu (.ref a) = .own a ws := by unfold srcOf; simp only [e]
  unfold iterR
  rw [vw_lst e]
  dsimp only
  rw [e2]; exact h
theorem iter_lst {ws : List W} {mu : Mu} {Q : List W → Src → Mu → Prop} (h : Q ws .free mu) : iterR (.lst ws) mu Q := h
theorem iter_tup {ws : List W} {mu : Mu} {Q : List W → Src → Mu → Prop} (h : Q ws .free mu) : iterR (.tup ws) mu Q := h
/-- the turned web and the rings -/
theorem glued_end {F : Fe} (h5 : F.fn "_law_web_of" = sp_law_web_of) {a b qp qr : Addr} {mu m : Mu} {Q : QW} {ps : List (Int × Int)} {rs : List (List Int)} {n : Nat} {l : List Int} (hG : Gs a b qp qr mu ps rs m) (hg : Gl ps rs n) (hT : Tur l n) (hn0 : 0 < n) (hn : n ≤ 24) (hp : ps.length ≤ 100) (hr : rs.length ≤ 5)
    (hq : ∀ (n : Nat) cs (rs : List (List Int)), 0 < n → n ≤ 24 → Web n cs → cs.length ≤ 1000 → rs.length ≤ 5 → (∀ r ∈ rs, 4 ≤ r.length ∧ r.length ≤ 9 ∧ ∀ x ∈ r, 0 ≤ x ∧ x < (n : Int)) → ShownP n cs (true, rs.map fun r => (true, r)) → ∀ mu', Dr a b mu mu' → Q (.tup [webW n cs, .lst (rs.map tI)]) mu')
    {y0 y1 y5 y6 y7 y8 y9 y10 y11 y12 y14 : Option W} : (b_law_glued_4).wp F (endR Q) [y0, y1, some (.ref qp), some (.ref qr), some (.int n), y5, y6, y7, y8, y9, y10, y11, y12, some (.lst (l.map W.int)), y14] m := by
  simp only [SL.wp, S.wp, E.wp, C.wp, EL.wp, CO.wp, EO.wp, T.wp, TL.wp, I.wp, getS0, getSs, Cn.w, List.set_cons_zero, List.set_cons_succ, wipeW, Bool.false_eq_true, if_false, if_true, tl2, lt_ii, le_ii, gt_ii, ge_ii, eq_ii, eq_ss, int_i, ne_ii, ne_bb, eq_bb, add_ii, sub_ii, mod_ii, add_tt, add_ll, optQ_s, decide_eq_true_eq, Bool.not_eq_true', decide_eq_false_iff_not, Bool.not_true, Bool.not_false, Bool.true_eq_false, not_true_eq_false, not_false_eq_true, b_law_glued_4, h5]
  refine iter_own hG.hp ?_
  intro p2 hp2
  have hs : stays (.own qp (ps.map pairW)) m := hG.hp
  refine comp_m hp2 (fun w => pairW (sg2 l (prW w))) (by rw [List.length_map]; exact le_sz (by omega)) _ hs ?_ ?_
  · intro w m' G hw _ k
    obtain ⟨c, hc, rfl⟩ := List.mem_map.mp hw
    obtain ⟨c1, c2⟩ := c
    obtain ⟨b1, b2, b3, b4, _⟩ := hg.pr _ hc
    refine ⟨rfl, ?_⟩
    simp only [SL.wp, S.wp, E.wp, C.wp, EL.wp, CO.wp, EO.wp, T.wp, TL.wp, I.wp, getS0, getSs, Cn.w, List.set_cons_zero, List.set_cons_succ, wipeW, Bool.false_eq_true, if_false, if_true, tl2, lt_ii, le_ii, gt_ii, ge_ii, eq_ii, eq_ss, int_i, ne_ii, ne_bb, eq_bb, add_ii, sub_ii, mod_ii, add_tt, add_ll, optQ_s, decide_eq_true_eq, Bool.not_eq_true', decide_eq_false_iff_not, Bool.not_true, Bool.not_false, Bool.true_eq_false, not_true_eq_false, not_false_eq_true]
    refine idx_lst (hT.at b1 b2) (idx_lst (hT.at b3 b4) ⟨le_sz (Nat.le_of_ble_eq_true rfl), ?_⟩)
    exact k
  · rw [dell_sett hp2, List.map_map]
    refine ⟨n, ps.map (sg2 l), by rw [List.map_map]; rfl, by rw [List.length_map]; omega, fun cs hcs hcl => ?_⟩
    have hW := web_mk (by omega) (hT.prs hg.pr) (by rw [List.length_map]; omega) hcs hcl
    have hS := hg.turn hT hcs
    rw [List.length_map] at hcl
    refine iter_own hG.hr ?_
    intro p3 hp3
    have hs3 : stays (.own qr (rs.map tI)) m := hG.hr
    refine comp_m hp3 (fun w => tI ((intsWt w).map (sg l))) (by rw [List.length_map]; exact le_sz (by omega)) _ hs3 ?_ ?_
    · intro w m' G hw _ k
      obtain ⟨r, rfl, hrm⟩ := take_tI hw
      have hR := hg.rg r hrm
      rw [intsWt_tI] at k
      simp only [SL.wp, S.wp, E.wp, C.wp, EL.wp, CO.wp, EO.wp, T.wp, TL.wp, I.wp, getS0, getSs, Cn.w, List.set_cons_zero, List.set_cons_succ, wipeW, Bool.false_eq_true, if_false, if_true, tl2, lt_ii, le_ii, gt_ii, ge_ii, eq_ii, eq_ss, int_i, ne_ii, ne_bb, eq_bb, add_ii, sub_ii, mod_ii, add_tt, add_ll, optQ_s, decide_eq_true_eq, Bool.not_eq_true', decide_eq_false_iff_not, Bool.not_true, Bool.not_false, Bool.true_eq_false, not_true_eq_false, not_false_eq_true]
      refine iter_tup ?_
      intro p4 hp4
      refine comp_m hp4 (fun w => .int (sg l (intV w))) (by rw [List.length_map]; exact le_sz (by have := hR.nine; omega)) .free True.intro ?_ ?_
      · intro w m' G hw _ k
        obtain ⟨x, rfl, hx⟩ := take_ints hw
        have := hR.ran x hx
        simp only [SL.wp, S.wp, E.wp, C.wp, EL.wp, CO.wp, EO.wp, T.wp, TL.wp, I.wp, getS0, getSs, Cn.w, List.set_cons_zero, List.set_cons_succ, wipeW, Bool.false_eq_true, if_false, if_true, tl2, lt_ii, le_ii, gt_ii, ge_ii, eq_ii, eq_ss, int_i, ne_ii, ne_bb, eq_bb, add_ii, sub_ii, mod_ii, add_tt, add_ll, optQ_s, decide_eq_true_eq, Bool.not_eq_true', decide_eq_false_iff_not, Bool.not_true, Bool.not_false, Bool.true_eq_false, not_true_eq_false, not_false_eq_true]
        exact idx_lst (hT.at this.1 this.2) k
      · rw [dell_sett hp4, List.map_map]
        have e : r.map ((fun w => W.int (sg l (intV w))) ∘ W.int) = (r.map (sg l)).map W.int := by rw [List.map_map]; rfl
        rw [e]
        exact k
    · rw [dell_sett hp3, List.map_map]
      have e : rs.map ((fun w => tI ((intsWt w).map (sg l))) ∘ tI) = (rs.map fun r => r.map (sg l)).map tI := by
        rw [List.map_map]
        refine List.map_congr_left fun r _ => ?_
        show tI ((intsWt (tI r)).map (sg l)) = _
        rw [intsWt_tI]; rfl
      rw [e]
      refine ⟨le_sz (Nat.le_of_ble_eq_true rfl), ?_⟩
      refine ret_dg hG.dg (hq n cs _ hn0 hn hW (by omega) (by rw [List.length_map]; exact hr) (fun r hr => ?_) ?_)
      · obtain ⟨r', hr', rfl⟩ := List.mem_map.mp hr
        have hR := hg.rg r' hr'
        refine ⟨by rw [List.length_map]; exact hR.four, by rw [List.length_map]; exact hR.nine, fun x hx => ?_⟩
        obtain ⟨y, hy, rfl⟩ := List.mem_map.mp hx
        have := hR.ran y hy
        exact hT.rng this.1 this.2
      · rw [List.map_map]; exact hS
theorem rgPairs_W (r : List Int) : (rgPairs r).map pairW = (rngW 0 r.length).map fun w => pairW ((r[prevI r.length (intV w).toNat]?).getD 0, (r[(intV w).toNat]?).getD 0) := by
  unfold rgPairs rngW
  rw [List.map_map, List.map_map]
  refine List.map_congr_left fun k _ => ?_
  show pairW _ = pairW _
  simp only [intV, Int.zero_add, Int.toNat_natCast]
theorem ok_law_glued (F : Fe) (h1 : F.fn "_law_draw" = sp_law_draw) (h2 : F.fn "_law_pick" = sp_law_pick) (h3 : F.fn "_law_turned" = sp_law_turned) (h5 : F.fn "_law_web_of" = sp_law_web_of) : ∀ ws mu Q, sp_law_glued ws mu Q → ws.length = 2 ∧ (b_law_glued).wp F (endR Q) (startW n_law_glued ws) mu := by
  rintro ws mu Q ⟨a, b, most, rfl, hm12, hm24, hk, hq⟩
  refine ⟨rfl, ?_⟩
  show (b_law_glued).wp F (endR Q) [some (.ref a), some (.int most), none, none, none, none, none, none, none, none, none, none, none, none, none] mu
  simp only [SL.wp, S.wp, E.wp, C.wp, EL.wp, CO.wp, EO.wp, T.wp, TL.wp, I.wp, getS0, getSs, Cn.w, List.set_cons_zero, List.set_cons_succ, wipeW, Bool.false_eq_true, if_false, if_true, tl2, lt_ii, le_ii, gt_ii, ge_ii, eq_ii, eq_ss, int_i, ne_ii, ne_bb, eq_bb, add_ii, sub_ii, mod_ii, add_tt, add_ll, optQ_s, decide_eq_true_eq, Bool.not_eq_true', decide_eq_false_iff_not, Bool.not_true, Bool.not_false, Bool.true_eq_false, not_true_eq_false, not_false_eq_true, b_law_glued]
  refine newL_t (Nat.zero_le _) fun qp hqp => newL_t (Nat.zero_le _) fun qr hqr => ?_
  have hne : qp ≠ qr := fun z => by rw [← z, sett_same] at hqr; cases hqr
  have hqr0 : mu qr = none := by rw [sett_ne (Ne.symm hne)] at hqr; exact hqr
  have hG0 : Gs a b qp qr mu [] [] (sett (sett mu qp (.lst [])) qr (.lst [])) := ⟨((Dg.refl hk).sett hqp).sett hqr0, by rw [sett_ne hne]; exact sett_same, sett_same, hqp, hqr0, hne⟩
  refine ⟨le_sz (Nat.le_of_ble_eq_true rfl), rfl, ?_⟩
  generalize sett (sett mu qp (.lst [])) qr (.lst []) = m0 at hG0
  simp only [SL.wp, S.wp, E.wp, C.wp, EL.wp, CO.wp, EO.wp, T.wp, TL.wp, I.wp, getS0, getSs, Cn.w, List.set_cons_zero, List.set_cons_succ, wipeW, Bool.false_eq_true, if_false, if_true, tl2, lt_ii, le_ii, gt_ii, ge_ii, eq_ii, eq_ss, int_i, ne_ii, ne_bb, eq_bb, add_ii, sub_ii, mod_ii, add_tt, add_ll, optQ_s, decide_eq_true_eq, Bool.not_eq_true', decide_eq_false_iff_not, Bool.not_true, Bool.not_false, Bool.true_eq_false, not_true_eq_false, not_false_eq_true, b_law_glued_1, h1]
  refine ⟨a, b, 5, rfl, by omega, by omega, hG0.dg.k1, fun r5 m1 r50 r51 d1 => ?_⟩
  have hG1 := hG0.draw d1
  refine ⟨_, rfl, by omega, ?_⟩
  have aft : ∀ (ps : List (Int × Int)) (rs : List (List Int)) (many : Nat) m y5 y6 y7 y8 y9 y10 y11 y12 y13 y14, Gs a b qp qr mu ps rs m → Gl ps rs many → many ≤ most → ps.length ≤ 45 → rs.length ≤ 5 → rs ≠ [] → (b_law_glued_2).wp F (endR Q) [some (.ref a), some (.int most), some (.ref qp), some (.ref qr), some (.int many), y5, y6, y7, y8, y9, y10, y11, y12, y13, y14] m := by
    intro ps rs many m y5 y6 y7 y8 y9 y10 y11 y12 y13 y14 hG hg hmm hps hrs hr0
    simp only [SL.wp, S.wp, E.wp, C.wp, EL.wp, CO.wp, EO.wp, T.wp, TL.wp, I.wp, getS0, getSs, Cn.w, List.set_cons_zero, List.set_cons_succ, wipeW, Bool.false_eq_true, if_false, if_true, tl2, lt_ii, le_ii, gt_ii, ge_ii, eq_ii, eq_ss, int_i, ne_ii, ne_bb, eq_bb, add_ii, sub_ii, mod_ii, add_tt, add_ll, optQ_s, decide_eq_true_eq, Bool.not_eq_true', decide_eq_false_iff_not, Bool.not_true, Bool.not_false, Bool.true_eq_false, not_true_eq_false, not_false_eq_true, b_law_glued_2, h1]
    refine ⟨a, b, 3, rfl, by omega, by omega, hG.dg.k1, fun u m2 u0 u1 d2 => ?_⟩
    simp only [SL.wp, S.wp, E.wp, C.wp, EL.wp, CO.wp, EO.wp, T.wp, TL.wp, I.wp, getS0, getSs, Cn.w, List.set_cons_zero, List.set_cons_succ, wipeW, Bool.false_eq_true, if_false, if_true, tl2, lt_ii, le_ii, gt_ii, ge_ii, eq_ii, eq_ss, int_i, ne_ii, ne_bb, eq_bb, add_ii, sub_ii, mod_ii, add_tt, add_ll, optQ_s, decide_eq_true_eq, Bool.not_eq_true', decide_eq_false_iff_not, Bool.not_true, Bool.not_false, Bool.true_eq_false, not_true_eq_false, not_false_eq_true, min_ii]
    obtain ⟨c, hc, hc1, hc2⟩ : ∃ c : Nat, (if u < (most : Int) - many then u else (most : Int) - many) = (c : Int) ∧ many + c ≤ most ∧ c ≤ 2 := by
      split
      · exact ⟨u.toNat, by omega, by omega, by omega⟩
      · exact ⟨((most : Int) - many).toNat, by omega, by omega, by omega⟩
    refine ⟨c, by rw [hc], by omega, ?_⟩
    rw [Int.toNat_natCast]
    refine forW_inv (fun i t m => (∃ y5 y6 y7 y8 y9 y10 y11 y12 y13 y14, t = [some (.ref a), some (.int most), some (.ref qp), some (.ref qr), some (.int ((many + i : Nat) : Int)), y5, y6, y7, y8, y9, y10, y11, y12, y13, y14]) ∧ ∃ ps, Gs a b qp qr mu ps rs m ∧ Gl ps rs ((many + i : Nat) : Int) ∧ ps.length ≤ 45 + 2 * i) ⟨⟨_, _, _, _, _, _, _, _, _, _, rfl⟩, ps, hG.draw d2, hg, hps⟩ (fun _ _ _ _ _ => True.intro) ?_ ?_
    · clear hps hg hG
      rintro i w t m R hw ⟨⟨y5, y6, y7, y8, y9, y10, y11, y12, y13, y14, rfl⟩, ps, hG, hg, hps⟩ kk
      obtain ⟨rfl, hi⟩ := rngW_get hw
      simp only [SL.wp, S.wp, E.wp, C.wp, EL.wp, CO.wp, EO.wp, T.wp, TL.wp, I.wp, getS0, getSs, Cn.w, List.set_cons_zero, List.set_cons_succ, wipeW, Bool.false_eq_true, if_false, if_true, tl2, lt_ii, le_ii, gt_ii, ge_ii, eq_ii, eq_ss, int_i, ne_ii, ne_bb, eq_bb, add_ii, sub_ii, mod_ii, add_tt, add_ll, optQ_s, decide_eq_true_eq, Bool.not_eq_true', decide_eq_false_iff_not, Bool.not_true, Bool.not_false, Bool.true_eq_false, not_true_eq_false, not_false_eq_true, b_law_glued_2b0, h1, h2]
      refine ⟨a, b, 4, rfl, by omega, by omega, hG.dg.k1, fun at' m3 t0 t1 d3 => ?_⟩
      have hG3 := hG.draw d3
      refine ⟨a, b, .ref qr, rs.map tI, rfl, d3.dk, by rw [List.length_map]; exact List.length_pos_iff.mpr hr0, by rw [List.length_map]; omega, fun mu' d => vw_lst (hG3.draw d).hr, fun w hw m4 d4 => ?_⟩
      obtain ⟨ring, rfl, hring⟩ := take_tI hw
      have hG4 := hG3.draw d4
      have hR := hg.rg ring hring
      refine ⟨le_sz (Nat.le_of_ble_eq_true rfl), rfl, ?_⟩
      simp only [SL.wp, S.wp, E.wp, C.wp, EL.wp, CO.wp, EO.wp, T.wp, TL.wp, I.wp, getS0, getSs, Cn.w, List.set_cons_zero, List.set_cons_succ, wipeW, Bool.false_eq_true, if_false, if_true, tl2, lt_ii, le_ii, gt_ii, ge_ii, eq_ii, eq_ss, int_i, ne_ii, ne_bb, eq_bb, add_ii, sub_ii, mod_ii, add_tt, add_ll, optQ_s, decide_eq_true_eq, Bool.not_eq_true', decide_eq_false_iff_not, Bool.not_true, Bool.not_false, Bool.true_eq_false, not_true_eq_false, not_false_eq_true, b_law_glued_2b1, h1]
      refine ⟨by rw [vw_lst hG4.hp]; rfl, ?_⟩
      refine ⟨a, b, 2, rfl, by omega, by omega, hG4.dg.k1, fun v m5 v0 v1 d5 => ?_⟩
      have hG5 := hG4.draw d5
      obtain ⟨v', hv⟩ : ∃ v' : Nat, 1 + v = (v' : Int) := ⟨(1 + v).toNat, by omega⟩
      simp only [SL.wp, S.wp, E.wp, C.wp, EL.wp, CO.wp, EO.wp, T.wp, TL.wp, I.wp, getS0, getSs, Cn.w, List.set_cons_zero, List.set_cons_succ, wipeW, Bool.false_eq_true, if_false, if_true, tl2, lt_ii, le_ii, gt_ii, ge_ii, eq_ii, eq_ss, int_i, ne_ii, ne_bb, eq_bb, add_ii, sub_ii, mod_ii, add_tt, add_ll, optQ_s, decide_eq_true_eq, Bool.not_eq_true', decide_eq_false_iff_not, Bool.not_true, Bool.not_false, Bool.true_eq_false, not_true_eq_false, not_false_eq_true, hv]
      refine ⟨v', rfl, by omega, ?_⟩
      rw [Int.toNat_natCast]
      intro p hp
      have hpq : qp ≠ p := fun z => by rw [← z, hG5.hp] at hp; cases hp
      refine comp_m hp (fun w => pairW (((many + i : Nat) : Int), (atI ring (at' - intV w)).getD 0)) (by rw [rngW_len]; exact le_sz (by omega)) .free True.intro ?_ ?_
      · intro w m' G hw _ k
        obtain ⟨j, hj⟩ := List.mem_iff_getElem?.mp hw
        obtain ⟨rfl, hj2⟩ := rngW_get hj
        obtain ⟨x, hx, ex⟩ := atI_four hR.four (i := at' - (0 + (j : Int))) (by omega) (by omega)
        simp only [SL.wp, S.wp, E.wp, C.wp, EL.wp, CO.wp, EO.wp, T.wp, TL.wp, I.wp, getS0, getSs, Cn.w, List.set_cons_zero, List.set_cons_succ, wipeW, Bool.false_eq_true, if_false, if_true, tl2, lt_ii, le_ii, gt_ii, ge_ii, eq_ii, eq_ss, int_i, ne_ii, ne_bb, eq_bb, add_ii, sub_ii, mod_ii, add_tt, add_ll, optQ_s, decide_eq_true_eq, Bool.not_eq_true', decide_eq_false_iff_not, Bool.not_true, Bool.not_false, Bool.true_eq_false, not_true_eq_false, not_false_eq_true]
        refine idx_tup (atI_ints ex) ⟨le_sz (Nat.le_of_ble_eq_true rfl), ?_⟩
        simp only [intV] at k
        rw [ex] at k
        exact k
      · rw [dell_sett hp]
        have e : ∃ xs : List Int, (rngW 0 v').map (fun w => pairW (((many + i : Nat) : Int), (atI ring (at' - intV w)).getD 0)) = (xs.map fun x => (((many + i : Nat) : Int), x)).map pairW ∧ xs.length = v' ∧ ∀ x ∈ xs, 0 ≤ x ∧ x < ((many + i : Nat) : Int) := by
          refine ⟨(rngW 0 v').map fun w => (atI ring (at' - intV w)).getD 0, by rw [List.map_map, List.map_map]; rfl, by rw [List.length_map, rngW_len], fun x hx => ?_⟩
          obtain ⟨w, hw, rfl⟩ := List.mem_map.mp hx
          obtain ⟨j, hj⟩ := List.mem_iff_getElem?.mp hw
          obtain ⟨rfl, hj2⟩ := rngW_get hj
          obtain ⟨x, hx, ex⟩ := atI_four hR.four (i := at' - (0 + (j : Int))) (by omega) (by omega)
          simp only [intV]
          rw [ex]
          exact hR.ran x hx
        obtain ⟨xs, e, hxl, hxs⟩ := e
        rw [e]
        refine ⟨_, _, hG5.hp, rfl, by rw [List.length_map, List.length_map, List.length_map]; exact le_sz (by omega), ?_⟩
        rw [← List.map_append]
        simp only [SL.wp, S.wp, E.wp, C.wp, EL.wp, CO.wp, EO.wp, T.wp, TL.wp, I.wp, getS0, getSs, Cn.w, List.set_cons_zero, List.set_cons_succ, wipeW, Bool.false_eq_true, if_false, if_true, tl2, lt_ii, le_ii, gt_ii, ge_ii, eq_ii, eq_ss, int_i, ne_ii, ne_bb, eq_bb, add_ii, sub_ii, mod_ii, add_tt, add_ll, optQ_s, decide_eq_true_eq, Bool.not_eq_true', decide_eq_false_iff_not, Bool.not_true, Bool.not_false, Bool.true_eq_false, not_true_eq_false, not_false_eq_true, b_law_glued_2b2]
        have e2 : (((many + i : Nat) : Int) + 1) = ((many + (i + 1) : Nat) : Int) := by omega
        rw [e2]
        refine kk _ _ ⟨⟨_, _, _, _, _, _, _, _, _, _, rfl⟩, _, hG5.putP _, ?_, by rw [List.length_append, List.length_map]; omega⟩
        rw [← e2]
        exact hg.beside (by omega) hxs
    · clear hps hg hG
      rintro t m ⟨⟨y5, y6, y7, y8, y9, y10, y11, y12, y13, y14, rfl⟩, ps, hG, hg, hps⟩
      rw [rngW_len] at hg hps ⊢
      have hmp : 0 < many + c := by
        cases rs with
        | nil => exact absurd rfl hr0
        | cons r rs =>
          have hr := hg.rg r List.mem_cons_self
          have h4 := hr.four
          have := hr.ran _ (List.getElem_mem (by omega : 0 < r.length))
          omega
      simp only [SL.wp, S.wp, E.wp, C.wp, EL.wp, CO.wp, EO.wp, T.wp, TL.wp, I.wp, getS0, getSs, Cn.w, List.set_cons_zero, List.set_cons_succ, wipeW, Bool.false_eq_true, if_false, if_true, tl2, lt_ii, le_ii, gt_ii, ge_ii, eq_ii, eq_ss, int_i, ne_ii, ne_bb, eq_bb, add_ii, sub_ii, mod_ii, add_tt, add_ll, optQ_s, decide_eq_true_eq, Bool.not_eq_true', decide_eq_false_iff_not, Bool.not_true, Bool.not_false, Bool.true_eq_false, not_true_eq_false, not_false_eq_true, b_law_glued_3, h3]
      refine ⟨((many + c : Nat) : Int), rfl, by omega, newL_f (by rw [rngW_len]; exact le_sz (by omega)) ?_⟩
      rw [Int.toNat_natCast]
      refine ⟨a, b, _, rngW 0 (many + c), rfl, hG.dg.k1, by rw [rngW_len]; omega, rfl, fun zs hz mu3 d3 => ?_⟩
      obtain ⟨l, rfl, hT⟩ := tur_of hz
      exact glued_end h5 (hG.draw d3) hg hT hmp (by omega) (by omega) hrs hq
  refine forW_inv (fun i t m => (∃ (many : Nat) (y5 y6 y7 y8 y9 y10 y11 y12 y13 y14 : Option W), t = [some (.ref a), some (.int most), some (.ref qp), some (.ref qr), some (.int many), y5, y6, y7, y8, y9, y10, y11, y12, y13, y14] ∧ ∃ ps rs, Gs a b qp qr mu ps rs m ∧ Gl ps rs many ∧ many ≤ most ∧ ps.length ≤ 9 * i ∧ rs.length ≤ i ∧ ((i = 0 ∧ rs = [] ∧ many = 0) ∨ rs ≠ []))) ⟨0, _, _, _, _, _, _, _, _, _, _, rfl, [], [], hG1, Gl.nil, by omega, by simp, by simp, .inl ⟨rfl, rfl, rfl⟩⟩ (fun _ _ _ _ _ => True.intro) ?_ ?_
  · rintro i w t m R hw ⟨many, y5, y6, y7, y8, y9, y10, y11, y12, y13, y14, rfl, ps, rs, hG, hg, hmm, hps, hrs, hrs0⟩ kk
    obtain ⟨rfl, hi⟩ := rngW_get hw
    have hi5 : i < 5 := by omega
    have rest : ∀ (long : Nat) (sh : List Int) (y7 y8 y9 : Option W) (y5 : W) m, Gs a b qp qr mu ps rs m → ShOk ps many sh → 4 ≤ long → long ≤ 9 → (rs = [] → sh = []) → (b_law_glued_1b4).wp F { nx := R, ct := R, bk := fun t1 mu1 => (b_law_glued_2).wp F (endR Q) t1 mu1, rt := (endR Q).rt } [some (.ref a), some (.int most), some (.ref qp), some (.ref qr), some (.int many), some y5, some (.int long), y7, y8, y9, some (tI sh), y11, y12, y13, y14] m := by
      intro long sh y7 y8 y9 y5 m hG hsh hl4 hl9 hs0
      have hs2 := hsh.two
      simp only [SL.wp, S.wp, E.wp, C.wp, EL.wp, CO.wp, EO.wp, T.wp, TL.wp, I.wp, getS0, getSs, Cn.w, List.set_cons_zero, List.set_cons_succ, wipeW, Bool.false_eq_true, if_false, if_true, tl2, lt_ii, le_ii, gt_ii, ge_ii, eq_ii, eq_ss, int_i, ne_ii, ne_bb, eq_bb, add_ii, sub_ii, mod_ii, add_tt, add_ll, optQ_s, decide_eq_true_eq, Bool.not_eq_true', decide_eq_false_iff_not, Bool.not_true, Bool.not_false, Bool.true_eq_false, not_true_eq_false, not_false_eq_true, b_law_glued_1b4]
      refine len_tI ?_
      simp only [SL.wp, S.wp, E.wp, C.wp, EL.wp, CO.wp, EO.wp, T.wp, TL.wp, I.wp, getS0, getSs, Cn.w, List.set_cons_zero, List.set_cons_succ, wipeW, Bool.false_eq_true, if_false, if_true, tl2, lt_ii, le_ii, gt_ii, ge_ii, eq_ii, eq_ss, int_i, ne_ii, ne_bb, eq_bb, add_ii, sub_ii, mod_ii, add_tt, add_ll, optQ_s, decide_eq_true_eq, Bool.not_eq_true', decide_eq_false_iff_not, Bool.not_true, Bool.not_false, Bool.true_eq_false, not_true_eq_false, not_false_eq_true]
      split
      · rename_i hbig
        simp only [SL.wp, S.wp, E.wp, C.wp, EL.wp, CO.wp, EO.wp, T.wp, TL.wp, I.wp, getS0, getSs, Cn.w, List.set_cons_zero, List.set_cons_succ, wipeW, Bool.false_eq_true, if_false, if_true, tl2, lt_ii, le_ii, gt_ii, ge_ii, eq_ii, eq_ss, int_i, ne_ii, ne_bb, eq_bb, add_ii, sub_ii, mod_ii, add_tt, add_ll, optQ_s, decide_eq_true_eq, Bool.not_eq_true', decide_eq_false_iff_not, Bool.not_true, Bool.not_false, Bool.true_eq_false, not_true_eq_false, not_false_eq_true, b_law_glued_1b4t0]
        refine aft ps rs many m _ _ _ _ _ _ _ _ _ _ hG hg hmm (by omega) (by omega) ?_
        rcases hrs0 with ⟨rfl, z, rfl⟩ | z
        · rw [hs0 z, List.length_nil] at hbig
          omega
        · exact z
      · rename_i hsm
        simp only [SL.wp, S.wp, E.wp, C.wp, EL.wp, CO.wp, EO.wp, T.wp, TL.wp, I.wp, getS0, getSs, Cn.w, List.set_cons_zero, List.set_cons_succ, wipeW, Bool.false_eq_true, if_false, if_true, tl2, lt_ii, le_ii, gt_ii, ge_ii, eq_ii, eq_ss, int_i, ne_ii, ne_bb, eq_bb, add_ii, sub_ii, mod_ii, add_tt, add_ll, optQ_s, decide_eq_true_eq, Bool.not_eq_true', decide_eq_false_iff_not, Bool.not_true, Bool.not_false, Bool.true_eq_false, not_true_eq_false, not_false_eq_true, b_law_glued_1b5]
        refine len_tI ?_
        simp only [SL.wp, S.wp, E.wp, C.wp, EL.wp, CO.wp, EO.wp, T.wp, TL.wp, I.wp, getS0, getSs, Cn.w, List.set_cons_zero, List.set_cons_succ, wipeW, Bool.false_eq_true, if_false, if_true, tl2, lt_ii, le_ii, gt_ii, ge_ii, eq_ii, eq_ss, int_i, ne_ii, ne_bb, eq_bb, add_ii, sub_ii, mod_ii, add_tt, add_ll, optQ_s, decide_eq_true_eq, Bool.not_eq_true', decide_eq_false_iff_not, Bool.not_true, Bool.not_false, Bool.true_eq_false, not_true_eq_false, not_false_eq_true]
        obtain ⟨c, hc⟩ : ∃ c : Nat, (many : Int) + long - sh.length = ((many + c : Nat) : Int) := ⟨long - sh.length, by omega⟩
        rw [hc]
        refine ⟨many, ((many + c : Nat) : Int), rfl, rfl, by omega, ?_⟩
        have ec : (((many + c : Nat) : Int) - many).toNat = c := by omega
        rw [ec]
        rw [rngW_ints]
        obtain ⟨nw, hnw⟩ : ∃ nw, nw = (List.range c).map fun (k : Nat) => (many : Int) + k := ⟨_, rfl⟩
        rw [← hnw]
        have nwl : nw.length = c := by rw [hnw, List.length_map, List.length_range]
        have nwr : ∀ x ∈ nw, (many : Int) ≤ x ∧ x < ((many + c : Nat) : Int) := fun x hx => by
          rw [hnw] at hx
          obtain ⟨k, hk, rfl⟩ := List.mem_map.mp hx
          have := List.mem_range.mp hk
          omega
        have nwn : nw.Nodup := by
          rw [hnw]
          refine List.pairwise_map.mpr (List.nodup_range.imp fun {u v} huv z => huv ?_)
          omega
        clear hnw
        show binR .Add (.tup (sh.map W.int)) (.tup (nw.map W.int)) _ _
        simp only [SL.wp, S.wp, E.wp, C.wp, EL.wp, CO.wp, EO.wp, T.wp, TL.wp, I.wp, getS0, getSs, Cn.w, List.set_cons_zero, List.set_cons_succ, wipeW, Bool.false_eq_true, if_false, if_true, tl2, lt_ii, le_ii, gt_ii, ge_ii, eq_ii, eq_ss, int_i, ne_ii, ne_bb, eq_bb, add_ii, sub_ii, mod_ii, add_tt, add_ll, optQ_s, decide_eq_true_eq, Bool.not_eq_true', decide_eq_false_iff_not, Bool.not_true, Bool.not_false, Bool.true_eq_false, not_true_eq_false, not_false_eq_true]
        refine ⟨by rw [List.length_map, List.length_map]; exact le_sz (by omega), ?_⟩
        rw [← List.map_append]
        have hlen : (sh ++ nw).length = long := by rw [List.length_append]; omega
        have hg' := hg.glue (by omega) (by omega) hsh.ran nwr hsh.nd nwn hs2 hsh.ed (by omega) (by omega)
        have h4 : 4 ≤ (sh ++ nw).length := by omega
        generalize sh ++ nw = ring at hlen hg' h4
        simp only [SL.wp, S.wp, E.wp, C.wp, EL.wp, CO.wp, EO.wp, T.wp, TL.wp, I.wp, getS0, getSs, Cn.w, List.set_cons_zero, List.set_cons_succ, wipeW, Bool.false_eq_true, if_false, if_true, tl2, lt_ii, le_ii, gt_ii, ge_ii, eq_ii, eq_ss, int_i, ne_ii, ne_bb, eq_bb, add_ii, sub_ii, mod_ii, add_tt, add_ll, optQ_s, decide_eq_true_eq, Bool.not_eq_true', decide_eq_false_iff_not, Bool.not_true, Bool.not_false, Bool.true_eq_false, not_true_eq_false, not_false_eq_true, b_law_glued_1b6]
        refine len_tI ?_
        simp only [SL.wp, S.wp, E.wp, C.wp, EL.wp, CO.wp, EO.wp, T.wp, TL.wp, I.wp, getS0, getSs, Cn.w, List.set_cons_zero, List.set_cons_succ, wipeW, Bool.false_eq_true, if_false, if_true, tl2, lt_ii, le_ii, gt_ii, ge_ii, eq_ii, eq_ss, int_i, ne_ii, ne_bb, eq_bb, add_ii, sub_ii, mod_ii, add_tt, add_ll, optQ_s, decide_eq_true_eq, Bool.not_eq_true', decide_eq_false_iff_not, Bool.not_true, Bool.not_false, Bool.true_eq_false, not_true_eq_false, not_false_eq_true]
        rw [hc]
        simp only [SL.wp, S.wp, E.wp, C.wp, EL.wp, CO.wp, EO.wp, T.wp, TL.wp, I.wp, getS0, getSs, Cn.w, List.set_cons_zero, List.set_cons_succ, wipeW, Bool.false_eq_true, if_false, if_true, tl2, lt_ii, le_ii, gt_ii, ge_ii, eq_ii, eq_ss, int_i, ne_ii, ne_bb, eq_bb, add_ii, sub_ii, mod_ii, add_tt, add_ll, optQ_s, decide_eq_true_eq, Bool.not_eq_true', decide_eq_false_iff_not, Bool.not_true, Bool.not_false, Bool.true_eq_false, not_true_eq_false, not_false_eq_true, b_law_glued_1b7]
        refine ⟨by rw [vw_lst hG.hr]; rfl, rs.map tI, hG.hr, sz1000 (by rw [List.length_map]; omega), ?_⟩
        have er : rs.map tI ++ [.tup (ring.map W.int)] = (rs ++ [ring]).map tI := by rw [List.map_append]; rfl
        rw [er]
        have hG2 := hG.putR (rs ++ [ring])
        generalize sett m qr (.lst ((rs ++ [ring]).map tI)) = m2 at hG2
        simp only [SL.wp, S.wp, E.wp, C.wp, EL.wp, CO.wp, EO.wp, T.wp, TL.wp, I.wp, getS0, getSs, Cn.w, List.set_cons_zero, List.set_cons_succ, wipeW, Bool.false_eq_true, if_false, if_true, tl2, lt_ii, le_ii, gt_ii, ge_ii, eq_ii, eq_ss, int_i, ne_ii, ne_bb, eq_bb, add_ii, sub_ii, mod_ii, add_tt, add_ll, optQ_s, decide_eq_true_eq, Bool.not_eq_true', decide_eq_false_iff_not, Bool.not_true, Bool.not_false, Bool.true_eq_false, not_true_eq_false, not_false_eq_true, b_law_glued_1b8]
        refine ⟨by rw [vw_lst hG2.hp]; rfl, long, rfl, by omega, ?_⟩
        rw [Int.toNat_natCast]
        intro p hp
        refine comp_m hp (fun w => pairW ((ring[prevI ring.length (intV w).toNat]?).getD 0, (ring[(intV w).toNat]?).getD 0)) (by rw [rngW_len]; exact le_sz (by omega)) .free True.intro ?_ ?_
        · intro w m' G hw _ k
          obtain ⟨j, hj⟩ := List.mem_iff_getElem?.mp hw
          obtain ⟨rfl, hj2⟩ := rngW_get hj
          have hjl : j < ring.length := by omega
          have e1 := List.getElem?_eq_getElem hjl
          have e2 := List.getElem?_eq_getElem (prevI_lt hjl)
          simp only [intV, Int.zero_add, Int.toNat_natCast] at k
          rw [e1, e2] at k
          simp only [SL.wp, S.wp, E.wp, C.wp, EL.wp, CO.wp, EO.wp, T.wp, TL.wp, I.wp, getS0, getSs, Cn.w, List.set_cons_zero, List.set_cons_succ, wipeW, Bool.false_eq_true, if_false, if_true, tl2, lt_ii, le_ii, gt_ii, ge_ii, eq_ii, eq_ss, int_i, ne_ii, ne_bb, eq_bb, add_ii, sub_ii, mod_ii, add_tt, add_ll, optQ_s, decide_eq_true_eq, Bool.not_eq_true', decide_eq_false_iff_not, Bool.not_true, Bool.not_false, Bool.true_eq_false, not_true_eq_false, not_false_eq_true, Int.zero_add]
          refine idx_tup (atI_ints (atI_prev hjl e2)) (idx_tup (atI_ints (atI_nat e1)) ⟨le_sz (Nat.le_of_ble_eq_true rfl), ?_⟩)
          exact k
        · rw [dell_sett hp]
          rw [← hlen, ← rgPairs_W]
          have hpl : (rgPairs ring).length = long := by unfold rgPairs; rw [List.length_map, List.length_range]; exact hlen
          refine ⟨_, _, hG2.hp, rfl, by rw [List.length_map, List.length_map]; exact le_sz (by omega), ?_⟩
          rw [← List.map_append]
          refine kk _ _ ⟨many + c, _, _, _, _, _, _, _, _, _, _, rfl, _, _, hG2.putP _, hg', by omega, by rw [List.length_append]; omega, by rw [List.length_append, List.length_singleton]; omega, .inr (by simp)⟩
    simp only [SL.wp, S.wp, E.wp, C.wp, EL.wp, CO.wp, EO.wp, T.wp, TL.wp, I.wp, getS0, getSs, Cn.w, List.set_cons_zero, List.set_cons_succ, wipeW, Bool.false_eq_true, if_false, if_true, tl2, lt_ii, le_ii, gt_ii, ge_ii, eq_ii, eq_ss, int_i, ne_ii, ne_bb, eq_bb, add_ii, sub_ii, mod_ii, add_tt, add_ll, optQ_s, decide_eq_true_eq, Bool.not_eq_true', decide_eq_false_iff_not, Bool.not_true, Bool.not_false, Bool.true_eq_false, not_true_eq_false, not_false_eq_true, b_law_glued_1b0, h1, h2]
    refine newL_f (le_sz (Nat.le_of_ble_eq_true rfl)) ?_
    refine ⟨a, b, _, _, rfl, hG.dg.k1, Nat.le_of_ble_eq_true rfl, Nat.le_of_ble_eq_true rfl, fun _ _ => rfl, fun w hw m2 d2 => ?_⟩
    obtain ⟨u, rfl, hu⟩ := take_ints (l := [2, 6]) hw
    have hu : u = 2 ∨ u = 6 := by simpa using hu
    have hG2 := hG.draw d2
    refine ⟨a, b, u, rfl, by omega, by omega, d2.dk, fun r m3 g0 g1 d3 => ?_⟩
    have hG3 := hG2.draw d3
    obtain ⟨long, hlong⟩ : ∃ long : Nat, 4 + r = (long : Int) := ⟨(4 + r).toNat, by omega⟩
    simp only [SL.wp, S.wp, E.wp, C.wp, EL.wp, CO.wp, EO.wp, T.wp, TL.wp, I.wp, getS0, getSs, Cn.w, List.set_cons_zero, List.set_cons_succ, wipeW, Bool.false_eq_true, if_false, if_true, tl2, lt_ii, le_ii, gt_ii, ge_ii, eq_ii, eq_ss, int_i, ne_ii, ne_bb, eq_bb, add_ii, sub_ii, mod_ii, add_tt, add_ll, optQ_s, decide_eq_true_eq, Bool.not_eq_true', decide_eq_false_iff_not, Bool.not_true, Bool.not_false, Bool.true_eq_false, not_true_eq_false, not_false_eq_true, hlong]
    refine newL_f (Nat.zero_le _) (ne_nilT hG3.hr ?_)
    simp only [SL.wp, S.wp, E.wp, C.wp, EL.wp, CO.wp, EO.wp, T.wp, TL.wp, I.wp, getS0, getSs, Cn.w, List.set_cons_zero, List.set_cons_succ, wipeW, Bool.false_eq_true, if_false, if_true, tl2, lt_ii, le_ii, gt_ii, ge_ii, eq_ii, eq_ss, int_i, ne_ii, ne_bb, eq_bb, add_ii, sub_ii, mod_ii, add_tt, add_ll, optQ_s, decide_eq_true_eq, Bool.not_eq_true', decide_eq_false_iff_not, Bool.not_true, Bool.not_false, Bool.true_eq_false, not_true_eq_false, not_false_eq_true]
    by_cases hr0 : rs = []
    · rw [if_neg (fun z => z hr0)]
      simp only [SL.wp, S.wp, E.wp, C.wp, EL.wp, CO.wp, EO.wp, T.wp, TL.wp, I.wp, getS0, getSs, Cn.w, List.set_cons_zero, List.set_cons_succ, wipeW, Bool.false_eq_true, if_false, if_true, tl2, lt_ii, le_ii, gt_ii, ge_ii, eq_ii, eq_ss, int_i, ne_ii, ne_bb, eq_bb, add_ii, sub_ii, mod_ii, add_tt, add_ll, optQ_s, decide_eq_true_eq, Bool.not_eq_true', decide_eq_false_iff_not, Bool.not_true, Bool.not_false, Bool.true_eq_false, not_true_eq_false, not_false_eq_true, parT]
      simp only [SL.wp, S.wp, E.wp, C.wp, EL.wp, CO.wp, EO.wp, T.wp, TL.wp, I.wp, getS0, getSs, Cn.w, List.set_cons_zero, List.set_cons_succ, wipeW, Bool.false_eq_true, if_false, if_true, tl2, lt_ii, le_ii, gt_ii, ge_ii, eq_ii, eq_ss, int_i, ne_ii, ne_bb, eq_bb, add_ii, sub_ii, mod_ii, add_tt, add_ll, optQ_s, decide_eq_true_eq, Bool.not_eq_true', decide_eq_false_iff_not, Bool.not_true, Bool.not_false, Bool.true_eq_false, not_true_eq_false, not_false_eq_true, b_law_glued_1b1]
      refine newL_f (Nat.zero_le _) (ne_nilT hG3.hr ?_)
      simp only [SL.wp, S.wp, E.wp, C.wp, EL.wp, CO.wp, EO.wp, T.wp, TL.wp, I.wp, getS0, getSs, Cn.w, List.set_cons_zero, List.set_cons_succ, wipeW, Bool.false_eq_true, if_false, if_true, tl2, lt_ii, le_ii, gt_ii, ge_ii, eq_ii, eq_ss, int_i, ne_ii, ne_bb, eq_bb, add_ii, sub_ii, mod_ii, add_tt, add_ll, optQ_s, decide_eq_true_eq, Bool.not_eq_true', decide_eq_false_iff_not, Bool.not_true, Bool.not_false, Bool.true_eq_false, not_true_eq_false, not_false_eq_true]
      rw [if_neg (fun z => z hr0)]
      simp only [SL.wp, S.wp, E.wp, C.wp, EL.wp, CO.wp, EO.wp, T.wp, TL.wp, I.wp, getS0, getSs, Cn.w, List.set_cons_zero, List.set_cons_succ, wipeW, Bool.false_eq_true, if_false, if_true, tl2, lt_ii, le_ii, gt_ii, ge_ii, eq_ii, eq_ss, int_i, ne_ii, ne_bb, eq_bb, add_ii, sub_ii, mod_ii, add_tt, add_ll, optQ_s, decide_eq_true_eq, Bool.not_eq_true', decide_eq_false_iff_not, Bool.not_true, Bool.not_false, Bool.true_eq_false, not_true_eq_false, not_false_eq_true, b_law_glued_1b2]
      refine ⟨le_sz (Nat.zero_le _), le_sz (Nat.zero_le _), ?_⟩
      refine ne_nilS (l := []) ?_
      simp only [SL.wp, S.wp, E.wp, C.wp, EL.wp, CO.wp, EO.wp, T.wp, TL.wp, I.wp, getS0, getSs, Cn.w, List.set_cons_zero, List.set_cons_succ, wipeW, Bool.false_eq_true, if_false, if_true, tl2, lt_ii, le_ii, gt_ii, ge_ii, eq_ii, eq_ss, int_i, ne_ii, ne_bb, eq_bb, add_ii, sub_ii, mod_ii, add_tt, add_ll, optQ_s, decide_eq_true_eq, Bool.not_eq_true', decide_eq_false_iff_not, Bool.not_true, Bool.not_false, Bool.true_eq_false, not_true_eq_false, not_false_eq_true, decide_true]
      simp only [SL.wp, S.wp, E.wp, C.wp, EL.wp, CO.wp, EO.wp, T.wp, TL.wp, I.wp, getS0, getSs, Cn.w, List.set_cons_zero, List.set_cons_succ, wipeW, Bool.false_eq_true, if_false, if_true, tl2, lt_ii, le_ii, gt_ii, ge_ii, eq_ii, eq_ss, int_i, ne_ii, ne_bb, eq_bb, add_ii, sub_ii, mod_ii, add_tt, add_ll, optQ_s, decide_eq_true_eq, Bool.not_eq_true', decide_eq_false_iff_not, Bool.not_true, Bool.not_false, Bool.true_eq_false, not_true_eq_false, not_false_eq_true, b_law_glued_1b3]
      rw [if_neg (by decide), if_neg (by decide)]
      refine ⟨le_sz (Nat.zero_le _), ?_⟩
      exact rest long [] _ _ _ _ m3 hG3 ShOk.nil (by omega) (by omega) fun _ => rfl
    · rw [if_pos hr0]
      refine ⟨a, b, 3, rfl, by omega, by omega, d3.dk, fun way m4 w0 w1 d4 => ?_⟩
      have hG4 := hG3.draw d4
      simp only [SL.wp, S.wp, E.wp, C.wp, EL.wp, CO.wp, EO.wp, T.wp, TL.wp, I.wp, getS0, getSs, Cn.w, List.set_cons_zero, List.set_cons_succ, wipeW, Bool.false_eq_true, if_false, if_true, tl2, lt_ii, le_ii, gt_ii, ge_ii, eq_ii, eq_ss, int_i, ne_ii, ne_bb, eq_bb, add_ii, sub_ii, mod_ii, add_tt, add_ll, optQ_s, decide_eq_true_eq, Bool.not_eq_true', decide_eq_false_iff_not, Bool.not_true, Bool.not_false, Bool.true_eq_false, not_true_eq_false, not_false_eq_true, parT]
      simp only [SL.wp, S.wp, E.wp, C.wp, EL.wp, CO.wp, EO.wp, T.wp, TL.wp, I.wp, getS0, getSs, Cn.w, List.set_cons_zero, List.set_cons_succ, wipeW, Bool.false_eq_true, if_false, if_true, tl2, lt_ii, le_ii, gt_ii, ge_ii, eq_ii, eq_ss, int_i, ne_ii, ne_bb, eq_bb, add_ii, sub_ii, mod_ii, add_tt, add_ll, optQ_s, decide_eq_true_eq, Bool.not_eq_true', decide_eq_false_iff_not, Bool.not_true, Bool.not_false, Bool.true_eq_false, not_true_eq_false, not_false_eq_true, b_law_glued_1b1, h2]
      refine newL_f (Nat.zero_le _) (ne_nilT hG4.hr ?_)
      simp only [SL.wp, S.wp, E.wp, C.wp, EL.wp, CO.wp, EO.wp, T.wp, TL.wp, I.wp, getS0, getSs, Cn.w, List.set_cons_zero, List.set_cons_succ, wipeW, Bool.false_eq_true, if_false, if_true, tl2, lt_ii, le_ii, gt_ii, ge_ii, eq_ii, eq_ss, int_i, ne_ii, ne_bb, eq_bb, add_ii, sub_ii, mod_ii, add_tt, add_ll, optQ_s, decide_eq_true_eq, Bool.not_eq_true', decide_eq_false_iff_not, Bool.not_true, Bool.not_false, Bool.true_eq_false, not_true_eq_false, not_false_eq_true]
      rw [if_pos hr0]
      refine ⟨a, b, .ref qr, rs.map tI, rfl, d4.dk, by rw [List.length_map]; exact List.length_pos_iff.mpr hr0, by rw [List.length_map]; omega, fun mu' d => vw_lst (hG4.draw d).hr, fun w hw m5 d5 => ?_⟩
      obtain ⟨old, rfl, hold⟩ := take_tI hw
      have hG5 := hG4.draw d5
      have hR := hg.rg old hold
      have hR4 := hR.four
      have hR9 := hR.nine
      simp only [SL.wp, S.wp, E.wp, C.wp, EL.wp, CO.wp, EO.wp, T.wp, TL.wp, I.wp, getS0, getSs, Cn.w, List.set_cons_zero, List.set_cons_succ, wipeW, Bool.false_eq_true, if_false, if_true, tl2, lt_ii, le_ii, gt_ii, ge_ii, eq_ii, eq_ss, int_i, ne_ii, ne_bb, eq_bb, add_ii, sub_ii, mod_ii, add_tt, add_ll, optQ_s, decide_eq_true_eq, Bool.not_eq_true', decide_eq_false_iff_not, Bool.not_true, Bool.not_false, Bool.true_eq_false, not_true_eq_false, not_false_eq_true, b_law_glued_1b2, h1]
      refine ⟨le_sz (Nat.zero_le _), ne_nilS ?_⟩
      have hon : old ≠ [] := fun z => by rw [z] at hR4; simp at hR4
      simp only [SL.wp, S.wp, E.wp, C.wp, EL.wp, CO.wp, EO.wp, T.wp, TL.wp, I.wp, getS0, getSs, Cn.w, List.set_cons_zero, List.set_cons_succ, wipeW, Bool.false_eq_true, if_false, if_true, tl2, lt_ii, le_ii, gt_ii, ge_ii, eq_ii, eq_ss, int_i, ne_ii, ne_bb, eq_bb, add_ii, sub_ii, mod_ii, add_tt, add_ll, optQ_s, decide_eq_true_eq, Bool.not_eq_true', decide_eq_false_iff_not, Bool.not_true, Bool.not_false, Bool.true_eq_false, not_true_eq_false, not_false_eq_true]
      rw [if_pos hon]
      refine len_tI ⟨a, b, old.length, rfl, by omega, by omega, d5.dk, fun at' m6 t0 t1 d6 => ?_⟩
      have hG6 := hG5.draw d6
      obtain ⟨k, rfl⟩ : ∃ k : Nat, at' = (k : Int) := ⟨at'.toNat, by omega⟩
      have hkl : k < old.length := by omega
      have e1 := List.getElem?_eq_getElem hkl
      have e2 := List.getElem?_eq_getElem (prevI_lt hkl)
      simp only [SL.wp, S.wp, E.wp, C.wp, EL.wp, CO.wp, EO.wp, T.wp, TL.wp, I.wp, getS0, getSs, Cn.w, List.set_cons_zero, List.set_cons_succ, wipeW, Bool.false_eq_true, if_false, if_true, tl2, lt_ii, le_ii, gt_ii, ge_ii, eq_ii, eq_ss, int_i, ne_ii, ne_bb, eq_bb, add_ii, sub_ii, mod_ii, add_tt, add_ll, optQ_s, decide_eq_true_eq, Bool.not_eq_true', decide_eq_false_iff_not, Bool.not_true, Bool.not_false, Bool.true_eq_false, not_true_eq_false, not_false_eq_true, b_law_glued_1b3]
      split
      · refine idx_tup (atI_ints (atI_nat e1)) ⟨le_sz (Nat.le_of_ble_eq_true rfl), ?_⟩
        exact rest long [_] _ _ _ _ m6 hG6 (ShOk.one hR (List.getElem_mem hkl)) (by omega) (by omega) fun z => absurd z hr0
      · split
        · refine idx_tup (atI_ints (atI_prev hkl e2)) (idx_tup (atI_ints (atI_nat e1)) ⟨le_sz (Nat.le_of_ble_eq_true rfl), ?_⟩)
          exact rest long [_, _] _ _ _ _ m6 hG6 (ShOk.pair hR hkl e2 e1) (by omega) (by omega) fun z => absurd z hr0
        · refine ⟨le_sz (Nat.zero_le _), ?_⟩
          exact rest long [] _ _ _ _ m6 hG6 ShOk.nil (by omega) (by omega) fun _ => rfl
  · rintro t m ⟨many, y5, y6, y7, y8, y9, y10, y11, y12, y13, y14, rfl, ps, rs, hG, hg, hmm, hps, hrs, hrs0⟩
    rw [rngW_len] at hps hrs hrs0
    exact aft ps rs many m _ _ _ _ _ _ _ _ _ _ hG hg hmm (by omega) (by omega) (hrs0.elim (fun z => by omega) id)
end FF

/-! All rings of a small web. -/
namespace FF
open PySem PySem.Spec PyProof.Rows L2
def psi (l : Nat) : Nat := [0, 0, 326, 65, 16, 5, 2, 1].getD l 0
def phi (l : Nat) : Nat := [0, 0, 120, 24, 6, 2, 1, 0].getD l 0
theorem seven {l : Nat} (h1 : 2 ≤ l) (h2 : l ≤ 7) : l = 2 ∨ l = 3 ∨ l = 4 ∨ l = 5 ∨ l = 6 ∨ l = 7 := by omega
theorem psi_step {l : Nat} (h1 : 2 ≤ l) (h2 : l ≤ 7) : (7 - l) * psi (l + 1) < psi l := by
  rcases seven h1 h2 with rfl | rfl | rfl | rfl | rfl | rfl <;> decide
theorem phi_step {l : Nat} (h1 : 2 ≤ l) (h2 : l ≤ 7) : (7 - l) * max 1 (phi (l + 1)) ≤ phi l := by
  rcases seven h1 h2 with rfl | rfl | rfl | rfl | rfl | rfl <;> decide
def wt (f : Nat → Nat) (ps : List (List Int)) : Nat := (ps.map fun p => f p.length).sum
theorem wt_snoc (f : Nat → Nat) (ps : List (List Int)) (p : List Int) : wt f (ps ++ [p]) = wt f ps + f p.length := by
  unfold wt
  rw [List.map_append, List.sum_append]; simp
/-- rings told: how long, of which places -/
def RsOk (n : Nat) (rs : List (List Int)) : Prop := ∀ r ∈ rs, 4 ≤ r.length ∧ r.length ≤ 9 ∧ ∀ x ∈ r, 0 ≤ x ∧ x < (n : Int)
theorem RsOk.snoc {n : Nat} {rs : List (List Int)} {r : List Int} (h : RsOk n rs) (h4 : 4 ≤ r.length) (h9 : r.length ≤ 9) (hr : ∀ x ∈ r, 0 ≤ x ∧ x < (n : Int)) : RsOk n (rs ++ [r]) := fun x hx => by
  rcases List.mem_append.mp hx with hx | hx
  · exact h x hx
  · rw [List.mem_singleton] at hx
    subst hx
    exact ⟨h4, h9, hr⟩
structure PathOk (n : Nat) (p : List Int) : Prop where
  nd : p.Nodup
  ran : ∀ x ∈ p, 0 ≤ x ∧ x < (n : Int)
  two : 2 ≤ p.length
theorem PathOk.snoc {n : Nat} {p : List Int} {k : Int} (h : PathOk n p) (hk : k ∉ p) (h0 : 0 ≤ k) (h1 : k < n) : PathOk n (p ++ [k]) := by
  refine ⟨List.nodup_append.mpr ⟨h.nd, by simp, fun a ha b hb z => hk (by rw [← List.mem_singleton.mp hb, ← z]; exact ha)⟩, fun x hx => ?_, by have := h.two; rw [List.length_append]; omega⟩
  rcases List.mem_append.mp hx with hx | hx
  · exact h.ran x hx
  · rw [List.mem_singleton] at hx
    subst hx
    exact ⟨h0, h1⟩
structure Pf (qf pp : Addr) (mu : Mu) (n : Nat) (paths found : List (List Int)) (m : Mu) : Prop where
  sub : Sub mu m
  hf : m qf = some (.lst (found.map tI))
  hp : m pp = some (.lst (paths.map tI))
  nf : mu qf = none
  np : mu pp = none
  ne : qf ≠ pp
  pk : ∀ p ∈ paths, PathOk n p
  fk : RsOk n found
theorem Pf.putF {qf pp : Addr} {mu m : Mu} {n : Nat} {paths found : List (List Int)} (h : Pf qf pp mu n paths found m) {r : List Int} (hr : RsOk n (found ++ [r])) : Pf qf pp mu n paths (found ++ [r]) (sett m qf (.lst ((found ++ [r]).map tI))) :=
  ⟨h.sub.sett h.nf, sett_same, by rw [sett_ne (Ne.symm h.ne)]; exact h.hp, h.nf, h.np, h.ne, h.pk, hr⟩
theorem Pf.putP {qf pp : Addr} {mu m : Mu} {n : Nat} {paths found : List (List Int)} (h : Pf qf pp mu n paths found m) {paths' : List (List Int)} (hp : ∀ p ∈ paths', PathOk n p) : Pf qf pp mu n paths' found (sett m pp (.lst (paths'.map tI))) :=
  ⟨h.sub.sett h.np, by rw [sett_ne h.ne]; exact h.hf, sett_same, h.nf, h.np, h.ne, hp, h.fk⟩
theorem nin_t {i : Int} {l : List Int} {mu : Mu} {Q : QW} (h : Q (.bl (!decide (i ∈ l))) mu) : cmpR .NotIn (.int i) (tI l) mu Q := in_ints_t (Q := fun b => Q (.bl (!b)) mu) h
theorem add_tI {l m : List Int} {mu : Mu} {Q : QW} (hz : l.length + m.length ≤ sizeLine) (h : Q (tI (l ++ m)) mu) : binR .Add (tI l) (.tup (m.map W.int)) mu Q := by
  show (l.map W.int).length + (m.map W.int).length ≤ sizeLine ∧ Q (.tup (l.map W.int ++ m.map W.int)) mu
  rw [List.length_map, List.length_map, ← List.map_append]
  exact ⟨hz, h⟩
theorem srt_near {cs : List (Int × Int)} {i : Nat} {mu : Mu} {Q : QW} (h : Q (.lst ((srtI (nearOf cs i)).map W.int)) mu) : bifR .sorted [.dct false ((nearOf cs i).map trueI)] mu Q := by
  refine .inl ⟨nearOf cs i, ?_, h⟩
  rw [List.map_map]
  exact intsOf_map _
theorem srt_near_nd (cs : List (Int × Int)) (i : Nat) : (srtI (nearOf cs i)).Nodup := (srtI_perm _).nodup_iff.mpr (nearOf_nodup cs i)
theorem srt_near_mem {cs : List (Int × Int)} {i : Nat} {k : Int} : k ∈ srtI (nearOf cs i) ↔ ((i : Int), k) ∈ cs := by rw [(srtI_perm _).mem_iff, nearOf_mem]
theorem srt_near_len (cs : List (Int × Int)) (i : Nat) : (srtI (nearOf cs i)).length ≤ cs.length := by rw [srtI_len]; exact nearOf_len cs i
theorem wt_two (f : Nat → Nat) (i : Int) : ∀ ks : List Int, wt f (ks.map fun k => [i, k]) = f 2 * ks.length
  | [] => rfl
  | k :: ks => by
    have ih := wt_two f i ks
    unfold wt at ih ⊢
    rw [List.map_cons, List.map_cons, List.sum_cons, ih]
    show f 2 + f 2 * ks.length = f 2 * (ks.length + 1)
    rw [Nat.mul_succ]
    omega
theorem wt_len {n : Nat} (hn : n ≤ 7) : ∀ {ps : List (List Int)}, (∀ p ∈ ps, PathOk n p) → ps.length ≤ wt psi ps
  | [], _ => Nat.zero_le _
  | p :: ps, h => by
    have ih := wt_len hn fun q hq => h q (List.mem_cons_of_mem _ hq)
    have hp := h p List.mem_cons_self
    have hl := nodup_bound n p hp.nd hp.ran
    have h1 : 1 ≤ psi p.length := by
      rcases seven hp.two (by omega) with e | e | e | e | e | e <;> rw [e] <;> decide
    unfold wt at ih ⊢
    rw [List.map_cons, List.sum_cons, List.length_cons]
    omega
def sp_law_rings_of : SpW := fun ws mu Q => ∃ (n : Nat) (cs : List (Int × Int)), ws = [webW n cs] ∧ Web n cs ∧ n ≤ 7 ∧ ∀ rs : List (List Int), rs.length ≤ 5040 → RsOk n rs → Q (.lst (rs.map tI)) mu
theorem ok_law_rings_of (F : Fe) (h1 : F.fn "_law_near" = sp_law_near) : ∀ ws mu Q, sp_law_rings_of ws mu Q → ws.length = 1 ∧ (b_law_rings_of).wp F (endR Q) (startW n_law_rings_of ws) mu := by
  rintro ws mu Q ⟨n, cs, rfl, hW, hn7, hq⟩
  refine ⟨rfl, ?_⟩
  show (b_law_rings_of).wp F (endR Q) [some (webW n cs), none, none, none, none, none, none, none, none] mu
  have hcl := hW.len
  simp only [SL.wp, S.wp, E.wp, C.wp, EL.wp, CO.wp, EO.wp, T.wp, TL.wp, I.wp, getS0, getSs, Cn.w, List.set_cons_zero, List.set_cons_succ, wipeW, Bool.false_eq_true, if_false, if_true, tl2, lt_ii, le_ii, gt_ii, ge_ii, eq_ii, eq_ss, int_i, ne_ii, ne_bb, eq_bb, add_ii, sub_ii, mod_ii, add_tt, add_ll, optQ_s, decide_eq_true_eq, Bool.not_eq_true', decide_eq_false_iff_not, Bool.not_true, Bool.not_false, Bool.true_eq_false, not_true_eq_false, not_false_eq_true, b_law_rings_of, h1]
  refine ⟨n, cs, rfl, by omega, hW.ran, hcl, ?_⟩
  refine newL_t (Nat.zero_le _) fun qf hqf => ?_
  refine ⟨le_sz (Nat.le_of_ble_eq_true rfl), rfl, ?_⟩
  simp only [SL.wp, S.wp, E.wp, C.wp, EL.wp, CO.wp, EO.wp, T.wp, TL.wp, I.wp, getS0, getSs, Cn.w, List.set_cons_zero, List.set_cons_succ, wipeW, Bool.false_eq_true, if_false, if_true, tl2, lt_ii, le_ii, gt_ii, ge_ii, eq_ii, eq_ss, int_i, ne_ii, ne_bb, eq_bb, add_ii, sub_ii, mod_ii, add_tt, add_ll, optQ_s, decide_eq_true_eq, Bool.not_eq_true', decide_eq_false_iff_not, Bool.not_true, Bool.not_false, Bool.true_eq_false, not_true_eq_false, not_false_eq_true, b_law_rings_of_1]
  refine idx_tup (w := .int n) rfl ⟨n, rfl, by omega, ?_⟩
  rw [Int.toNat_natCast]
  refine forW_inv (fun i t m => (∃ x3 x4 x5 x6 x7 x8, t = [some (webW n cs), some (nearW n cs), some (.ref qf), x3, x4, x5, x6, x7, x8]) ∧ ∃ found, Sub mu m ∧ m qf = some (.lst (found.map tI)) ∧ RsOk n found ∧ found.length ≤ 720 * i) ⟨⟨_, _, _, _, _, _, rfl⟩, [], (Sub.refl mu).sett hqf, sett_same, (fun _ h => (List.not_mem_nil h).elim), Nat.zero_le _⟩ (fun _ _ _ _ _ => True.intro) ?_ ?_
  · rintro first w t m R hw ⟨⟨x3, x4, x5, x6, x7, x8, rfl⟩, found, hsub, hf, hfk, hfl⟩ kk
    obtain ⟨rfl, hfn⟩ := rngW_get hw
    simp only [SL.wp, S.wp, E.wp, C.wp, EL.wp, CO.wp, EO.wp, T.wp, TL.wp, I.wp, getS0, getSs, Cn.w, List.set_cons_zero, List.set_cons_succ, wipeW, Bool.false_eq_true, if_false, if_true, tl2, lt_ii, le_ii, gt_ii, ge_ii, eq_ii, eq_ss, int_i, ne_ii, ne_bb, eq_bb, add_ii, sub_ii, mod_ii, add_tt, add_ll, optQ_s, decide_eq_true_eq, Bool.not_eq_true', decide_eq_false_iff_not, Bool.not_true, Bool.not_false, Bool.true_eq_false, not_true_eq_false, not_false_eq_true, b_law_rings_of_1b0, Int.zero_add]
    refine idx_lst (atI_nat (near_at hfn)) (srt_near (iter_lst ?_))
    intro pp hpp
    have hpp0 := sub_fresh hsub hpp
    have hne : qf ≠ pp := fun z => by rw [← z, hf] at hpp; cases hpp
    refine comp_p hpp (fun w => decide ((first : Int) < intV w)) (fun w => tI [(first : Int), intV w]) (le_sz (by rw [List.length_map]; have := srt_near_len cs first; omega)) .free True.intro ?_ ?_
    · intro w m' G N hw _ g1 g2
      obtain ⟨k, rfl, hk⟩ := take_ints hw
      simp only [SL.wp, S.wp, E.wp, C.wp, EL.wp, CO.wp, EO.wp, T.wp, TL.wp, I.wp, getS0, getSs, Cn.w, List.set_cons_zero, List.set_cons_succ, wipeW, Bool.false_eq_true, if_false, if_true, tl2, lt_ii, le_ii, gt_ii, ge_ii, eq_ii, eq_ss, int_i, ne_ii, ne_bb, eq_bb, add_ii, sub_ii, mod_ii, add_tt, add_ll, optQ_s, decide_eq_true_eq, Bool.not_eq_true', decide_eq_false_iff_not, Bool.not_true, Bool.not_false, Bool.true_eq_false, not_true_eq_false, not_false_eq_true]
      split
      · rename_i h
        exact ⟨le_sz (Nat.le_of_ble_eq_true rfl), g1 (decide_eq_true h)⟩
      · rename_i h
        exact g2 (decide_eq_false h)
    · obtain ⟨ks, hks⟩ : ∃ ks, ks = (srtI (nearOf cs first)).filter fun k => decide ((first : Int) < k) := ⟨_, rfl⟩
      have e : (((srtI (nearOf cs first)).map W.int).filter (fun w => decide ((first : Int) < intV w))).map (fun w => tI [(first : Int), intV w]) = (ks.map fun k => [(first : Int), k]).map tI := by
        rw [hks, List.filter_map, List.map_map, List.map_map]; rfl
      rw [e]
      have kn : ks.Nodup := by rw [hks]; exact (srt_near_nd cs first).filter _
      have kr : ∀ k ∈ ks, (first : Int) < k ∧ 0 ≤ k ∧ k < n := fun k hk => by
        rw [hks] at hk
        obtain ⟨a1, a2⟩ := List.mem_filter.mp hk
        have a3 := hW.ran _ (srt_near_mem.mp a1)
        exact ⟨of_decide_eq_true a2, a3.2.2.1, a3.2.2.2⟩
      have kl : ks.length + 1 ≤ n := by
        refine nodup_bound n ((first : Int) :: ks) (List.nodup_cons.mpr ⟨fun z => ?_, kn⟩) fun x hx => ?_
        · have := (kr _ z).1; omega
        · rcases List.mem_cons.mp hx with rfl | hx
          · omega
          · exact (kr x hx).2
      have hwt := wt_two phi first ks
      have hwt2 := wt_two psi first ks
      have p2 : phi 2 = 120 := rfl
      have p3 : psi 2 = 326 := rfl
      rw [p2] at hwt
      rw [p3] at hwt2
      have hP : Pf qf pp mu n (ks.map fun k => [(first : Int), k]) found (sett m pp (.lst ((ks.map fun k => [(first : Int), k]).map tI))) := by
        refine ⟨hsub.sett hpp0, by rw [sett_ne hne]; exact hf, sett_same, hqf, hpp0, hne, fun p hp => ?_, hfk⟩
        obtain ⟨k, hk, rfl⟩ := List.mem_map.mp hp
        have := kr k hk
        refine ⟨by simp; omega, fun x hx => ?_, by simp⟩
        simp only [List.mem_cons, List.not_mem_nil, or_false] at hx
        rcases hx with rfl | rfl
        · omega
        · exact this.2
      generalize sett m pp (.lst ((ks.map fun k => [(first : Int), k]).map tI)) = m0 at hP
      generalize (ks.map fun k => [(first : Int), k]) = paths0 at hP hwt hwt2
      simp only [SL.wp, S.wp, E.wp, C.wp, EL.wp, CO.wp, EO.wp, T.wp, TL.wp, I.wp, getS0, getSs, Cn.w, List.set_cons_zero, List.set_cons_succ, wipeW, Bool.false_eq_true, if_false, if_true, tl2, lt_ii, le_ii, gt_ii, ge_ii, eq_ii, eq_ss, int_i, ne_ii, ne_bb, eq_bb, add_ii, sub_ii, mod_ii, add_tt, add_ll, optQ_s, decide_eq_true_eq, Bool.not_eq_true', decide_eq_false_iff_not, Bool.not_true, Bool.not_false, Bool.true_eq_false, not_true_eq_false, not_false_eq_true, b_law_rings_of_1b1]
      refine ⟨fun k t m => (∃ x5 x6 x7 x8, t = [some (webW n cs), some (nearW n cs), some (.ref qf), some (.int first), some (.ref pp), x5, x6, x7, x8]) ∧ ∃ paths found, k = wt psi paths ∧ k ≤ 2000 ∧ Pf qf pp mu n paths found m ∧ found.length + wt phi paths ≤ 720 * (first + 1), ⟨_, ⟨_, _, _, _, rfl⟩, paths0, found, rfl, by omega, hP, by omega⟩, ?_⟩
      clear hP hwt hwt2 hfk hfl hf hsub kn kr kl e hks hpp
      rintro k t m ⟨⟨x5, x6, x7, x8, rfl⟩, paths, found, rfl, hk2, hP, hB⟩
      simp only [SL.wp, S.wp, E.wp, C.wp, EL.wp, CO.wp, EO.wp, T.wp, TL.wp, I.wp, getS0, getSs, Cn.w, List.set_cons_zero, List.set_cons_succ, wipeW, Bool.false_eq_true, if_false, if_true, tl2, lt_ii, le_ii, gt_ii, ge_ii, eq_ii, eq_ss, int_i, ne_ii, ne_bb, eq_bb, add_ii, sub_ii, mod_ii, add_tt, add_ll, optQ_s, decide_eq_true_eq, Bool.not_eq_true', decide_eq_false_iff_not, Bool.not_true, Bool.not_false, Bool.true_eq_false, not_true_eq_false, not_false_eq_true]
      refine newL_f (Nat.zero_le _) (ne_nilT hP.hp ?_)
      simp only [SL.wp, S.wp, E.wp, C.wp, EL.wp, CO.wp, EO.wp, T.wp, TL.wp, I.wp, getS0, getSs, Cn.w, List.set_cons_zero, List.set_cons_succ, wipeW, Bool.false_eq_true, if_false, if_true, tl2, lt_ii, le_ii, gt_ii, ge_ii, eq_ii, eq_ss, int_i, ne_ii, ne_bb, eq_bb, add_ii, sub_ii, mod_ii, add_tt, add_ll, optQ_s, decide_eq_true_eq, Bool.not_eq_true', decide_eq_false_iff_not, Bool.not_true, Bool.not_false, Bool.true_eq_false, not_true_eq_false, not_false_eq_true]
      by_cases hpn : paths = []
      · rw [if_neg (fun z => z hpn)]
        exact kk _ _ ⟨⟨_, _, _, _, _, _, rfl⟩, found, hP.sub, hP.hf, hP.fk, by omega⟩
      · rw [if_pos hpn]
        obtain ⟨pre, pa, rfl⟩ : ∃ l x, paths = l ++ [x] := (List.eq_nil_or_concat paths).resolve_left hpn |>.imp fun l h => h.imp fun x e => by rw [e, List.concat_eq_append]
        have hpa := hP.pk pa (by simp)
        have hpl := nodup_bound n pa hpa.nd hpa.ran
        have hp2 := hpa.two
        rw [wt_snoc] at hB hk2
        rw [wt_snoc]
        simp only [SL.wp, S.wp, E.wp, C.wp, EL.wp, CO.wp, EO.wp, T.wp, TL.wp, I.wp, getS0, getSs, Cn.w, List.set_cons_zero, List.set_cons_succ, wipeW, Bool.false_eq_true, if_false, if_true, tl2, lt_ii, le_ii, gt_ii, ge_ii, eq_ii, eq_ss, int_i, ne_ii, ne_bb, eq_bb, add_ii, sub_ii, mod_ii, add_tt, add_ll, optQ_s, decide_eq_true_eq, Bool.not_eq_true', decide_eq_false_iff_not, Bool.not_true, Bool.not_false, Bool.true_eq_false, not_true_eq_false, not_false_eq_true, b_law_rings_of_1b1b0]
        refine ⟨by rw [vw_lst hP.hp]; rfl, pre.map tI, tI pa, by rw [hP.hp, List.map_append]; rfl, ?_⟩
        have hP0 := hP.putP (paths' := pre) (fun p hp => hP.pk p (by simp [hp]))
        generalize sett m pp (.lst (pre.map tI)) = m1 at hP0
        clear hP
        simp only [SL.wp, S.wp, E.wp, C.wp, EL.wp, CO.wp, EO.wp, T.wp, TL.wp, I.wp, getS0, getSs, Cn.w, List.set_cons_zero, List.set_cons_succ, wipeW, Bool.false_eq_true, if_false, if_true, tl2, lt_ii, le_ii, gt_ii, ge_ii, eq_ii, eq_ss, int_i, ne_ii, ne_bb, eq_bb, add_ii, sub_ii, mod_ii, add_tt, add_ll, optQ_s, decide_eq_true_eq, Bool.not_eq_true', decide_eq_false_iff_not, Bool.not_true, Bool.not_false, Bool.true_eq_false, not_true_eq_false, not_false_eq_true, b_law_rings_of_1b1b1]
        have hlast : pa[pa.length - 1]? = some pa[pa.length - 1] := List.getElem?_eq_getElem (by omega)
        obtain ⟨la, hla⟩ : ∃ la : Nat, pa[pa.length - 1] = (la : Int) := ⟨(pa[pa.length - 1]).toNat, by have := hpa.ran _ (List.getElem_mem (by omega : pa.length - 1 < pa.length)); omega⟩
        have hlr := hpa.ran _ (List.getElem_mem (by omega : pa.length - 1 < pa.length))
        rw [hla] at hlast hlr
        refine idx_tup (atI_ints (atI_neg (j := pa.length - 1) (by omega) (by omega) hlast)) ?_
        refine idx_lst (atI_nat (near_at (by omega))) (srt_near (iter_lst ?_))
        intro p3 hp3
        refine comp_p hp3 (fun w => decide ((first : Int) < intV w) && !decide (intV w ∈ pa)) id (le_sz (by rw [List.length_map]; have := srt_near_len cs la; omega)) .free True.intro ?_ ?_
        · intro w m' G N hw _ g1 g2
          obtain ⟨k, rfl, hk⟩ := take_ints hw
          simp only [SL.wp, S.wp, E.wp, C.wp, EL.wp, CO.wp, EO.wp, T.wp, TL.wp, I.wp, getS0, getSs, Cn.w, List.set_cons_zero, List.set_cons_succ, wipeW, Bool.false_eq_true, if_false, if_true, tl2, lt_ii, le_ii, gt_ii, ge_ii, eq_ii, eq_ss, int_i, ne_ii, ne_bb, eq_bb, add_ii, sub_ii, mod_ii, add_tt, add_ll, optQ_s, decide_eq_true_eq, Bool.not_eq_true', decide_eq_false_iff_not, Bool.not_true, Bool.not_false, Bool.true_eq_false, not_true_eq_false, not_false_eq_true]
          have g1 : (decide ((first : Int) < k) && !decide (k ∈ pa)) = true → G (.int k) m' := g1
          have g2 : (decide ((first : Int) < k) && !decide (k ∈ pa)) = false → N m' := g2
          split
          · rename_i h
            refine nin_t ?_
            simp only [SL.wp, S.wp, E.wp, C.wp, EL.wp, CO.wp, EO.wp, T.wp, TL.wp, I.wp, getS0, getSs, Cn.w, List.set_cons_zero, List.set_cons_succ, wipeW, Bool.false_eq_true, if_false, if_true, tl2, lt_ii, le_ii, gt_ii, ge_ii, eq_ii, eq_ss, int_i, ne_ii, ne_bb, eq_bb, add_ii, sub_ii, mod_ii, add_tt, add_ll, optQ_s, decide_eq_true_eq, Bool.not_eq_true', decide_eq_false_iff_not, Bool.not_true, Bool.not_false, Bool.true_eq_false, not_true_eq_false, not_false_eq_true]
            split
            · rename_i h2
              exact g1 (by rw [decide_eq_true h, decide_eq_false h2]; rfl)
            · rename_i h2
              exact g2 (by rw [decide_eq_true h, decide_eq_true (Decidable.of_not_not h2)]; rfl)
          · rename_i h
            exact g2 (by rw [decide_eq_false h]; rfl)
        · rw [dell_sett hp3, filt_intd (fun (k : Int) => decide ((first : Int) < k) && !decide (k ∈ pa)) (fun _ => rfl)]
          refine iter_lst ?_
          obtain ⟨ks, hks⟩ : ∃ ks, ks = (srtI (nearOf cs la)).filter fun (k : Int) => decide ((first : Int) < k) && !decide (k ∈ pa) := ⟨_, rfl⟩
          rw [← hks]
          have kn : ks.Nodup := by rw [hks]; exact (srt_near_nd cs la).filter _
          have kr : ∀ k ∈ ks, k ∉ pa ∧ 0 ≤ k ∧ k < n := fun k hk => by
            rw [hks] at hk
            obtain ⟨a1, a2⟩ := List.mem_filter.mp hk
            have a3 := hW.ran _ (srt_near_mem.mp a1)
            simp only [Bool.and_eq_true, decide_eq_true_eq, Bool.not_eq_true', decide_eq_false_iff_not] at a2
            exact ⟨a2.2, a3.2.2.1, a3.2.2.2⟩
          have kl : pa.length + ks.length ≤ n := by
            rw [← List.length_append]
            refine nodup_bound n _ (List.nodup_append.mpr ⟨hpa.nd, kn, fun a ha b hb z => (kr b hb).1 (by rw [← z]; exact ha)⟩) fun x hx => ?_
            rcases List.mem_append.mp hx with hx | hx
            · exact hpa.ran x hx
            · exact (kr x hx).2
          clear hks
          have hps := psi_step hp2 (by omega : pa.length ≤ 7)
          have hph := phi_step hp2 (by omega : pa.length ≤ 7)
          refine forW_inv (fun j t m => (∃ x5 x7 x8, t = [some (webW n cs), some (nearW n cs), some (.ref qf), some (.int first), some (.ref pp), x5, some (tI pa), x7, x8]) ∧ ∃ paths fnd, Pf qf pp mu n paths fnd m ∧ wt psi paths ≤ wt psi pre + j * psi (pa.length + 1) ∧ fnd.length + wt phi paths ≤ found.length + wt phi pre + j * max 1 (phi (pa.length + 1))) ⟨⟨_, _, _, rfl⟩, pre, found, hP0, by omega, by omega⟩ (fun _ _ _ _ _ => True.intro) ?_ ?_
          · clear hP0
            rintro j w t m R2 hw ⟨⟨x5, x7, x8, rfl⟩, paths, fnd, hP, hA, hB⟩ k2
            rw [List.getElem?_map] at hw
            cases ek : ks[j]? with
            | none => rw [ek] at hw; cases hw
            | some k =>
              rw [ek] at hw; cases hw
              obtain ⟨kp, k0, k1⟩ := kr k (List.mem_of_getElem? ek)
              obtain ⟨k, rfl⟩ : ∃ k' : Nat, k = (k' : Int) := ⟨k.toNat, by omega⟩
              have hpl2 : pa.length + 1 ≤ n := by
                have : j < ks.length := (List.getElem?_eq_some_iff.mp ek).1
                omega
              have hsn := hpa.snoc kp k0 k1
              have hpl3 := hP.pk
              have s1 : (j + 1) * psi (pa.length + 1) = j * psi (pa.length + 1) + psi (pa.length + 1) := Nat.succ_mul _ _
              have s2 : (j + 1) * max 1 (phi (pa.length + 1)) = j * max 1 (phi (pa.length + 1)) + max 1 (phi (pa.length + 1)) := Nat.succ_mul _ _
              simp only [SL.wp, S.wp, E.wp, C.wp, EL.wp, CO.wp, EO.wp, T.wp, TL.wp, I.wp, getS0, getSs, Cn.w, List.set_cons_zero, List.set_cons_succ, wipeW, Bool.false_eq_true, if_false, if_true, tl2, lt_ii, le_ii, gt_ii, ge_ii, eq_ii, eq_ss, int_i, ne_ii, ne_bb, eq_bb, add_ii, sub_ii, mod_ii, add_tt, add_ll, optQ_s, decide_eq_true_eq, Bool.not_eq_true', decide_eq_false_iff_not, Bool.not_true, Bool.not_false, Bool.true_eq_false, not_true_eq_false, not_false_eq_true, b_law_rings_of_1b1b1b0]
              refine slT_mid (iter_tup ?_)
              have ed : ((pa.map W.int).drop 1).dropLast = ((pa.drop 1).dropLast).map W.int := by rw [← List.map_drop, List.map_dropLast]
              rw [ed]
              intro p4 hp4
              refine comp_p hp4 (fun w => decide (((k : Int), intV w) ∈ cs)) id (le_sz (by rw [List.length_map, List.length_dropLast, List.length_drop]; omega)) .free True.intro ?_ ?_
              · intro w m' G N hw _ g1 g2
                obtain ⟨x, rfl, hx⟩ := take_ints hw
                have g1 : decide (((k : Int), x) ∈ cs) = true → G (.int x) m' := g1
                have g2 : decide (((k : Int), x) ∈ cs) = false → N m' := g2
                simp only [SL.wp, S.wp, E.wp, C.wp, EL.wp, CO.wp, EO.wp, T.wp, TL.wp, I.wp, getS0, getSs, Cn.w, List.set_cons_zero, List.set_cons_succ, wipeW, Bool.false_eq_true, if_false, if_true, tl2, lt_ii, le_ii, gt_ii, ge_ii, eq_ii, eq_ss, int_i, ne_ii, ne_bb, eq_bb, add_ii, sub_ii, mod_ii, add_tt, add_ll, optQ_s, decide_eq_true_eq, Bool.not_eq_true', decide_eq_false_iff_not, Bool.not_true, Bool.not_false, Bool.true_eq_false, not_true_eq_false, not_false_eq_true]
                refine idx_lst (atI_nat (near_at (by omega))) (cin_near ?_)
                simp only [SL.wp, S.wp, E.wp, C.wp, EL.wp, CO.wp, EO.wp, T.wp, TL.wp, I.wp, getS0, getSs, Cn.w, List.set_cons_zero, List.set_cons_succ, wipeW, Bool.false_eq_true, if_false, if_true, tl2, lt_ii, le_ii, gt_ii, ge_ii, eq_ii, eq_ss, int_i, ne_ii, ne_bb, eq_bb, add_ii, sub_ii, mod_ii, add_tt, add_ll, optQ_s, decide_eq_true_eq, Bool.not_eq_true', decide_eq_false_iff_not, Bool.not_true, Bool.not_false, Bool.true_eq_false, not_true_eq_false, not_false_eq_true]
                split
                · rename_i h
                  exact g1 (decide_eq_true h)
                · rename_i h
                  exact g2 (decide_eq_false h)
              · rw [dell_sett hp4, filt_intd (fun (x : Int) => decide (((k : Int), x) ∈ cs)) (fun _ => rfl)]
                refine newL_f (Nat.zero_le _) (eq_nilI' ?_)
                generalize decide ((((pa.drop 1).dropLast).filter fun (x : Int) => decide (((k : Int), x) ∈ cs)) = []) = free
                have no : R2 [some (webW n cs), some (nearW n cs), some (.ref qf), some (.int first), some (.ref pp), some (.int k), some (tI pa), x7, some (.bl free)] m := k2 _ _ ⟨⟨_, _, _, rfl⟩, paths, fnd, hP, by omega, by omega⟩
                have ea : ∀ l : List (List Int), l.map tI ++ [tI (pa ++ [(k : Int)])] = (l ++ [pa ++ [(k : Int)]]).map tI := fun l => by rw [List.map_append]; rfl
                have et : pa.map W.int ++ [W.int (k : Int)] = (pa ++ [(k : Int)]).map W.int := by rw [List.map_append]; rfl
                have hlen : (pa ++ [(k : Int)]).length = pa.length + 1 := by rw [List.length_append]; rfl
                have hjk : j < ks.length := (List.getElem?_eq_some_iff.mp ek).1
                have m1 : (j + 1) * psi (pa.length + 1) ≤ (7 - pa.length) * psi (pa.length + 1) := Nat.mul_le_mul_right _ (by omega)
                have m2 : (j + 1) * max 1 (phi (pa.length + 1)) ≤ (7 - pa.length) * max 1 (phi (pa.length + 1)) := Nat.mul_le_mul_right _ (by omega)
                have sN := wt_len hn7 hP.pk
                simp only [SL.wp, S.wp, E.wp, C.wp, EL.wp, CO.wp, EO.wp, T.wp, TL.wp, I.wp, getS0, getSs, Cn.w, List.set_cons_zero, List.set_cons_succ, wipeW, Bool.false_eq_true, if_false, if_true, tl2, lt_ii, le_ii, gt_ii, ge_ii, eq_ii, eq_ss, int_i, ne_ii, ne_bb, eq_bb, add_ii, sub_ii, mod_ii, add_tt, add_ll, optQ_s, decide_eq_true_eq, Bool.not_eq_true', decide_eq_false_iff_not, Bool.not_true, Bool.not_false, Bool.true_eq_false, not_true_eq_false, not_false_eq_true, b_law_rings_of_1b1b1b1]
                cases free with
                | false =>
                  simp only [SL.wp, S.wp, E.wp, C.wp, EL.wp, CO.wp, EO.wp, T.wp, TL.wp, I.wp, getS0, getSs, Cn.w, List.set_cons_zero, List.set_cons_succ, wipeW, Bool.false_eq_true, if_false, if_true, tl2, lt_ii, le_ii, gt_ii, ge_ii, eq_ii, eq_ss, int_i, ne_ii, ne_bb, eq_bb, add_ii, sub_ii, mod_ii, add_tt, add_ll, optQ_s, decide_eq_true_eq, Bool.not_eq_true', decide_eq_false_iff_not, Bool.not_true, Bool.not_false, Bool.true_eq_false, not_true_eq_false, not_false_eq_true, b_law_rings_of_1b1b1b1e0]
                  exact no
                | true =>
                  simp only [SL.wp, S.wp, E.wp, C.wp, EL.wp, CO.wp, EO.wp, T.wp, TL.wp, I.wp, getS0, getSs, Cn.w, List.set_cons_zero, List.set_cons_succ, wipeW, Bool.false_eq_true, if_false, if_true, tl2, lt_ii, le_ii, gt_ii, ge_ii, eq_ii, eq_ss, int_i, ne_ii, ne_bb, eq_bb, add_ii, sub_ii, mod_ii, add_tt, add_ll, optQ_s, decide_eq_true_eq, Bool.not_eq_true', decide_eq_false_iff_not, Bool.not_true, Bool.not_false, Bool.true_eq_false, not_true_eq_false, not_false_eq_true]
                  refine idx_lst (atI_nat (near_at hfn)) (nin_near ?_)
                  simp only [SL.wp, S.wp, E.wp, C.wp, EL.wp, CO.wp, EO.wp, T.wp, TL.wp, I.wp, getS0, getSs, Cn.w, List.set_cons_zero, List.set_cons_succ, wipeW, Bool.false_eq_true, if_false, if_true, tl2, lt_ii, le_ii, gt_ii, ge_ii, eq_ii, eq_ss, int_i, ne_ii, ne_bb, eq_bb, add_ii, sub_ii, mod_ii, add_tt, add_ll, optQ_s, decide_eq_true_eq, Bool.not_eq_true', decide_eq_false_iff_not, Bool.not_true, Bool.not_false, Bool.true_eq_false, not_true_eq_false, not_false_eq_true]
                  split
                  · simp only [SL.wp, S.wp, E.wp, C.wp, EL.wp, CO.wp, EO.wp, T.wp, TL.wp, I.wp, getS0, getSs, Cn.w, List.set_cons_zero, List.set_cons_succ, wipeW, Bool.false_eq_true, if_false, if_true, tl2, lt_ii, le_ii, gt_ii, ge_ii, eq_ii, eq_ss, int_i, ne_ii, ne_bb, eq_bb, add_ii, sub_ii, mod_ii, add_tt, add_ll, optQ_s, decide_eq_true_eq, Bool.not_eq_true', decide_eq_false_iff_not, Bool.not_true, Bool.not_false, Bool.true_eq_false, not_true_eq_false, not_false_eq_true, b_law_rings_of_1b1b1b1t0]
                    refine ⟨by rw [vw_lst hP.hp]; rfl, ?_⟩
                    refine ⟨le_sz (Nat.le_of_ble_eq_true rfl), add_tI (m := [(k : Int)]) (le_sz (by simp only [List.length_cons, List.length_nil]; omega)) ?_⟩
                    refine ⟨_, hP.hp, sz1000 (by rw [List.length_map]; omega), ?_⟩
                    have h2 := hP.putP (paths' := paths ++ [pa ++ [(k : Int)]]) (fun p hp => by
                      rcases List.mem_append.mp hp with hp | hp
                      · exact hP.pk p hp
                      · rw [List.mem_singleton.mp hp]; exact hsn)
                    rw [← ea] at h2
                    refine k2 _ _ ⟨⟨_, _, _, rfl⟩, _, _, h2, by rw [wt_snoc, hlen]; omega, by rw [wt_snoc, hlen]; omega⟩
                  · simp only [SL.wp, S.wp, E.wp, C.wp, EL.wp, CO.wp, EO.wp, T.wp, TL.wp, I.wp, getS0, getSs, Cn.w, List.set_cons_zero, List.set_cons_succ, wipeW, Bool.false_eq_true, if_false, if_true, tl2, lt_ii, le_ii, gt_ii, ge_ii, eq_ii, eq_ss, int_i, ne_ii, ne_bb, eq_bb, add_ii, sub_ii, mod_ii, add_tt, add_ll, optQ_s, decide_eq_true_eq, Bool.not_eq_true', decide_eq_false_iff_not, Bool.not_true, Bool.not_false, Bool.true_eq_false, not_true_eq_false, not_false_eq_true, b_law_rings_of_1b1b1b1e0]
                    refine len_tI ?_
                    simp only [SL.wp, S.wp, E.wp, C.wp, EL.wp, CO.wp, EO.wp, T.wp, TL.wp, I.wp, getS0, getSs, Cn.w, List.set_cons_zero, List.set_cons_succ, wipeW, Bool.false_eq_true, if_false, if_true, tl2, lt_ii, le_ii, gt_ii, ge_ii, eq_ii, eq_ss, int_i, ne_ii, ne_bb, eq_bb, add_ii, sub_ii, mod_ii, add_tt, add_ll, optQ_s, decide_eq_true_eq, Bool.not_eq_true', decide_eq_false_iff_not, Bool.not_true, Bool.not_false, Bool.true_eq_false, not_true_eq_false, not_false_eq_true]
                    split
                    · rename_i hlg
                      have e1 : pa[1]? = some pa[1] := List.getElem?_eq_getElem (by omega)
                      refine idx_tup (atI_ints (atI_nat (i := 1) e1)) ?_
                      simp only [SL.wp, S.wp, E.wp, C.wp, EL.wp, CO.wp, EO.wp, T.wp, TL.wp, I.wp, getS0, getSs, Cn.w, List.set_cons_zero, List.set_cons_succ, wipeW, Bool.false_eq_true, if_false, if_true, tl2, lt_ii, le_ii, gt_ii, ge_ii, eq_ii, eq_ss, int_i, ne_ii, ne_bb, eq_bb, add_ii, sub_ii, mod_ii, add_tt, add_ll, optQ_s, decide_eq_true_eq, Bool.not_eq_true', decide_eq_false_iff_not, Bool.not_true, Bool.not_false, Bool.true_eq_false, not_true_eq_false, not_false_eq_true]
                      split
                      · simp only [SL.wp, S.wp, E.wp, C.wp, EL.wp, CO.wp, EO.wp, T.wp, TL.wp, I.wp, getS0, getSs, Cn.w, List.set_cons_zero, List.set_cons_succ, wipeW, Bool.false_eq_true, if_false, if_true, tl2, lt_ii, le_ii, gt_ii, ge_ii, eq_ii, eq_ss, int_i, ne_ii, ne_bb, eq_bb, add_ii, sub_ii, mod_ii, add_tt, add_ll, optQ_s, decide_eq_true_eq, Bool.not_eq_true', decide_eq_false_iff_not, Bool.not_true, Bool.not_false, Bool.true_eq_false, not_true_eq_false, not_false_eq_true, b_law_rings_of_1b1b1b1e0t0]
                        refine ⟨by rw [vw_lst hP.hf]; rfl, ?_⟩
                        refine ⟨le_sz (Nat.le_of_ble_eq_true rfl), add_tI (m := [(k : Int)]) (le_sz (by simp only [List.length_cons, List.length_nil]; omega)) ?_⟩
                        refine ⟨_, hP.hf, sz1000 (by rw [List.length_map]; omega), ?_⟩
                        have h2 := hP.putF (hP.fk.snoc (r := pa ++ [(k : Int)]) (by omega) (by omega) hsn.ran)
                        rw [← ea] at h2
                        refine k2 _ _ ⟨⟨_, _, _, rfl⟩, _, _, h2, by omega, by rw [List.length_append, List.length_singleton]; omega⟩
                      · exact no
                    · exact no
          · clear hP0
            rintro t m ⟨⟨x5, x7, x8, rfl⟩, paths, fnd, hP, hA, hB2⟩
            rw [List.length_map] at hA hB2
            have m1 : ks.length * psi (pa.length + 1) ≤ (7 - pa.length) * psi (pa.length + 1) := Nat.mul_le_mul_right _ (by omega)
            have m2 : ks.length * max 1 (phi (pa.length + 1)) ≤ (7 - pa.length) * max 1 (phi (pa.length + 1)) := Nat.mul_le_mul_right _ (by omega)
            exact ⟨_, by omega, ⟨_, _, _, _, rfl⟩, paths, fnd, rfl, by omega, hP, by omega⟩
  · rintro t m ⟨⟨x3, x4, x5, x6, x7, x8, rfl⟩, found, hsub, hf, hfk, hfl⟩
    rw [rngW_len] at hfl
    simp only [SL.wp, S.wp, E.wp, C.wp, EL.wp, CO.wp, EO.wp, T.wp, TL.wp, I.wp, getS0, getSs, Cn.w, List.set_cons_zero, List.set_cons_succ, wipeW, Bool.false_eq_true, if_false, if_true, tl2, lt_ii, le_ii, gt_ii, ge_ii, eq_ii, eq_ss, int_i, ne_ii, ne_bb, eq_bb, add_ii, sub_ii, mod_ii, add_tt, add_ll, optQ_s, decide_eq_true_eq, Bool.not_eq_true', decide_eq_false_iff_not, Bool.not_true, Bool.not_false, Bool.true_eq_false, not_true_eq_false, not_false_eq_true, b_law_rings_of_2]
    exact ⟨_, mu, hsub, Fz.refL hf hqf (Fzs_refl _), hq found (by omega) hfk⟩
end FF

/-! Rings that go together; the deck of a script. -/
namespace FF
open PySem PySem.Spec PyProof.Rows L2
theorem isn_sv {n : Nat} {cs : List (Int × Int)} {th : Bool × List Rt} {mu : Mu} {Q : QW} (h : ∀ b, Q (.bl b) mu) : cmpR .IsNot (shownV n cs th) .non mu Q := by
  unfold shownV
  split
  · exact h true
  · exact h false
def sp_law_some_rings : SpW := fun ws mu Q => ∃ (a b : Addr) (n : Nat) (cs : List (Int × Int)) (rs : List (List Int)) (most : Nat), ws = [.ref a, webW n cs, .lst (rs.map tI), .int most] ∧ Web n cs ∧ RsOk n rs ∧ rs.length ≤ 6000 ∧ most ≤ 100 ∧ Dk a b mu ∧ ∀ found : List (List Int), RsOk n found → found.length ≤ most → ∀ mu', Dr a b mu mu' → Q (.tup (found.map tI)) mu'
theorem ok_law_some_rings (F : Fe) (h1 : F.fn "_law_turned" = sp_law_turned) (h2 : F.fn "_law_about" = sp_law_about) (h3 : F.fn "_law_shown_rings" = sp_shown_by_rings) : ∀ ws mu Q, sp_law_some_rings ws mu Q → ws.length = 4 ∧ (b_law_some_rings).wp F (endR Q) (startW n_law_some_rings ws) mu := by
  rintro ws mu Q ⟨a, b, n, cs, rs, most, rfl, hW, hR, hz, hm, hk, hq⟩
  refine ⟨rfl, ?_⟩
  show (b_law_some_rings).wp F (endR Q) [some (.ref a), some (webW n cs), some (.lst (rs.map tI)), some (.int most), none, none, none] mu
  simp only [SL.wp, S.wp, E.wp, C.wp, EL.wp, CO.wp, EO.wp, T.wp, TL.wp, I.wp, getS0, getSs, Cn.w, List.set_cons_zero, List.set_cons_succ, wipeW, Bool.false_eq_true, if_false, if_true, tl2, lt_ii, le_ii, gt_ii, ge_ii, eq_ii, eq_ss, int_i, ne_ii, ne_bb, eq_bb, add_ii, sub_ii, mod_ii, add_tt, add_ll, optQ_s, decide_eq_true_eq, Bool.not_eq_true', decide_eq_false_iff_not, Bool.not_true, Bool.not_false, Bool.true_eq_false, not_true_eq_false, not_false_eq_true, b_law_some_rings]
  refine ⟨le_sz (Nat.zero_le _), ?_⟩
  simp only [SL.wp, S.wp, E.wp, C.wp, EL.wp, CO.wp, EO.wp, T.wp, TL.wp, I.wp, getS0, getSs, Cn.w, List.set_cons_zero, List.set_cons_succ, wipeW, Bool.false_eq_true, if_false, if_true, tl2, lt_ii, le_ii, gt_ii, ge_ii, eq_ii, eq_ss, int_i, ne_ii, ne_bb, eq_bb, add_ii, sub_ii, mod_ii, add_tt, add_ll, optQ_s, decide_eq_true_eq, Bool.not_eq_true', decide_eq_false_iff_not, Bool.not_true, Bool.not_false, Bool.true_eq_false, not_true_eq_false, not_false_eq_true, b_law_some_rings_1, h1]
  refine ⟨a, b, _, rs.map tI, rfl, hk, by rw [List.length_map]; omega, rfl, fun zs hzs mu1 d1 => iter_lst ?_⟩
  refine forW_inv (fun i t m => Dr a b mu m ∧ ∃ x5 x6 found, t = [some (.ref a), some (webW n cs), some (.lst (rs.map tI)), some (.int most), some (.tup (found.map tI)), x5, x6] ∧ RsOk n found ∧ found.length ≤ most) ⟨d1, _, _, [], rfl, (fun _ h => (List.not_mem_nil h).elim), Nat.zero_le _⟩ (fun _ _ _ _ _ => True.intro) ?_ ?_
  · rintro i w t m R hw ⟨d, x5, x6, found, rfl, hf, hl⟩ kk
    obtain ⟨r, rfl, hr⟩ := take_tI (hzs.mem_iff.mp (List.mem_of_getElem? hw))
    obtain ⟨r4, r9, rr⟩ := hR r hr
    simp only [SL.wp, S.wp, E.wp, C.wp, EL.wp, CO.wp, EO.wp, T.wp, TL.wp, I.wp, getS0, getSs, Cn.w, List.set_cons_zero, List.set_cons_succ, wipeW, Bool.false_eq_true, if_false, if_true, tl2, lt_ii, le_ii, gt_ii, ge_ii, eq_ii, eq_ss, int_i, ne_ii, ne_bb, eq_bb, add_ii, sub_ii, mod_ii, add_tt, add_ll, optQ_s, decide_eq_true_eq, Bool.not_eq_true', decide_eq_false_iff_not, Bool.not_true, Bool.not_false, Bool.true_eq_false, not_true_eq_false, not_false_eq_true, b_law_some_rings_1b0, h2]
    refine ⟨a, b, r, rfl, d.dk, by omega, by omega, fun l hp m2 d2 => ?_⟩
    have d3 := d.trans d2
    have hl4 := hp.length_eq
    have hf2 : RsOk n (found ++ [l]) := hf.snoc (by omega) (by omega) fun x hx => rr x (hp.mem_iff.mp hx)
    refine ⟨le_sz (Nat.le_of_ble_eq_true rfl), by rw [List.length_map]; exact le_sz (by simp only [List.length_cons, List.length_nil]; omega), ?_⟩
    have e : found.map tI ++ [W.tup (l.map W.int)] = (found ++ [l]).map tI := by rw [List.map_append]; rfl
    rw [e]
    simp only [SL.wp, S.wp, E.wp, C.wp, EL.wp, CO.wp, EO.wp, T.wp, TL.wp, I.wp, getS0, getSs, Cn.w, List.set_cons_zero, List.set_cons_succ, wipeW, Bool.false_eq_true, if_false, if_true, tl2, lt_ii, le_ii, gt_ii, ge_ii, eq_ii, eq_ss, int_i, ne_ii, ne_bb, eq_bb, add_ii, sub_ii, mod_ii, add_tt, add_ll, optQ_s, decide_eq_true_eq, Bool.not_eq_true', decide_eq_false_iff_not, Bool.not_true, Bool.not_false, Bool.true_eq_false, not_true_eq_false, not_false_eq_true, b_law_some_rings_1b1, h3]
    have no : R [some (.ref a), some (webW n cs), some (.lst (rs.map tI)), some (.int most), some (.tup (found.map tI)), some (tI r), some (.tup ((found ++ [l]).map tI))] m2 := kk _ _ ⟨d3, _, _, found, rfl, hf, hl⟩
    refine len_tup ?_
    simp only [SL.wp, S.wp, E.wp, C.wp, EL.wp, CO.wp, EO.wp, T.wp, TL.wp, I.wp, getS0, getSs, Cn.w, List.set_cons_zero, List.set_cons_succ, wipeW, Bool.false_eq_true, if_false, if_true, tl2, lt_ii, le_ii, gt_ii, ge_ii, eq_ii, eq_ss, int_i, ne_ii, ne_bb, eq_bb, add_ii, sub_ii, mod_ii, add_tt, add_ll, optQ_s, decide_eq_true_eq, Bool.not_eq_true', decide_eq_false_iff_not, Bool.not_true, Bool.not_false, Bool.true_eq_false, not_true_eq_false, not_false_eq_true, List.length_map]
    split
    · rename_i hlt
      refine ⟨n, cs, (true, (found ++ [l]).map fun l => (true, l)), ?_, hW, by simp only [List.length_map, List.length_append, List.length_cons, List.length_nil]; omega, fun q hq => ?_, ?_⟩
      · rw [tI_rt]; rfl
      · obtain ⟨x, hx, rfl⟩ := List.mem_map.mp hq
        have := (hf2 x hx).2.1
        show x.length ≤ 1000
        omega
      · refine isn_sv fun c => ?_
        cases c with
        | false => exact no
        | true => exact kk _ _ ⟨d3, _, _, found ++ [l], rfl, hf2, by rw [List.length_append, List.length_singleton]; omega⟩
    · exact no
  · rintro t m ⟨d, x5, x6, found, rfl, hf, hl⟩
    simp only [SL.wp, S.wp, E.wp, C.wp, EL.wp, CO.wp, EO.wp, T.wp, TL.wp, I.wp, getS0, getSs, Cn.w, List.set_cons_zero, List.set_cons_succ, wipeW, Bool.false_eq_true, if_false, if_true, tl2, lt_ii, le_ii, gt_ii, ge_ii, eq_ii, eq_ss, int_i, ne_ii, ne_bb, eq_bb, add_ii, sub_ii, mod_ii, add_tt, add_ll, optQ_s, decide_eq_true_eq, Bool.not_eq_true', decide_eq_false_iff_not, Bool.not_true, Bool.not_false, Bool.true_eq_false, not_true_eq_false, not_false_eq_true, b_law_some_rings_2]
    exact ret_same (hq found hf hl m d)
/-! the deck -/
theorem sl_scr {ns : List Int} {k : Nat} {i : Int} {mu : Mu} {Q : QW} (e : i = (k : Int)) (hz : ns.length ≤ sizeLine) (h : ∀ p, mu p = none → Q (.ref p) (sett mu p (.lst ((ns.take k).map W.int)))) : slR true (.scr ns) none (some i) mu Q := by
  subst e
  show newL true (cutW (ns.map W.int) none (some (k : Int))) mu Q
  rw [cut_to, ← List.map_take]
  exact newL_t (by rw [List.length_map, List.length_take]; omega) h
def sp_law_deck : SpW := fun ws mu Q => ∃ ns : List Int, ws = [.scr ns] ∧ ns.length ≤ 63 ∧ ∀ a b mu', Dk a b mu' → (∀ c, c ≠ a → c ≠ b → mu' c = mu c) → Q (.ref a) mu'
theorem ok_law_deck (F : Fe) : ∀ ws mu Q, sp_law_deck ws mu Q → ws.length = 1 ∧ (b_law_deck).wp F (endR Q) (startW n_law_deck ws) mu := by
  rintro ws mu Q ⟨ns, rfl, hz, hq⟩
  refine ⟨rfl, ?_⟩
  show (b_law_deck).wp F (endR Q) [some (.scr ns), none, none, none, none] mu
  simp only [SL.wp, S.wp, E.wp, C.wp, EL.wp, CO.wp, EO.wp, T.wp, TL.wp, I.wp, getS0, getSs, Cn.w, List.set_cons_zero, List.set_cons_succ, wipeW, Bool.false_eq_true, if_false, if_true, tl2, lt_ii, le_ii, gt_ii, ge_ii, eq_ii, eq_ss, int_i, ne_ii, ne_bb, eq_bb, add_ii, sub_ii, mod_ii, add_tt, add_ll, optQ_s, decide_eq_true_eq, Bool.not_eq_true', decide_eq_false_iff_not, Bool.not_true, Bool.not_false, Bool.true_eq_false, not_true_eq_false, not_false_eq_true, b_law_deck]
  refine sl_scr (k := 63) rfl (le_sz (by omega)) fun p hp => ?_
  have e63 : ns.take 63 = ns := List.take_of_length_le hz
  rw [e63]
  have hs1 : Sub mu (sett mu p (.lst (ns.map W.int))) := (Sub.refl mu).sett hp
  have hm1 : sett mu p (.lst (ns.map W.int)) p = some (.lst (ns.map W.int)) := sett_same
  generalize sett mu p (.lst (ns.map W.int)) = m1 at hs1 hm1
  refine iter_own hm1 ?_
  intro q hq1
  refine comp_m hq1 id (by rw [List.length_map]; exact le_sz (by omega)) _ hm1 ?_ ?_
  · intro w m' G hw _ k
    obtain ⟨x, rfl, hx⟩ := take_ints hw
    simp only [SL.wp, S.wp, E.wp, C.wp, EL.wp, CO.wp, EO.wp, T.wp, TL.wp, I.wp, getS0, getSs, Cn.w, List.set_cons_zero, List.set_cons_succ, wipeW, Bool.false_eq_true, if_false, if_true, tl2, lt_ii, le_ii, gt_ii, ge_ii, eq_ii, eq_ss, int_i, ne_ii, ne_bb, eq_bb, add_ii, sub_ii, mod_ii, add_tt, add_ll, optQ_s, decide_eq_true_eq, Bool.not_eq_true', decide_eq_false_iff_not, Bool.not_true, Bool.not_false, Bool.true_eq_false, not_true_eq_false, not_false_eq_true]
    exact k
  · rw [List.map_id]
    have hs2 : Sub mu (sett m1 q (.lst (ns.map W.int))) := hs1.sett (sub_fresh hs1 hq1)
    have hm2 : sett m1 q (.lst (ns.map W.int)) q = some (.lst (ns.map W.int)) := sett_same
    generalize sett m1 q (.lst (ns.map W.int)) = m2 at hs2 hm2
    simp only [SL.wp, S.wp, E.wp, C.wp, EL.wp, CO.wp, EO.wp, T.wp, TL.wp, I.wp, getS0, getSs, Cn.w, List.set_cons_zero, List.set_cons_succ, wipeW, Bool.false_eq_true, if_false, if_true, tl2, lt_ii, le_ii, gt_ii, ge_ii, eq_ii, eq_ss, int_i, ne_ii, ne_bb, eq_bb, add_ii, sub_ii, mod_ii, add_tt, add_ll, optQ_s, decide_eq_true_eq, Bool.not_eq_true', decide_eq_false_iff_not, Bool.not_true, Bool.not_false, Bool.true_eq_false, not_true_eq_false, not_false_eq_true, b_law_deck_1]
    refine len_vw (vw_lst hm2) ?_
    refine mul_ii (.inl (by omega)) ?_
    simp only [SL.wp, S.wp, E.wp, C.wp, EL.wp, CO.wp, EO.wp, T.wp, TL.wp, I.wp, getS0, getSs, Cn.w, List.set_cons_zero, List.set_cons_succ, wipeW, Bool.false_eq_true, if_false, if_true, tl2, lt_ii, le_ii, gt_ii, ge_ii, eq_ii, eq_ss, int_i, ne_ii, ne_bb, eq_bb, add_ii, sub_ii, mod_ii, add_tt, add_ll, optQ_s, decide_eq_true_eq, Bool.not_eq_true', decide_eq_false_iff_not, Bool.not_true, Bool.not_false, Bool.true_eq_false, not_true_eq_false, not_false_eq_true]
    refine ⟨ns.map W.int, by unfold itemsOf; rw [vw_lst hm2], ?_⟩
    have hsr : stays (srcOf m2 (.ref q)) m2 := by
      have : srcOf m2 (.ref q) = .own q (ns.map W.int) := by unfold srcOf; simp only [hm2]
      rw [this]; exact hm2
    intro r hr
    refine compW_inv (fun i acc m => ∃ is : List Int, acc = is.map W.int ∧ is.length = i ∧ m = sett m2 r (.lst acc)) ⟨[], rfl, rfl, rfl⟩ ?_ ?_ ?_
    · rintro i acc m _ ⟨is, _, _, rfl⟩
      have hqr : q ≠ r := fun z => by rw [← z, hm2] at hr; cases hr
      refine ⟨?_, sett_same⟩
      have : srcOf m2 (.ref q) = .own q (ns.map W.int) := by unfold srcOf; simp only [hm2]
      rw [this]
      show sett m2 r _ q = _
      rw [sett_ne hqr]; exact hm2
    · rintro i w acc m R hw ⟨is, rfl, hl, rfl⟩ kk
      obtain ⟨w1, hw1, rfl⟩ := enuW_get _ _ _ _ hw
      rw [List.getElem?_map] at hw1
      cases ex : ns[i]? with
      | none => rw [ex] at hw1; cases hw1
      | some x =>
        rw [ex] at hw1; cases hw1
        have hi : i < ns.length := (List.getElem?_eq_some_iff.mp ex).1
        refine ⟨rfl, ?_⟩
        simp only [SL.wp, S.wp, E.wp, C.wp, EL.wp, CO.wp, EO.wp, T.wp, TL.wp, I.wp, getS0, getSs, Cn.w, List.set_cons_zero, List.set_cons_succ, wipeW, Bool.false_eq_true, if_false, if_true, tl2, lt_ii, le_ii, gt_ii, ge_ii, eq_ii, eq_ss, int_i, ne_ii, ne_bb, eq_bb, add_ii, sub_ii, mod_ii, add_tt, add_ll, optQ_s, decide_eq_true_eq, Bool.not_eq_true', decide_eq_false_iff_not, Bool.not_true, Bool.not_false, Bool.true_eq_false, not_true_eq_false, not_false_eq_true, Nat.zero_add]
        refine ⟨by decide, ?_⟩
        obtain ⟨g0, g1⟩ := fmod_rng x (m := 1000003) (by omega)
        refine mul_ii (.inl (by omega)) ?_
        exact ⟨sett_same, sz1000 (by rw [List.length_map]; omega), kk _ _ ⟨is ++ [_], by rw [List.map_append]; rfl, by rw [List.length_append, hl]; rfl, sett_sett⟩⟩
    · rintro acc m ⟨is, rfl, hl, rfl⟩
      refine ⟨is.map W.int, is, by unfold lstOf; rw [vw_lst sett_same], intsOf_map is, ?_⟩
      have hs3 : Sub mu (sett m2 r (.lst (is.map W.int))) := hs2.sett (sub_fresh hs2 hr)
      have hqr : q ≠ r := fun z => by rw [← z, hm2] at hr; cases hr
      have hm3 : sett m2 r (.lst (is.map W.int)) q = some (.lst (ns.map W.int)) := by rw [sett_ne hqr]; exact hm2
      generalize sett m2 r (.lst (is.map W.int)) = m3 at hs3 hm3
      simp only [SL.wp, S.wp, E.wp, C.wp, EL.wp, CO.wp, EO.wp, T.wp, TL.wp, I.wp, getS0, getSs, Cn.w, List.set_cons_zero, List.set_cons_succ, wipeW, Bool.false_eq_true, if_false, if_true, tl2, lt_ii, le_ii, gt_ii, ge_ii, eq_ii, eq_ss, int_i, ne_ii, ne_bb, eq_bb, add_ii, sub_ii, mod_ii, add_tt, add_ll, optQ_s, decide_eq_true_eq, Bool.not_eq_true', decide_eq_false_iff_not, Bool.not_true, Bool.not_false, Bool.true_eq_false, not_true_eq_false, not_false_eq_true, b_law_deck_2]
      generalize (43 * (((ns.map W.int).length : Nat) : Int) + 64 + is.sum) = seed
      refine ⟨.inl rfl, ?_⟩
      rw [vw_lst hm3]
      refine ⟨rfl, newL_t (by show (ns.map W.int).reverse.length ≤ sizeLine; rw [List.length_reverse, List.length_map]; exact le_sz (by omega)) fun b hb => ?_⟩
      have er : stepW (-1) (ns.map W.int) = ns.reverse.map W.int := by
        unfold stepW
        rw [if_pos rfl, ← List.map_reverse]
      rw [er]
      refine newL_t (Nat.le_of_ble_eq_true rfl |> le_sz) fun a ha => ?_
      have hb0 := sub_fresh hs3 hb
      have hab : a ≠ b := fun z => by rw [z, sett_same] at ha; cases ha
      have ha3 : m3 a = none := by rw [sett_ne hab] at ha; exact ha
      have ha0 := sub_fresh hs3 ha3
      refine ⟨.ref a, fun c => if c = a ∨ c = b then sett (sett m3 b (.lst (ns.reverse.map W.int))) a (.lst [.ref b, .int seed, .int 0]) c else mu c, fun c => ?_, .same _, hq a b _ ⟨hab, ns.reverse, seed, 0, ?_, ?_, by rw [List.length_reverse]; omega⟩ fun c h1 h2 => if_neg (fun (z : c = a ∨ c = b) => z.elim h1 h2)⟩
      · by_cases e : c = a ∨ c = b
        · exact .inl (if_pos e)
        · show (if c = a ∨ c = b then _ else mu c) = _ ∨ (if c = a ∨ c = b then _ else mu c) = none
          rw [if_neg e, sett_ne (fun z => e (.inl z)), sett_ne (fun z => e (.inr z))]
          exact hs3 c
      · show (if a = a ∨ a = b then _ else mu a) = _
        rw [if_pos (.inl rfl), sett_same]
      · show (if b = a ∨ b = b then _ else mu b) = _
        rw [if_pos (.inr rfl), sett_ne (Ne.symm hab), sett_same]
end FF

/-! Things that are rings, or are not. -/
namespace FF
open PySem PySem.Spec PyProof.Rows L2
def RtG (n : Nat) (w : W) : Prop := ∃ r : Rt, w = rtW r ∧ r.2.length ≤ 20 ∧ ∀ x ∈ r.2, 0 ≤ x ∧ x < (n : Int)
def AllR (n : Nat) (ws : List W) : Prop := ∀ w ∈ ws, RtG n w
def ThOk (n : Nat) (th : Bool × List Rt) : Prop := th.2.length ≤ 10000 ∧ ∀ r ∈ th.2, r.2.length ≤ 20 ∧ ∀ x ∈ r.2, 0 ≤ x ∧ x < (n : Int)
def ThG (n : Nat) (w : W) : Prop := ∃ th, w = thW th ∧ ThOk n th
theorem allR_rts {n : Nat} : ∀ {ws : List W}, AllR n ws → ∃ rs : List Rt, ws = rs.map rtW ∧ ∀ r ∈ rs, r.2.length ≤ 20 ∧ ∀ x ∈ r.2, 0 ≤ x ∧ x < (n : Int)
  | [], _ => ⟨[], rfl, fun _ h => (List.not_mem_nil h).elim⟩
  | w :: ws, h => by
    obtain ⟨rs, rfl, hr⟩ := allR_rts fun v hv => h v (List.mem_cons_of_mem _ hv)
    obtain ⟨r, rfl, h1⟩ := h w List.mem_cons_self
    refine ⟨r :: rs, rfl, fun q hq => ?_⟩
    rcases List.mem_cons.mp hq with rfl | hq
    · exact h1
    · exact hr q hq
theorem ThG.t {n : Nat} {ws : List W} (h : AllR n ws) (hz : ws.length ≤ 10000) : ThG n (.tup ws) := by
  obtain ⟨rs, rfl, hr⟩ := allR_rts h
  rw [List.length_map] at hz
  exact ⟨(true, rs), rfl, hz, hr⟩
theorem ThG.l {n : Nat} {ws : List W} (h : AllR n ws) (hz : ws.length ≤ 10000) : ThG n (.lst ws) := by
  obtain ⟨rs, rfl, hr⟩ := allR_rts h
  rw [List.length_map] at hz
  exact ⟨(false, rs), rfl, hz, hr⟩
theorem AllR.nil {n : Nat} : AllR n [] := fun _ h => (List.not_mem_nil h).elim
theorem AllR.app {n : Nat} {a b : List W} (h : AllR n a) (k : AllR n b) : AllR n (a ++ b) := fun w hw => (List.mem_append.mp hw).elim (h w) (k w)
theorem AllR.one {n : Nat} {w : W} (h : RtG n w) : AllR n [w] := fun v hv => by rw [List.mem_singleton.mp hv]; exact h
theorem AllR.sub {n : Nat} {a b : List W} (h : AllR n a) (k : ∀ w ∈ b, w ∈ a) : AllR n b := fun w hw => h w (k w hw)
/-- places, few enough -/
def Fit (n : Nat) (N : Nat) (l : List Int) : Prop := l.length ≤ N ∧ ∀ x ∈ l, 0 ≤ x ∧ x < (n : Int)
theorem Fit.app {n N M : Nat} {l m : List Int} (h : Fit n N l) (k : Fit n M m) : Fit n (N + M) (l ++ m) :=
  ⟨by rw [List.length_append]; exact Nat.add_le_add h.1 k.1, fun x hx => (List.mem_append.mp hx).elim (h.2 x) (k.2 x)⟩
theorem Fit.sub {n N : Nat} {l m : List Int} (h : Fit n N l) (hl : m.length ≤ l.length) (k : ∀ x ∈ m, x ∈ l) : Fit n N m := ⟨Nat.le_trans hl h.1, fun x hx => h.2 x (k x hx)⟩
theorem Fit.up {n N M : Nat} {l : List Int} (h : Fit n N l) (hl : N ≤ M) : Fit n M l := ⟨Nat.le_trans h.1 hl, h.2⟩
theorem Fit.take {n N : Nat} {l : List Int} (h : Fit n N l) (k : Nat) : Fit n N (l.take k) := h.sub (by rw [List.length_take]; omega) fun x hx => List.mem_of_mem_take hx
theorem Fit.drop {n N : Nat} {l : List Int} (h : Fit n N l) (k : Nat) : Fit n N (l.drop k) := h.sub (by rw [List.length_drop]; omega) fun x hx => List.mem_of_mem_drop hx
theorem Fit.rt {n : Nat} {l : List Int} (h : Fit n 20 l) : RtG n (tI l) := ⟨(true, l), rfl, h⟩
theorem Fit.rl {n : Nat} {l : List Int} (h : Fit n 20 l) : RtG n (.lst (l.map W.int)) := ⟨(false, l), rfl, h⟩
def evI : List Int → List Int
  | [] => []
  | [a] => [a]
  | a :: _ :: r => a :: evI r
theorem evI_W : ∀ l : List Int, evry2 (l.map W.int) = (evI l).map W.int
  | [] => rfl
  | [_] => rfl
  | a :: _ :: r => by
    simp only [List.map_cons, evry2, evI, evI_W r]
theorem evI_len : ∀ l : List Int, (evI l).length ≤ l.length
  | [] => Nat.le_refl _
  | [_] => Nat.le_refl _
  | a :: _ :: r => by
    have := evI_len r
    simp only [evI, List.length_cons]
    omega
theorem evI_mem : ∀ (l : List Int) (x : Int), x ∈ evI l → x ∈ l
  | [], _, h => h
  | [_], _, h => h
  | a :: b :: r, x, h => by
    simp only [evI, List.mem_cons] at h ⊢
    exact h.elim .inl fun h => .inr (.inr (evI_mem r x h))
section
variable {l m : List Int} {ws vs : List W} {k : Nat} {i : Int} {own : Bool} {mu : Mu} {Q : QW}
theorem slI_to (e : i = (k : Int)) (h : Q (tI (l.take k)) mu) : slR own (tI l) none (some i) mu Q := by
  refine slT_to e ?_
  rw [← List.map_take]; exact h
theorem slI_from (e : i = (k : Int)) (h : Q (tI (l.drop k)) mu) : slR own (tI l) (some i) none mu Q := by
  refine slT_from e ?_
  rw [← List.map_drop]; exact h
theorem slI_last (h : Q (tI l.dropLast) mu) : slR own (tI l) none (some (-1)) mu Q := by
  refine slT_last ?_
  rw [← List.map_dropLast]; exact h
theorem sstI_2 (h : Q (tI (evI l)) mu) : sstR own (tI l) 2 mu Q := by
  refine ⟨.inr rfl, ?_⟩
  show Q (.tup (stepW 2 (l.map W.int))) mu
  unfold stepW
  rw [if_neg (by decide), evI_W]; exact h
theorem add_II (hz : l.length + m.length ≤ sizeLine) (h : Q (tI (l ++ m)) mu) : binR .Add (tI l) (tI m) mu Q := add_tI hz h
theorem tup_lE : bifR .tuple [.lst ws] mu Q = Q (.tup ws) mu := rfl
theorem tup_tE : bifR .tuple [.tup ws] mu Q = Q (.tup ws) mu := rfl
end
theorem ne_nilL {rs : List (List Int)} {mu : Mu} {Q : QW} (h : Q (.bl (!decide (rs = []))) mu) : cmpR .NotEq (.lst (rs.map tI)) (.lst []) mu Q := by
  rw [tI_rt]
  refine ne_nilR ?_
  have : decide ((rs.map fun l => (true, l)) = ([] : List Rt)) = decide (rs = []) := by
    cases rs <;> simp
  rw [this]; exact h
def sp_law_ring_things : SpW := fun ws mu Q => ∃ (a b : Addr) (n : Nat) (cs : List (Int × Int)) (rs : List (List Int)), ws = [.ref a, webW n cs, .lst (rs.map tI)] ∧ 0 < n ∧ n ≤ 32 ∧ RsOk n rs ∧ rs.length ≤ 6000 ∧ Dk a b mu ∧ ∀ xs : List W, (∀ w ∈ xs, ThG n w) → xs.length ≤ 20 → ∀ mu', Dr a b mu mu' → Q (.lst xs) mu'
theorem ok_law_ring_things (F : Fe) (h1 : F.fn "_law_turned" = sp_law_turned) (h2 : F.fn "_law_about" = sp_law_about) (h3 : F.fn "_law_draw" = sp_law_draw) (h4 : F.fn "_law_pick" = sp_law_pick) : ∀ ws mu Q, sp_law_ring_things ws mu Q → ws.length = 3 ∧ (b_law_ring_things).wp F (endR Q) (startW n_law_ring_things ws) mu := by
  rintro ws mu Q ⟨a, b, n, cs, rs, rfl, hn0, hn, hR, hz, hk, hq⟩
  refine ⟨rfl, ?_⟩
  show (b_law_ring_things).wp F (endR Q) [some (.ref a), some (webW n cs), some (.lst (rs.map tI)), none, none, none, none, none, none] mu
  simp only [SL.wp, S.wp, E.wp, C.wp, EL.wp, CO.wp, EO.wp, T.wp, TL.wp, I.wp, getS0, getSs, Cn.w, List.set_cons_zero, List.set_cons_succ, wipeW, Bool.false_eq_true, if_false, if_true, tl2, lt_ii, le_ii, gt_ii, ge_ii, eq_ii, eq_ss, int_i, ne_ii, ne_bb, eq_bb, add_ii, sub_ii, mod_ii, add_tt, add_ll, optQ_s, decide_eq_true_eq, Bool.not_eq_true', decide_eq_false_iff_not, Bool.not_true, Bool.not_false, Bool.true_eq_false, not_true_eq_false, not_false_eq_true, b_law_ring_things, h1, h2]
  refine ⟨a, b, _, rs.map tI, rfl, hk, by rw [List.length_map]; omega, rfl, fun zs hzs mu1 d1 => iter_lst ?_⟩
  have hzl := hzs.length_eq
  rw [List.length_map] at hzl
  intro p hp
  have hpa := d1.dk.na hp
  have hp0 : mu p = none := by rw [← d1.fr p hpa.1 hpa.2]; exact hp
  refine compW_inv (fun i acc m => Dg a b mu m ∧ m p = some (.lst acc) ∧ ∃ ls : List (List Int), acc = ls.map tI ∧ RsOk n ls ∧ ls.length = i) ⟨((Dg.refl hk).draw d1).sett hp0, sett_same, [], rfl, (fun _ h => (List.not_mem_nil h).elim), rfl⟩ (fun i acc m _ h => ⟨True.intro, h.2.1⟩) ?_ ?_
  · rintro i w acc m R hw ⟨d, hm, ls, rfl, hls, hll⟩ kk
    obtain ⟨r, rfl, hr⟩ := take_tI (hzs.mem_iff.mp (List.mem_of_getElem? hw))
    obtain ⟨r4, r9, rr⟩ := hR r hr
    have hi : i < zs.length := (List.getElem?_eq_some_iff.mp hw).1
    simp only [SL.wp, S.wp, E.wp, C.wp, EL.wp, CO.wp, EO.wp, T.wp, TL.wp, I.wp, getS0, getSs, Cn.w, List.set_cons_zero, List.set_cons_succ, wipeW, Bool.false_eq_true, if_false, if_true, tl2, lt_ii, le_ii, gt_ii, ge_ii, eq_ii, eq_ss, int_i, ne_ii, ne_bb, eq_bb, add_ii, sub_ii, mod_ii, add_tt, add_ll, optQ_s, decide_eq_true_eq, Bool.not_eq_true', decide_eq_false_iff_not, Bool.not_true, Bool.not_false, Bool.true_eq_false, not_true_eq_false, not_false_eq_true, h2]
    refine ⟨a, b, r, rfl, d.k1, by omega, by omega, fun l hpm m2 d2 => ?_⟩
    have hl4 := hpm.length_eq
    refine ⟨by rw [d2.fr p hpa.1 hpa.2]; exact hm, sz1000 (by rw [List.length_map]; omega), kk _ _ ⟨(d.draw d2).sett hp0, sett_same, ls ++ [l], by rw [List.map_append]; rfl, hls.snoc (by omega) (by omega) fun x hx => rr x (hpm.mem_iff.mp hx), by rw [List.length_append, hll]; rfl⟩⟩
  · rintro acc m ⟨d, hm, ls, rfl, hls, hll⟩
    have hd := d.dell hp0
    generalize dell m p = m0 at hd
    have hll : ls.length ≤ 6000 := by omega
    have hA : AllR n (ls.map tI) := fun w hw => by
      obtain ⟨l, rfl, hl⟩ := take_tI hw
      have := hls l hl
      exact Fit.rt ⟨by omega, this.2.2⟩
    simp only [SL.wp, S.wp, E.wp, C.wp, EL.wp, CO.wp, EO.wp, T.wp, TL.wp, I.wp, getS0, getSs, Cn.w, List.set_cons_zero, List.set_cons_succ, wipeW, Bool.false_eq_true, if_false, if_true, tl2, lt_ii, le_ii, gt_ii, ge_ii, eq_ii, eq_ss, int_i, ne_ii, ne_bb, eq_bb, add_ii, sub_ii, mod_ii, add_tt, add_ll, optQ_s, decide_eq_true_eq, Bool.not_eq_true', decide_eq_false_iff_not, Bool.not_true, Bool.not_false, Bool.true_eq_false, not_true_eq_false, not_false_eq_true, b_law_ring_things_1, h3]
    refine len_lst ?_
    simp only [SL.wp, S.wp, E.wp, C.wp, EL.wp, CO.wp, EO.wp, T.wp, TL.wp, I.wp, getS0, getSs, Cn.w, List.set_cons_zero, List.set_cons_succ, wipeW, Bool.false_eq_true, if_false, if_true, tl2, lt_ii, le_ii, gt_ii, ge_ii, eq_ii, eq_ss, int_i, ne_ii, ne_bb, eq_bb, add_ii, sub_ii, mod_ii, add_tt, add_ll, optQ_s, decide_eq_true_eq, Bool.not_eq_true', decide_eq_false_iff_not, Bool.not_true, Bool.not_false, Bool.true_eq_false, not_true_eq_false, not_false_eq_true, List.length_map]
    refine ⟨a, b, _, rfl, by omega, by omega, hd.k1, fun r m1 r0 r1 d2 => ?_⟩
    obtain ⟨kf, rfl⟩ : ∃ kf : Nat, r = (kf : Int) := ⟨r.toNat, by omega⟩
    simp only [SL.wp, S.wp, E.wp, C.wp, EL.wp, CO.wp, EO.wp, T.wp, TL.wp, I.wp, getS0, getSs, Cn.w, List.set_cons_zero, List.set_cons_succ, wipeW, Bool.false_eq_true, if_false, if_true, tl2, lt_ii, le_ii, gt_ii, ge_ii, eq_ii, eq_ss, int_i, ne_ii, ne_bb, eq_bb, add_ii, sub_ii, mod_ii, add_tt, add_ll, optQ_s, decide_eq_true_eq, Bool.not_eq_true', decide_eq_false_iff_not, Bool.not_true, Bool.not_false, Bool.true_eq_false, not_true_eq_false, not_false_eq_true]
    refine sl_to (k := kf) rfl (le_sz (by rw [List.length_map]; omega)) (newL_f (Nat.zero_le _) ?_)
    simp only [SL.wp, S.wp, E.wp, C.wp, EL.wp, CO.wp, EO.wp, T.wp, TL.wp, I.wp, getS0, getSs, Cn.w, List.set_cons_zero, List.set_cons_succ, wipeW, Bool.false_eq_true, if_false, if_true, tl2, lt_ii, le_ii, gt_ii, ge_ii, eq_ii, eq_ss, int_i, ne_ii, ne_bb, eq_bb, add_ii, sub_ii, mod_ii, add_tt, add_ll, optQ_s, decide_eq_true_eq, Bool.not_eq_true', decide_eq_false_iff_not, Bool.not_true, Bool.not_false, Bool.true_eq_false, not_true_eq_false, not_false_eq_true, parT]
    have hd1 := hd.draw d2
    have hF : AllR n ((ls.map tI).take kf) := hA.sub fun w hw => List.mem_of_mem_take hw
    have hFl : ((ls.map tI).take kf).length ≤ 6000 := by rw [List.length_take, List.length_map]; omega
    generalize (ls.map tI).take kf = fs at hF hFl
    have rest : ∀ (o : List Int) m, Dg a b mu m → Fit n 9 o → (b_law_ring_things_3).wp F (endR Q) [some (.ref a), some (webW n cs), some (.lst (rs.map tI)), some (.lst (ls.map tI)), none, some (.lst fs), some (.lst []), some (tI o), none] m := by
      intro o m hdm ho
      have ho9 := ho.1
      have one : ∀ w, RtG n w → ThG n (.tup (fs ++ [w])) := fun w hw => ThG.t (hF.app (.one hw)) (by rw [List.length_append, List.length_singleton]; omega)
      have sz1 : ∀ w : W, fs.length + [w].length ≤ sizeLine := fun w => le_sz (by simp only [List.length_cons, List.length_nil]; omega)
      have lsz : (ls.map tI).length ≤ sizeLine := le_sz (by rw [List.length_map]; omega)
      have ht1 : ((ls.map tI).take 1).length ≤ 1 := by rw [List.length_take]; omega
      simp only [SL.wp, S.wp, E.wp, C.wp, EL.wp, CO.wp, EO.wp, T.wp, TL.wp, I.wp, getS0, getSs, Cn.w, List.set_cons_zero, List.set_cons_succ, wipeW, Bool.false_eq_true, if_false, if_true, tl2, lt_ii, le_ii, gt_ii, ge_ii, eq_ii, eq_ss, int_i, ne_ii, ne_bb, eq_bb, add_ii, sub_ii, mod_ii, add_tt, add_ll, optQ_s, decide_eq_true_eq, Bool.not_eq_true', decide_eq_false_iff_not, Bool.not_true, Bool.not_false, Bool.true_eq_false, not_true_eq_false, not_false_eq_true, b_law_ring_things_3, tup_lE]
      refine ⟨le_sz (Nat.zero_le _), ?_⟩
      refine sl_to (k := 1) rfl lsz ?_
      simp only [SL.wp, S.wp, E.wp, C.wp, EL.wp, CO.wp, EO.wp, T.wp, TL.wp, I.wp, getS0, getSs, Cn.w, List.set_cons_zero, List.set_cons_succ, wipeW, Bool.false_eq_true, if_false, if_true, tl2, lt_ii, le_ii, gt_ii, ge_ii, eq_ii, eq_ss, int_i, ne_ii, ne_bb, eq_bb, add_ii, sub_ii, mod_ii, add_tt, add_ll, optQ_s, decide_eq_true_eq, Bool.not_eq_true', decide_eq_false_iff_not, Bool.not_true, Bool.not_false, Bool.true_eq_false, not_true_eq_false, not_false_eq_true]
      refine ⟨le_sz (by omega), sl_to (k := 1) rfl lsz ?_⟩
      simp only [SL.wp, S.wp, E.wp, C.wp, EL.wp, CO.wp, EO.wp, T.wp, TL.wp, I.wp, getS0, getSs, Cn.w, List.set_cons_zero, List.set_cons_succ, wipeW, Bool.false_eq_true, if_false, if_true, tl2, lt_ii, le_ii, gt_ii, ge_ii, eq_ii, eq_ss, int_i, ne_ii, ne_bb, eq_bb, add_ii, sub_ii, mod_ii, add_tt, add_ll, optQ_s, decide_eq_true_eq, Bool.not_eq_true', decide_eq_false_iff_not, Bool.not_true, Bool.not_false, Bool.true_eq_false, not_true_eq_false, not_false_eq_true]
      refine ⟨by rw [List.length_append]; exact le_sz (by omega), ?_⟩
      try simp only [SL.wp, S.wp, E.wp, C.wp, EL.wp, CO.wp, EO.wp, T.wp, TL.wp, I.wp, getS0, getSs, Cn.w, List.set_cons_zero, List.set_cons_succ, wipeW, Bool.false_eq_true, if_false, if_true, tl2, lt_ii, le_ii, gt_ii, ge_ii, eq_ii, eq_ss, int_i, ne_ii, ne_bb, eq_bb, add_ii, sub_ii, mod_ii, add_tt, add_ll, optQ_s, decide_eq_true_eq, Bool.not_eq_true', decide_eq_false_iff_not, Bool.not_true, Bool.not_false, Bool.true_eq_false, not_true_eq_false, not_false_eq_true, tup_lE]
      refine slI_last ⟨le_sz (Nat.le_of_ble_eq_true rfl), sz1 _, ?_⟩
      refine sstI_2 ⟨le_sz (Nat.le_of_ble_eq_true rfl), sz1 _, ?_⟩
      refine newL_f (le_sz (Nat.le_of_ble_eq_true rfl)) ?_
      have g1 := ThG.t hA (by rw [List.length_map]; omega)
      have g2 := ThG.t hF (by omega)
      have g3 : ThG n (.tup []) := ThG.t .nil (Nat.zero_le _)
      have g4 : ThG n (.tup (fs ++ (ls.map tI).take 1 ++ (ls.map tI).take 1)) := ThG.t ((hF.app (hA.sub fun w hw => List.mem_of_mem_take hw)).app (hA.sub fun w hw => List.mem_of_mem_take hw)) (by rw [List.length_append, List.length_append]; omega)
      have g5 := one _ (Fit.rt ((ho.sub (m := o.dropLast) (by rw [List.length_dropLast]; omega) fun x hx => by rw [List.dropLast_eq_take] at hx; exact List.mem_of_mem_take hx).up (by omega)))
      have g6 := one _ (Fit.rt ((ho.sub (evI_len o) (evI_mem o)).up (by omega)))
      simp only [SL.wp, S.wp, E.wp, C.wp, EL.wp, CO.wp, EO.wp, T.wp, TL.wp, I.wp, getS0, getSs, Cn.w, List.set_cons_zero, List.set_cons_succ, wipeW, Bool.false_eq_true, if_false, if_true, tl2, lt_ii, le_ii, gt_ii, ge_ii, eq_ii, eq_ss, int_i, ne_ii, ne_bb, eq_bb, add_ii, sub_ii, mod_ii, add_tt, add_ll, optQ_s, decide_eq_true_eq, Bool.not_eq_true', decide_eq_false_iff_not, Bool.not_true, Bool.not_false, Bool.true_eq_false, not_true_eq_false, not_false_eq_true, b_law_ring_things_4, tup_lE]
      refine slI_to (k := 1) rfl ?_
      refine add_II (le_sz (by rw [List.length_take]; omega)) ⟨le_sz (Nat.le_of_ble_eq_true rfl), ?_⟩
      try simp only [SL.wp, S.wp, E.wp, C.wp, EL.wp, CO.wp, EO.wp, T.wp, TL.wp, I.wp, getS0, getSs, Cn.w, List.set_cons_zero, List.set_cons_succ, wipeW, Bool.false_eq_true, if_false, if_true, tl2, lt_ii, le_ii, gt_ii, ge_ii, eq_ii, eq_ss, int_i, ne_ii, ne_bb, eq_bb, add_ii, sub_ii, mod_ii, add_tt, add_ll, optQ_s, decide_eq_true_eq, Bool.not_eq_true', decide_eq_false_iff_not, Bool.not_true, Bool.not_false, Bool.true_eq_false, not_true_eq_false, not_false_eq_true, tup_lE]
      refine ⟨sz1 _, _, rfl, newL_f lsz ⟨_, rfl, newL_f (by rw [List.length_map]; exact le_sz (by omega)) ⟨le_sz (Nat.le_of_ble_eq_true rfl), ?_⟩⟩⟩
      try simp only [SL.wp, S.wp, E.wp, C.wp, EL.wp, CO.wp, EO.wp, T.wp, TL.wp, I.wp, getS0, getSs, Cn.w, List.set_cons_zero, List.set_cons_succ, wipeW, Bool.false_eq_true, if_false, if_true, tl2, lt_ii, le_ii, gt_ii, ge_ii, eq_ii, eq_ss, int_i, ne_ii, ne_bb, eq_bb, add_ii, sub_ii, mod_ii, add_tt, add_ll, optQ_s, decide_eq_true_eq, Bool.not_eq_true', decide_eq_false_iff_not, Bool.not_true, Bool.not_false, Bool.true_eq_false, not_true_eq_false, not_false_eq_true, tup_lE]
      refine ⟨sz1 _, slI_to (k := 3) rfl ⟨le_sz (Nat.le_of_ble_eq_true rfl), ?_⟩⟩
      try simp only [SL.wp, S.wp, E.wp, C.wp, EL.wp, CO.wp, EO.wp, T.wp, TL.wp, I.wp, getS0, getSs, Cn.w, List.set_cons_zero, List.set_cons_succ, wipeW, Bool.false_eq_true, if_false, if_true, tl2, lt_ii, le_ii, gt_ii, ge_ii, eq_ii, eq_ss, int_i, ne_ii, ne_bb, eq_bb, add_ii, sub_ii, mod_ii, add_tt, add_ll, optQ_s, decide_eq_true_eq, Bool.not_eq_true', decide_eq_false_iff_not, Bool.not_true, Bool.not_false, Bool.true_eq_false, not_true_eq_false, not_false_eq_true, tup_lE]
      refine ⟨sz1 _, sst_l lsz ?_⟩
      try simp only [SL.wp, S.wp, E.wp, C.wp, EL.wp, CO.wp, EO.wp, T.wp, TL.wp, I.wp, getS0, getSs, Cn.w, List.set_cons_zero, List.set_cons_succ, wipeW, Bool.false_eq_true, if_false, if_true, tl2, lt_ii, le_ii, gt_ii, ge_ii, eq_ii, eq_ss, int_i, ne_ii, ne_bb, eq_bb, add_ii, sub_ii, mod_ii, add_tt, add_ll, optQ_s, decide_eq_true_eq, Bool.not_eq_true', decide_eq_false_iff_not, Bool.not_true, Bool.not_false, Bool.true_eq_false, not_true_eq_false, not_false_eq_true, tup_lE]
      refine newL_f (le_sz (Nat.le_of_ble_eq_true rfl)) ⟨le_sz (Nat.le_of_ble_eq_true rfl), ?_⟩
      have g7 := one _ (Fit.rt ((ho.app (ho.take 1)).up (by omega)))
      have g8 := ThG.l hA (by rw [List.length_map]; omega)
      have g9 := one _ (Fit.rl (ho.up (by omega)))
      have g10 := one _ (Fit.rt ((ho.take 3).up (by omega)))
      have g11 : ThG n (.tup (ls.map tI).reverse) := ThG.t (hA.sub fun w hw => List.mem_reverse.mp hw) (by rw [List.length_reverse, List.length_map]; omega)
      simp only [SL.wp, S.wp, E.wp, C.wp, EL.wp, CO.wp, EO.wp, T.wp, TL.wp, I.wp, getS0, getSs, Cn.w, List.set_cons_zero, List.set_cons_succ, wipeW, Bool.false_eq_true, if_false, if_true, tl2, lt_ii, le_ii, gt_ii, ge_ii, eq_ii, eq_ss, int_i, ne_ii, ne_bb, eq_bb, add_ii, sub_ii, mod_ii, add_tt, add_ll, optQ_s, decide_eq_true_eq, Bool.not_eq_true', decide_eq_false_iff_not, Bool.not_true, Bool.not_false, Bool.true_eq_false, not_true_eq_false, not_false_eq_true, b_law_ring_things_5, h3]
      refine len_tI ?_
      simp only [SL.wp, S.wp, E.wp, C.wp, EL.wp, CO.wp, EO.wp, T.wp, TL.wp, I.wp, getS0, getSs, Cn.w, List.set_cons_zero, List.set_cons_succ, wipeW, Bool.false_eq_true, if_false, if_true, tl2, lt_ii, le_ii, gt_ii, ge_ii, eq_ii, eq_ss, int_i, ne_ii, ne_bb, eq_bb, add_ii, sub_ii, mod_ii, add_tt, add_ll, optQ_s, decide_eq_true_eq, Bool.not_eq_true', decide_eq_false_iff_not, Bool.not_true, Bool.not_false, Bool.true_eq_false, not_true_eq_false, not_false_eq_true]
      refine ⟨a, b, _, rfl, by omega, by omega, hdm.k1, fun r m2 r0 r1 d3 => ?_⟩
      obtain ⟨at', rfl⟩ : ∃ kf : Nat, r = (kf : Int) := ⟨r.toNat, by omega⟩
      have hd3 := hdm.draw d3
      simp only [SL.wp, S.wp, E.wp, C.wp, EL.wp, CO.wp, EO.wp, T.wp, TL.wp, I.wp, getS0, getSs, Cn.w, List.set_cons_zero, List.set_cons_succ, wipeW, Bool.false_eq_true, if_false, if_true, tl2, lt_ii, le_ii, gt_ii, ge_ii, eq_ii, eq_ss, int_i, ne_ii, ne_bb, eq_bb, add_ii, sub_ii, mod_ii, add_tt, add_ll, optQ_s, decide_eq_true_eq, Bool.not_eq_true', decide_eq_false_iff_not, Bool.not_true, Bool.not_false, Bool.true_eq_false, not_true_eq_false, not_false_eq_true, b_law_ring_things_6, h1, h3, tup_lE]
      refine slI_to (k := at') rfl (idx_tup (w := .int n) rfl ⟨a, b, n, rfl, by omega, by omega, hd3.k1, fun u m3 u0 u1 d4 => ?_⟩)
      have hd4 := hd3.draw d4
      refine ⟨le_sz (Nat.le_of_ble_eq_true rfl), add_tI (m := [u]) (le_sz (by rw [List.length_take, List.length_singleton]; omega)) ?_⟩
      try simp only [SL.wp, S.wp, E.wp, C.wp, EL.wp, CO.wp, EO.wp, T.wp, TL.wp, I.wp, getS0, getSs, Cn.w, List.set_cons_zero, List.set_cons_succ, wipeW, Bool.false_eq_true, if_false, if_true, tl2, lt_ii, le_ii, gt_ii, ge_ii, eq_ii, eq_ss, int_i, ne_ii, ne_bb, eq_bb, add_ii, sub_ii, mod_ii, add_tt, add_ll, optQ_s, decide_eq_true_eq, Bool.not_eq_true', decide_eq_false_iff_not, Bool.not_true, Bool.not_false, Bool.true_eq_false, not_true_eq_false, not_false_eq_true]
      refine slI_from (k := at' + 1) (by omega) ?_
      refine add_II (le_sz (by rw [List.length_append, List.length_take, List.length_singleton, List.length_drop]; omega)) ⟨le_sz (Nat.le_of_ble_eq_true rfl), ?_⟩
      try simp only [SL.wp, S.wp, E.wp, C.wp, EL.wp, CO.wp, EO.wp, T.wp, TL.wp, I.wp, getS0, getSs, Cn.w, List.set_cons_zero, List.set_cons_succ, wipeW, Bool.false_eq_true, if_false, if_true, tl2, lt_ii, le_ii, gt_ii, ge_ii, eq_ii, eq_ss, int_i, ne_ii, ne_bb, eq_bb, add_ii, sub_ii, mod_ii, add_tt, add_ll, optQ_s, decide_eq_true_eq, Bool.not_eq_true', decide_eq_false_iff_not, Bool.not_true, Bool.not_false, Bool.true_eq_false, not_true_eq_false, not_false_eq_true, tup_lE]
      refine ⟨sz1 _, a, b, tI o, o.map W.int, rfl, hd4.k1, by rw [List.length_map]; omega, rfl, fun zs hzs m4 d5 => ?_⟩
      obtain ⟨z, rfl, hz⟩ := perm_mapW hzs
      try simp only [SL.wp, S.wp, E.wp, C.wp, EL.wp, CO.wp, EO.wp, T.wp, TL.wp, I.wp, getS0, getSs, Cn.w, List.set_cons_zero, List.set_cons_succ, wipeW, Bool.false_eq_true, if_false, if_true, tl2, lt_ii, le_ii, gt_ii, ge_ii, eq_ii, eq_ss, int_i, ne_ii, ne_bb, eq_bb, add_ii, sub_ii, mod_ii, add_tt, add_ll, optQ_s, decide_eq_true_eq, Bool.not_eq_true', decide_eq_false_iff_not, Bool.not_true, Bool.not_false, Bool.true_eq_false, not_true_eq_false, not_false_eq_true, tup_lE]
      refine ⟨le_sz (Nat.le_of_ble_eq_true rfl), sz1 _, newL_f (le_sz (Nat.le_of_ble_eq_true rfl)) ⟨le_sz (Nat.le_of_ble_eq_true rfl), ?_⟩⟩
      have g12 := one _ (Fit.rt ((((ho.take at').app (m := [u]) (M := 1) ⟨Nat.le_refl _, fun x hx => by rw [List.mem_singleton.mp hx]; omega⟩).app (ho.drop (at' + 1))).up (by omega)))
      have g13 := one _ (Fit.rt ((ho.sub (m := z) (by rw [hz.length_eq]; exact Nat.le_refl _) fun x hx => hz.mem_iff.mp hx).up (by omega)))
      refine ret_dg (hd4.draw d5) (hq _ (fun w hw => ?_) (Nat.le_of_ble_eq_true rfl))
      simp only [List.mem_append, List.mem_cons, List.not_mem_nil, or_false] at hw
      rcases hw with ((rfl | rfl | rfl | rfl | rfl | rfl) | (rfl | rfl | rfl | rfl | rfl)) | (rfl | rfl)
      · exact g1
      · exact g2
      · exact g3
      · exact g4
      · exact g5
      · exact g6
      · exact g7
      · exact g8
      · exact g9
      · exact g10
      · exact g11
      · exact g12
      · exact g13
    simp only [SL.wp, S.wp, E.wp, C.wp, EL.wp, CO.wp, EO.wp, T.wp, TL.wp, I.wp, getS0, getSs, Cn.w, List.set_cons_zero, List.set_cons_succ, wipeW, Bool.false_eq_true, if_false, if_true, tl2, lt_ii, le_ii, gt_ii, ge_ii, eq_ii, eq_ss, int_i, ne_ii, ne_bb, eq_bb, add_ii, sub_ii, mod_ii, add_tt, add_ll, optQ_s, decide_eq_true_eq, Bool.not_eq_true', decide_eq_false_iff_not, Bool.not_true, Bool.not_false, Bool.true_eq_false, not_true_eq_false, not_false_eq_true, b_law_ring_things_2, h4]
    refine newL_f (Nat.zero_le _) (ne_nilL ?_)
    simp only [SL.wp, S.wp, E.wp, C.wp, EL.wp, CO.wp, EO.wp, T.wp, TL.wp, I.wp, getS0, getSs, Cn.w, List.set_cons_zero, List.set_cons_succ, wipeW, Bool.false_eq_true, if_false, if_true, tl2, lt_ii, le_ii, gt_ii, ge_ii, eq_ii, eq_ss, int_i, ne_ii, ne_bb, eq_bb, add_ii, sub_ii, mod_ii, add_tt, add_ll, optQ_s, decide_eq_true_eq, Bool.not_eq_true', decide_eq_false_iff_not, Bool.not_true, Bool.not_false, Bool.true_eq_false, not_true_eq_false, not_false_eq_true]
    by_cases hl0 : ls = []
    · rw [if_neg (fun z => z hl0)]
      refine ⟨le_sz (Nat.zero_le _), ?_⟩
      exact rest [] m1 hd1 ⟨Nat.zero_le _, fun _ h => (List.not_mem_nil h).elim⟩
    · rw [if_pos hl0]
      refine ⟨a, b, _, ls.map tI, rfl, hd1.k1, by rw [List.length_map]; exact List.length_pos_iff.mpr hl0, by rw [List.length_map]; omega, fun _ _ => rfl, fun w hw m2 d3 => ?_⟩
      obtain ⟨o, rfl, ho⟩ := take_tI hw
      have := hls o ho
      exact rest o m2 (hd1.draw d3) ⟨this.2.1, this.2.2⟩
end FF

/-! What is shown as a text. -/
namespace FF
open PySem PySem.Spec PyProof.Rows L2
structure Sh (d : PyData) (b k : Nat) : Prop where
  lf : d.leavesShort 13 = true
  sh : d.showable = true
  bk : d.bulk ≤ b
  dp : d.depth ≤ k
structure Shs (ds : List PyData) (b k : Nat) : Prop where
  lf : PyData.leavesShortAll 13 ds = true
  sh : PyData.showableAll ds = true
  bk : PyData.bulkAll ds ≤ b
  dp : PyData.depthAll ds ≤ k
theorem Shs.nil {k : Nat} : Shs [] 0 k := ⟨by simp only [PyData.leavesShortAll], by simp only [PyData.showableAll], by simp only [PyData.bulkAll]; omega, by simp only [PyData.depthAll]; omega⟩
theorem Shs.cons {d : PyData} {ds : List PyData} {b b' k : Nat} (h : Sh d b k) (t : Shs ds b' k) : Shs (d :: ds) (b + 1 + b') k :=
  ⟨by simp only [PyData.leavesShortAll, h.lf, t.lf, Bool.and_self], by simp only [PyData.showableAll, h.sh, t.sh, Bool.and_self], by simp only [PyData.bulkAll]; have := h.bk; have := t.bk; omega, by simp only [PyData.depthAll]; have := h.dp; have := t.dp; omega⟩
theorem Sh.tup {ds : List PyData} {b k : Nat} (h : Shs ds b k) : Sh (.tuple ds) b (k + 1) :=
  ⟨by simp only [PyData.leavesShort, h.lf], by simp only [PyData.showable, h.sh], by simp only [PyData.bulk]; exact h.bk, by simp only [PyData.depth]; have := h.dp; omega⟩
theorem Sh.lst {ds : List PyData} {b k : Nat} (h : Shs ds b k) : Sh (.list ds) b (k + 1) :=
  ⟨by simp only [PyData.leavesShort, h.lf], by simp only [PyData.showable, h.sh], by simp only [PyData.bulk]; exact h.bk, by simp only [PyData.depth]; have := h.dp; omega⟩
theorem Shs.map {α : Type} {f : α → PyData} {b k : Nat} : ∀ {l : List α}, (∀ x ∈ l, Sh (f x) b k) → Shs (l.map f) (l.length * (b + 1)) k
  | [], _ => by rw [List.length_nil, Nat.zero_mul]; exact .nil
  | x :: l, h => by
    rw [List.length_cons, Nat.succ_mul, Nat.add_comm]
    exact .cons (h x List.mem_cons_self) (Shs.map fun y hy => h y (List.mem_cons_of_mem _ hy))
theorem Sh.up {d : PyData} {b b' k k' : Nat} (h : Sh d b k) (hb : b ≤ b') (hk : k ≤ k') : Sh d b' k' := ⟨h.lf, h.sh, Nat.le_trans h.bk hb, Nat.le_trans h.dp hk⟩
theorem Sh.int {i : Int} {k : Nat} (h0 : -1000000 < i) (h1 : i < 1000000) : Sh (.int i) 0 k := by
  have hn : i.natAbs < 10 ^ 12 := by omega
  refine ⟨by simp only [PyData.leavesShort]; exact decide_eq_true (PyData.shown_int_le hn), ?_, by simp only [PyData.bulk]; omega, by simp only [PyData.depth]; omega⟩
  simp only [PyData.showable]
  refine decide_eq_true ?_
  by_cases hz : i.natAbs = 0
  · rw [hz]; decide
  · refine (Nat.log2_lt hz).mpr (Nat.lt_of_lt_of_le hn ?_)
    have pw : ∀ k : Nat, 40 ≤ k → 2 ^ 40 ≤ 2 ^ k := fun k hk => Nat.pow_le_pow_right (by omega) hk
    exact Nat.le_trans (by decide : 10 ^ 12 ≤ 2 ^ 40) (pw 1920 (by omega))
theorem Sh.non {k : Nat} : Sh .none 0 k := ⟨by simp only [PyData.leavesShort], by simp only [PyData.showable], by simp only [PyData.bulk]; omega, by simp only [PyData.depth]; omega⟩
theorem Sh.rings {k : Nat} : Sh (.str "rings") 5 k := ⟨by decide +kernel, by decide +kernel, by decide +kernel, by simp only [PyData.depth]; omega⟩
theorem rpr_d {x : W} {d : PyData} {b k : Nat} {mu : Mu} {Q : QW} (e : toD x = some d) (h : Sh d b k) (hb : b ≤ 1000000) (hk : k ≤ 60) (q : Q (.str (PyData.shown d)) mu) : bifR .rpr [x] mu Q :=
  ⟨d, e, h.sh, by have := h.dp; omega, PyData.shown_fits_bulk (by omega) (by omega) h.lf (by have := h.bk; omega), q⟩
def prD (c : Int × Int) : PyData := .tuple [.int c.1, .int c.2]
theorem toDs_prs : ∀ cs : List (Int × Int), toDs (cs.map pairW) = some (cs.map prD)
  | [] => by simp only [List.map_nil, toDs]
  | (i, j) :: cs => by simp only [List.map_cons, toDs, toDs_prs cs, pairW, toD, Option.map_some, prD]
def webD (n : Nat) (cs : List (Int × Int)) : PyData := .tuple [.int n, .tuple (cs.map prD)]
theorem toD_web (n : Nat) (cs : List (Int × Int)) : toD (webW n cs) = some (webD n cs) := by
  simp only [webW, cellsW, toD, toDs, toDs_prs, Option.map_some, webD]
theorem Sh.web {n : Nat} {cs : List (Int × Int)} (h : Web n cs) (hl : cs.length ≤ 20000) : Sh (webD n cs) 70000 3 := by
  have hn := h.le
  have h1 : Shs (cs.map prD) (cs.length * (2 + 1)) 1 := Shs.map fun c hc => by
    have := h.ran c hc
    exact Sh.up (Sh.tup (Shs.cons (Sh.int (by omega) (by omega)) (Shs.cons (Sh.int (by omega) (by omega)) (Shs.nil (k := 0))))) (by omega) (by omega)
  exact Sh.up (Sh.tup (Shs.cons (Sh.int (by omega) (by omega)) (Shs.cons (Sh.tup h1) Shs.nil))) (by omega) (by omega)
theorem Sh.rt {n : Nat} (hn : n ≤ 32) {r : Rt} (h : r.2.length ≤ 20 ∧ ∀ x ∈ r.2, 0 ≤ x ∧ x < (n : Int)) : Sh (rtD r) 20 1 := by
  obtain ⟨b, l⟩ := r
  obtain ⟨h1, h2⟩ := h
  have h3 : Shs (l.map PyData.int) (l.length * (0 + 1)) 0 := Shs.map fun x hx => by
    have := h2 x hx
    exact Sh.int (by omega) (by omega)
  simp only at h1
  cases b
  · exact Sh.up (Sh.lst h3) (by omega) (by omega)
  · exact Sh.up (Sh.tup h3) (by omega) (by omega)
theorem Sh.th {n : Nat} (hn : n ≤ 32) {th : Bool × List Rt} (h : ThOk n th) : Sh (papD th) 210100 3 := by
  obtain ⟨b, rs⟩ := th
  obtain ⟨h1, h2⟩ := h
  have h3 : Shs (rs.map rtD) (rs.length * (20 + 1)) 1 := Shs.map fun r hr => Sh.rt hn (h2 r hr)
  simp only at h1
  have h4 : Sh (thD (b, rs)) 210000 2 := by
    cases b
    · exact Sh.up (Sh.lst h3) (by omega) (by omega)
    · exact Sh.up (Sh.tup h3) (by omega) (by omega)
  exact Sh.up (Sh.tup (Shs.cons Sh.rings (Shs.cons h4 Shs.nil))) (by omega) (by omega)
theorem toD_pap2 {x : W} {d : PyData} (e : toD x = some d) (th : Bool × List Rt) : toD (.tup [x, papW th]) = some (.tuple [d, papD th]) := by
  simp only [toD, toDs, e, toD_pap, Option.map_some]
theorem fills_rng : ∀ {l : List Rt}, (∀ r ∈ l, 3 ≤ r.2.length ∧ r.2.length ≤ 32) → 0 ≤ fillsOf l ∧ fillsOf l ≤ 29 * l.length
  | [], _ => ⟨Int.le_refl _, by simp [fillsOf]⟩
  | r :: l, h => by
    have ih := fills_rng fun q hq => h q (List.mem_cons_of_mem _ hq)
    have hr := h r List.mem_cons_self
    unfold fillsOf at ih ⊢
    rw [List.map_cons, List.sum_cons, List.length_cons]
    omega
theorem sv_data {n : Nat} {cs : List (Int × Int)} {th : Bool × List Rt} (hn : n ≤ 32) (hl : th.2.length ≤ 10000) : ∃ d, toD (shownV n cs th) = some d ∧ Sh d 0 0 := by
  by_cases h : ShownP n cs th
  · rw [shown_yes h]
    have := fills_rng (l := th.2) fun r hr => by
      have h1 := h.2.1 r hr
      have h2 := places_len h1.1
      have h3 := h1.2.1
      omega
    exact ⟨.int (fillsOf th.2), by simp only [toD], Sh.int (by omega) (by omega)⟩
  · rw [shown_no h]
    exact ⟨_, by simp only [toD], Sh.non⟩
theorem toD_three {x y z : W} {a b c : PyData} (h1 : toD x = some a) (h2 : toD y = some b) (h3 : toD z = some c) : toD (.tup [x, y, z]) = some (.tuple [a, b, c]) := by
  simp only [toD, toDs, h1, h2, h3, Option.map_some]
theorem ne_ss {x y : Str} {mu : Mu} {Q : QW} : cmpR .NotEq (.str x) (.str y) mu Q = Q (.bl (!(decide (x = y)))) mu := rfl
end FF

/-! The law. -/
namespace FF
open PySem PySem.Spec PyProof.Rows L2
theorem ok_law (F : Fe) (h1 : F.fn "_law_deck" = sp_law_deck) (h2 : F.fn "_law_glued" = sp_law_glued) (h3 : F.fn "_law_pick" = sp_law_pick) (h4 : F.fn "_law_ring_things" = sp_law_ring_things) (h5 : F.fn "_law_rings_of" = sp_law_rings_of) (h6 : F.fn "_law_shown" = sp_shown_by) (h7 : F.fn "_law_some_rings" = sp_law_some_rings) (h8 : F.fn "_law_web" = sp_law_web) (h9 : F.fn "shown_by" = sp_shown_by) :
    ∀ ns : List Int, ns.length ≤ 63 → (b_law).wp F (endOf fun w' _ => w' = .bl true) (startW n_law [.scr ns]) fun _ => none := by
  intro ns hz
  show (b_law).wp F (endOf fun w' _ => w' = .bl true) [some (.scr ns), none, none, none, none, none, none, none, none, none, none] fun _ => none
  simp only [SL.wp, S.wp, E.wp, C.wp, EL.wp, CO.wp, EO.wp, T.wp, TL.wp, I.wp, getS0, getSs, Cn.w, List.set_cons_zero, List.set_cons_succ, wipeW, Bool.false_eq_true, if_false, if_true, tl2, lt_ii, le_ii, gt_ii, ge_ii, eq_ii, eq_ss, int_i, ne_ii, ne_bb, eq_bb, add_ii, sub_ii, mod_ii, add_tt, add_ll, optQ_s, decide_eq_true_eq, Bool.not_eq_true', decide_eq_false_iff_not, Bool.not_true, Bool.not_false, Bool.true_eq_false, not_true_eq_false, not_false_eq_true, b_law, h1]
  refine ⟨ns, rfl, hz, fun a b mu hk _ => ?_⟩
  simp only [SL.wp, S.wp, E.wp, C.wp, EL.wp, CO.wp, EO.wp, T.wp, TL.wp, I.wp, getS0, getSs, Cn.w, List.set_cons_zero, List.set_cons_succ, wipeW, Bool.false_eq_true, if_false, if_true, tl2, lt_ii, le_ii, gt_ii, ge_ii, eq_ii, eq_ss, int_i, ne_ii, ne_bb, eq_bb, add_ii, sub_ii, mod_ii, add_tt, add_ll, optQ_s, decide_eq_true_eq, Bool.not_eq_true', decide_eq_false_iff_not, Bool.not_true, Bool.not_false, Bool.true_eq_false, not_true_eq_false, not_false_eq_true, b_law_1]
  refine ⟨4, rfl, by omega, ?_⟩
  refine forW_inv (fun i t m => (∃ x2 x3 x4 x5 x6 x7 x8 x9 x10, t = [some (.scr ns), some (.ref a), x2, x3, x4, x5, x6, x7, x8, x9, x10]) ∧ Dk a b m) ⟨⟨_, _, _, _, _, _, _, _, _, rfl⟩, hk⟩ (fun _ _ _ _ _ => True.intro) ?_ ?_
  · clear hk
    rintro turn w t m R hw ⟨⟨x2, x3, x4, x5, x6, x7, x8, x9, x10, rfl⟩, hk⟩ kk
    obtain ⟨rfl, hi⟩ := rngW_get hw
    rw [Int.zero_add]
    have rest : ∀ (n : Nat) (cs : List (Int × Int)) (rs : List (List Int)) m, Web n cs → 0 < n → cs.length ≤ 20000 → RsOk n rs → rs.length ≤ 5040 → (turn < 2 → ShownP n cs (true, rs.map fun r => (true, r))) → Dk a b m → (b_law_1b2).wp F { nx := R, ct := R, bk := fun t1 mu1 => (b_law_2).wp F (endOf fun w' _ => w' = .bl true) t1 mu1, rt := (endOf fun w' _ => w' = .bl true).rt } [some (.scr ns), some (.ref a), some (.int turn), some (webW n cs), some (.lst (rs.map tI)), x5, x6, x7, x8, x9, x10] m := by
      intro n cs rs m hW hn0 hcs hR hrl hsh hk
      have hn := hW.le
      simp only [SL.wp, S.wp, E.wp, C.wp, EL.wp, CO.wp, EO.wp, T.wp, TL.wp, I.wp, getS0, getSs, Cn.w, List.set_cons_zero, List.set_cons_succ, wipeW, Bool.false_eq_true, if_false, if_true, tl2, lt_ii, le_ii, gt_ii, ge_ii, eq_ii, eq_ss, int_i, ne_ii, ne_bb, eq_bb, add_ii, sub_ii, mod_ii, add_tt, add_ll, optQ_s, decide_eq_true_eq, Bool.not_eq_true', decide_eq_false_iff_not, Bool.not_true, Bool.not_false, Bool.true_eq_false, not_true_eq_false, not_false_eq_true, b_law_1b2, h8]
      refine ⟨a, b, 4, 9, rfl, by omega, by omega, by omega, hk, fun n2 cs2 hn4 hn9 hW2 hcs2 m2 d2 => ?_⟩
      have hk2 := d2.dk
      have rest2 : ∀ m, Dk a b m → (b_law_1b4).wp F { nx := R, ct := R, bk := fun t1 mu1 => (b_law_2).wp F (endOf fun w' _ => w' = .bl true) t1 mu1, rt := (endOf fun w' _ => w' = .bl true).rt } [some (.scr ns), some (.ref a), some (.int turn), some (webW n cs), some (.lst (rs.map tI)), some (webW n2 cs2), x6, x7, x8, x9, x10] m := by
        intro m hk
        simp only [SL.wp, S.wp, E.wp, C.wp, EL.wp, CO.wp, EO.wp, T.wp, TL.wp, I.wp, getS0, getSs, Cn.w, List.set_cons_zero, List.set_cons_succ, wipeW, Bool.false_eq_true, if_false, if_true, tl2, lt_ii, le_ii, gt_ii, ge_ii, eq_ii, eq_ss, int_i, ne_ii, ne_bb, eq_bb, add_ii, sub_ii, mod_ii, add_tt, add_ll, optQ_s, decide_eq_true_eq, Bool.not_eq_true', decide_eq_false_iff_not, Bool.not_true, Bool.not_false, Bool.true_eq_false, not_true_eq_false, not_false_eq_true, b_law_1b4, h4, h7]
        refine ⟨a, b, n, cs, rs, rfl, hn0, hn, hR, by omega, hk, fun xs hxs hxl m3 d3 => ?_⟩
        refine ⟨a, b, n, cs, rs, 9, rfl, hW, hR, by omega, by omega, d3.dk, fun found hf hfl m4 d4 => ?_⟩
        refine newL_f (le_sz (Nat.le_of_ble_eq_true rfl)) ?_
        simp only [SL.wp, S.wp, E.wp, C.wp, EL.wp, CO.wp, EO.wp, T.wp, TL.wp, I.wp, getS0, getSs, Cn.w, List.set_cons_zero, List.set_cons_succ, wipeW, Bool.false_eq_true, if_false, if_true, tl2, lt_ii, le_ii, gt_ii, ge_ii, eq_ii, eq_ss, int_i, ne_ii, ne_bb, eq_bb, add_ii, sub_ii, mod_ii, add_tt, add_ll, optQ_s, decide_eq_true_eq, Bool.not_eq_true', decide_eq_false_iff_not, Bool.not_true, Bool.not_false, Bool.true_eq_false, not_true_eq_false, not_false_eq_true]
        refine ⟨le_sz (by simp only [List.length_cons, List.length_nil]; omega), iter_lst ?_⟩
        have hall : ∀ w ∈ xs ++ [.tup (found.map tI)], ThG n w := by
          intro w hw
          rcases List.mem_append.mp hw with hw | hw
          · exact hxs w hw
          · rw [List.mem_singleton.mp hw]
            refine ThG.t (fun w hw => ?_) (by rw [List.length_map]; omega)
            obtain ⟨l, rfl, hl⟩ := take_tI hw
            have := hf l hl
            exact Fit.rt ⟨by omega, this.2.2⟩
        refine forW_inv (fun i t m => (∃ x6 x7 x8 x9 x10, t = [some (.scr ns), some (.ref a), some (.int turn), some (webW n cs), some (.lst (rs.map tI)), some (webW n2 cs2), x6, x7, x8, x9, x10]) ∧ Dk a b m) ⟨⟨_, _, _, _, _, rfl⟩, d4.dk⟩ (fun _ _ _ _ _ => True.intro) ?_ ?_
        · clear d4 d3 hk
          rintro i w t m R2 hw ⟨⟨x6, x7, x8, x9, x10, rfl⟩, hk⟩ k2
          obtain ⟨th, rfl, hth⟩ := hall w (List.mem_of_getElem? hw)
          have hl1 := hth.1
          have hl2 : ∀ r ∈ th.2, r.2.length ≤ 1000 := fun r hr => by have := (hth.2 r hr).1; omega
          simp only [SL.wp, S.wp, E.wp, C.wp, EL.wp, CO.wp, EO.wp, T.wp, TL.wp, I.wp, getS0, getSs, Cn.w, List.set_cons_zero, List.set_cons_succ, wipeW, Bool.false_eq_true, if_false, if_true, tl2, lt_ii, le_ii, gt_ii, ge_ii, eq_ii, eq_ss, int_i, ne_ii, ne_bb, eq_bb, add_ii, sub_ii, mod_ii, add_tt, add_ll, optQ_s, decide_eq_true_eq, Bool.not_eq_true', decide_eq_false_iff_not, Bool.not_true, Bool.not_false, Bool.true_eq_false, not_true_eq_false, not_false_eq_true, b_law_1b4b0]
          refine ⟨le_sz (Nat.le_of_ble_eq_true rfl), ?_⟩
          simp only [SL.wp, S.wp, E.wp, C.wp, EL.wp, CO.wp, EO.wp, T.wp, TL.wp, I.wp, getS0, getSs, Cn.w, List.set_cons_zero, List.set_cons_succ, wipeW, Bool.false_eq_true, if_false, if_true, tl2, lt_ii, le_ii, gt_ii, ge_ii, eq_ii, eq_ss, int_i, ne_ii, ne_bb, eq_bb, add_ii, sub_ii, mod_ii, add_tt, add_ll, optQ_s, decide_eq_true_eq, Bool.not_eq_true', decide_eq_false_iff_not, Bool.not_true, Bool.not_false, Bool.true_eq_false, not_true_eq_false, not_false_eq_true, b_law_1b4b1, h6]
          refine ⟨le_sz (Nat.le_of_ble_eq_true rfl), ?_⟩
          have hS := Sh.up (Sh.tup (Shs.cons (Sh.web hW hcs) (Shs.cons (Sh.th hn hth) Shs.nil))) (Nat.le_refl _) (Nat.le_refl _)
          have hT := toD_pap2 (toD_web n cs) th
          refine rpr_d hT hS (by omega) (by omega) ?_
          refine ⟨n, cs, th, rfl, hW, hl1, hl2, ?_⟩
          simp only [SL.wp, S.wp, E.wp, C.wp, EL.wp, CO.wp, EO.wp, T.wp, TL.wp, I.wp, getS0, getSs, Cn.w, List.set_cons_zero, List.set_cons_succ, wipeW, Bool.false_eq_true, if_false, if_true, tl2, lt_ii, le_ii, gt_ii, ge_ii, eq_ii, eq_ss, int_i, ne_ii, ne_bb, eq_bb, add_ii, sub_ii, mod_ii, add_tt, add_ll, optQ_s, decide_eq_true_eq, Bool.not_eq_true', decide_eq_false_iff_not, Bool.not_true, Bool.not_false, Bool.true_eq_false, not_true_eq_false, not_false_eq_true, parT]
          simp only [SL.wp, S.wp, E.wp, C.wp, EL.wp, CO.wp, EO.wp, T.wp, TL.wp, I.wp, getS0, getSs, Cn.w, List.set_cons_zero, List.set_cons_succ, wipeW, Bool.false_eq_true, if_false, if_true, tl2, lt_ii, le_ii, gt_ii, ge_ii, eq_ii, eq_ss, int_i, ne_ii, ne_bb, eq_bb, add_ii, sub_ii, mod_ii, add_tt, add_ll, optQ_s, decide_eq_true_eq, Bool.not_eq_true', decide_eq_false_iff_not, Bool.not_true, Bool.not_false, Bool.true_eq_false, not_true_eq_false, not_false_eq_true, b_law_1b4b2, h6, h9]
          obtain ⟨d1, e1, s1⟩ := sv_data (cs := cs) hn hl1
          obtain ⟨d2, e2, s2⟩ := sv_data (cs := cs2) hW2.le hl1
          have hS3 := Sh.tup (Shs.cons s1 (Shs.cons s2 (Shs.cons s1 Shs.nil)))
          refine ⟨n, cs, th, rfl, hW, hl1, hl2, ?_⟩
          refine ⟨n2, cs2, th, rfl, hW2, hl1, hl2, ?_⟩
          refine ⟨n, cs, th, rfl, hW, hl1, hl2, ?_⟩
          refine ⟨le_sz (Nat.le_of_ble_eq_true rfl), rpr_d (toD_three e1 e2 e1) hS3 (by omega) (by omega) ?_⟩
          refine ⟨n2, cs2, th, rfl, hW2, hl1, hl2, ?_⟩
          refine ⟨le_sz (Nat.le_of_ble_eq_true rfl), rpr_d (toD_three e1 e2 e1) hS3 (by omega) (by omega) ?_⟩
          simp only [SL.wp, S.wp, E.wp, C.wp, EL.wp, CO.wp, EO.wp, T.wp, TL.wp, I.wp, getS0, getSs, Cn.w, List.set_cons_zero, List.set_cons_succ, wipeW, Bool.false_eq_true, if_false, if_true, tl2, lt_ii, le_ii, gt_ii, ge_ii, eq_ii, eq_ss, int_i, ne_ii, ne_bb, eq_bb, add_ii, sub_ii, mod_ii, add_tt, add_ll, optQ_s, decide_eq_true_eq, Bool.not_eq_true', decide_eq_false_iff_not, Bool.not_true, Bool.not_false, Bool.true_eq_false, not_true_eq_false, not_false_eq_true, ne_ss, decide_true]
          simp only [SL.wp, S.wp, E.wp, C.wp, EL.wp, CO.wp, EO.wp, T.wp, TL.wp, I.wp, getS0, getSs, Cn.w, List.set_cons_zero, List.set_cons_succ, wipeW, Bool.false_eq_true, if_false, if_true, tl2, lt_ii, le_ii, gt_ii, ge_ii, eq_ii, eq_ss, int_i, ne_ii, ne_bb, eq_bb, add_ii, sub_ii, mod_ii, add_tt, add_ll, optQ_s, decide_eq_true_eq, Bool.not_eq_true', decide_eq_false_iff_not, Bool.not_true, Bool.not_false, Bool.true_eq_false, not_true_eq_false, not_false_eq_true, b_law_1b4b3]
          refine ⟨le_sz (Nat.le_of_ble_eq_true rfl), rpr_d hT hS (by omega) (by omega) ?_⟩
          simp only [SL.wp, S.wp, E.wp, C.wp, EL.wp, CO.wp, EO.wp, T.wp, TL.wp, I.wp, getS0, getSs, Cn.w, List.set_cons_zero, List.set_cons_succ, wipeW, Bool.false_eq_true, if_false, if_true, tl2, lt_ii, le_ii, gt_ii, ge_ii, eq_ii, eq_ss, int_i, ne_ii, ne_bb, eq_bb, add_ii, sub_ii, mod_ii, add_tt, add_ll, optQ_s, decide_eq_true_eq, Bool.not_eq_true', decide_eq_false_iff_not, Bool.not_true, Bool.not_false, Bool.true_eq_false, not_true_eq_false, not_false_eq_true, ne_ss, decide_true]
          exact k2 _ _ ⟨⟨_, _, _, _, _, rfl⟩, hk⟩
        · rintro t m ⟨⟨x6, x7, x8, x9, x10, rfl⟩, hk⟩
          exact kk _ _ ⟨⟨_, _, _, _, _, _, _, _, _, rfl⟩, hk⟩
      simp only [SL.wp, S.wp, E.wp, C.wp, EL.wp, CO.wp, EO.wp, T.wp, TL.wp, I.wp, getS0, getSs, Cn.w, List.set_cons_zero, List.set_cons_succ, wipeW, Bool.false_eq_true, if_false, if_true, tl2, lt_ii, le_ii, gt_ii, ge_ii, eq_ii, eq_ss, int_i, ne_ii, ne_bb, eq_bb, add_ii, sub_ii, mod_ii, add_tt, add_ll, optQ_s, decide_eq_true_eq, Bool.not_eq_true', decide_eq_false_iff_not, Bool.not_true, Bool.not_false, Bool.true_eq_false, not_true_eq_false, not_false_eq_true, b_law_1b3, h9]
      split
      · rename_i ht
        have hsp := hsh (by omega)
        simp only [SL.wp, S.wp, E.wp, C.wp, EL.wp, CO.wp, EO.wp, T.wp, TL.wp, I.wp, getS0, getSs, Cn.w, List.set_cons_zero, List.set_cons_succ, wipeW, Bool.false_eq_true, if_false, if_true, tl2, lt_ii, le_ii, gt_ii, ge_ii, eq_ii, eq_ss, int_i, ne_ii, ne_bb, eq_bb, add_ii, sub_ii, mod_ii, add_tt, add_ll, optQ_s, decide_eq_true_eq, Bool.not_eq_true', decide_eq_false_iff_not, Bool.not_true, Bool.not_false, Bool.true_eq_false, not_true_eq_false, not_false_eq_true, tup_lE]
        refine ⟨le_sz (Nat.le_of_ble_eq_true rfl), ?_⟩
        refine ⟨n, cs, (true, rs.map fun r => (true, r)), ?_, hW, by rw [List.length_map]; omega, fun r hr => ?_, ?_⟩
        · rw [tI_rt]; rfl
        · obtain ⟨x, hx, rfl⟩ := List.mem_map.mp hr
          have := (hR x hx).2.1
          show x.length ≤ 1000
          omega
        · rw [shown_yes hsp]
          have hfr := fills_rng (l := rs.map fun r => (true, r)) fun r hr => by
            obtain ⟨x, hx, rfl⟩ := List.mem_map.mp hr
            have := hR x hx
            show 3 ≤ x.length ∧ x.length ≤ 32
            omega
          rw [List.length_map] at hfr
          have hsi : Sh (.int (fillsOf (rs.map fun r => (true, r)))) 0 0 := Sh.int (by omega) (by omega)
          refine rpr_d (by simp only [toD]) hsi (by omega) (by omega) (iter_lst ?_)
          intro p hp
          refine comp_m hp (fun w => .int (((intsWt w).length : Int) - 3)) (by rw [List.length_map]; exact le_sz (by omega)) .free True.intro ?_ ?_
          · intro w m' G hw _ k
            obtain ⟨l, rfl, hl⟩ := take_tI hw
            rw [intsWt_tI] at k
            simp only [SL.wp, S.wp, E.wp, C.wp, EL.wp, CO.wp, EO.wp, T.wp, TL.wp, I.wp, getS0, getSs, Cn.w, List.set_cons_zero, List.set_cons_succ, wipeW, Bool.false_eq_true, if_false, if_true, tl2, lt_ii, le_ii, gt_ii, ge_ii, eq_ii, eq_ss, int_i, ne_ii, ne_bb, eq_bb, add_ii, sub_ii, mod_ii, add_tt, add_ll, optQ_s, decide_eq_true_eq, Bool.not_eq_true', decide_eq_false_iff_not, Bool.not_true, Bool.not_false, Bool.true_eq_false, not_true_eq_false, not_false_eq_true]
            refine len_tI ?_
            simp only [SL.wp, S.wp, E.wp, C.wp, EL.wp, CO.wp, EO.wp, T.wp, TL.wp, I.wp, getS0, getSs, Cn.w, List.set_cons_zero, List.set_cons_succ, wipeW, Bool.false_eq_true, if_false, if_true, tl2, lt_ii, le_ii, gt_ii, ge_ii, eq_ii, eq_ss, int_i, ne_ii, ne_bb, eq_bb, add_ii, sub_ii, mod_ii, add_tt, add_ll, optQ_s, decide_eq_true_eq, Bool.not_eq_true', decide_eq_false_iff_not, Bool.not_true, Bool.not_false, Bool.true_eq_false, not_true_eq_false, not_false_eq_true]
            exact k
          · rw [dell_sett hp, List.map_map]
            have e : rs.map ((fun w => W.int (((intsWt w).length : Int) - 3)) ∘ tI) = (rs.map fun r => (r.length : Int) - 3).map W.int := by
              rw [List.map_map]
              refine List.map_congr_left fun r _ => ?_
              show W.int (((intsWt (tI r)).length : Int) - 3) = _
              rw [intsWt_tI]; rfl
            rw [e]
            refine ⟨_, _, rfl, intsOf_map _, ?_⟩
            have e2 : (rs.map fun r => (r.length : Int) - 3).sum = fillsOf (rs.map fun r => (true, r)) := by
              unfold fillsOf
              rw [List.map_map]; rfl
            rw [e2]
            refine rpr_d (by simp only [toD]) hsi (by omega) (by omega) ?_
            simp only [SL.wp, S.wp, E.wp, C.wp, EL.wp, CO.wp, EO.wp, T.wp, TL.wp, I.wp, getS0, getSs, Cn.w, List.set_cons_zero, List.set_cons_succ, wipeW, Bool.false_eq_true, if_false, if_true, tl2, lt_ii, le_ii, gt_ii, ge_ii, eq_ii, eq_ss, int_i, ne_ii, ne_bb, eq_bb, add_ii, sub_ii, mod_ii, add_tt, add_ll, optQ_s, decide_eq_true_eq, Bool.not_eq_true', decide_eq_false_iff_not, Bool.not_true, Bool.not_false, Bool.true_eq_false, not_true_eq_false, not_false_eq_true, ne_ss, decide_true]
            exact rest2 m2 hk2
      · exact rest2 m2 hk2
    simp only [SL.wp, S.wp, E.wp, C.wp, EL.wp, CO.wp, EO.wp, T.wp, TL.wp, I.wp, getS0, getSs, Cn.w, List.set_cons_zero, List.set_cons_succ, wipeW, Bool.false_eq_true, if_false, if_true, tl2, lt_ii, le_ii, gt_ii, ge_ii, eq_ii, eq_ss, int_i, ne_ii, ne_bb, eq_bb, add_ii, sub_ii, mod_ii, add_tt, add_ll, optQ_s, decide_eq_true_eq, Bool.not_eq_true', decide_eq_false_iff_not, Bool.not_true, Bool.not_false, Bool.true_eq_false, not_true_eq_false, not_false_eq_true, b_law_1b0, h2, h3]
    refine newL_f (le_sz (Nat.le_of_ble_eq_true rfl)) ?_
    refine ⟨a, b, _, _, rfl, hk, Nat.le_of_ble_eq_true rfl, Nat.le_of_ble_eq_true rfl, fun _ _ => rfl, fun w hw m2 d2 => ?_⟩
    obtain ⟨u, rfl, hu⟩ := take_ints (l := [24, 24, 12]) hw
    have hu : u = 24 ∨ u = 12 := by simpa using hu
    obtain ⟨mo, rfl⟩ : ∃ mo : Nat, u = (mo : Int) := ⟨u.toNat, by omega⟩
    refine ⟨a, b, mo, rfl, by omega, by omega, d2.dk, fun n cs rs hn0 hn24 hW hcs hrl hR hsh m3 d3 => ⟨rfl, ?_⟩⟩
    simp only [SL.wp, S.wp, E.wp, C.wp, EL.wp, CO.wp, EO.wp, T.wp, TL.wp, I.wp, getS0, getSs, Cn.w, List.set_cons_zero, List.set_cons_succ, wipeW, Bool.false_eq_true, if_false, if_true, tl2, lt_ii, le_ii, gt_ii, ge_ii, eq_ii, eq_ss, int_i, ne_ii, ne_bb, eq_bb, add_ii, sub_ii, mod_ii, add_tt, add_ll, optQ_s, decide_eq_true_eq, Bool.not_eq_true', decide_eq_false_iff_not, Bool.not_true, Bool.not_false, Bool.true_eq_false, not_true_eq_false, not_false_eq_true, b_law_1b1]
    split
    · simp only [SL.wp, S.wp, E.wp, C.wp, EL.wp, CO.wp, EO.wp, T.wp, TL.wp, I.wp, getS0, getSs, Cn.w, List.set_cons_zero, List.set_cons_succ, wipeW, Bool.false_eq_true, if_false, if_true, tl2, lt_ii, le_ii, gt_ii, ge_ii, eq_ii, eq_ss, int_i, ne_ii, ne_bb, eq_bb, add_ii, sub_ii, mod_ii, add_tt, add_ll, optQ_s, decide_eq_true_eq, Bool.not_eq_true', decide_eq_false_iff_not, Bool.not_true, Bool.not_false, Bool.true_eq_false, not_true_eq_false, not_false_eq_true, b_law_1b1t0, h8]
      refine ⟨a, b, 4, 7, rfl, by omega, by omega, by omega, d3.dk, fun n2 cs2 hn4 hn7 hW2 hcs2 m4 d4 => ?_⟩
      simp only [SL.wp, S.wp, E.wp, C.wp, EL.wp, CO.wp, EO.wp, T.wp, TL.wp, I.wp, getS0, getSs, Cn.w, List.set_cons_zero, List.set_cons_succ, wipeW, Bool.false_eq_true, if_false, if_true, tl2, lt_ii, le_ii, gt_ii, ge_ii, eq_ii, eq_ss, int_i, ne_ii, ne_bb, eq_bb, add_ii, sub_ii, mod_ii, add_tt, add_ll, optQ_s, decide_eq_true_eq, Bool.not_eq_true', decide_eq_false_iff_not, Bool.not_true, Bool.not_false, Bool.true_eq_false, not_true_eq_false, not_false_eq_true, b_law_1b1t1, h5]
      refine ⟨n2, cs2, rfl, hW2, hn7, fun rs2 hrl2 hR2 => ?_⟩
      exact rest n2 cs2 rs2 m4 hW2 (by omega) hcs2 hR2 hrl2 (fun z => by omega) d4.dk
    · exact rest n cs rs m3 hW hn0 (by omega) hR (by omega) (fun _ => hsh) d3.dk
  · rintro t m ⟨⟨x2, x3, x4, x5, x6, x7, x8, x9, x10, rfl⟩, hk⟩
    simp only [SL.wp, S.wp, E.wp, C.wp, EL.wp, CO.wp, EO.wp, T.wp, TL.wp, I.wp, getS0, getSs, Cn.w, List.set_cons_zero, List.set_cons_succ, wipeW, Bool.false_eq_true, if_false, if_true, tl2, lt_ii, le_ii, gt_ii, ge_ii, eq_ii, eq_ss, int_i, ne_ii, ne_bb, eq_bb, add_ii, sub_ii, mod_ii, add_tt, add_ll, optQ_s, decide_eq_true_eq, Bool.not_eq_true', decide_eq_false_iff_not, Bool.not_true, Bool.not_false, Bool.true_eq_false, not_true_eq_false, not_false_eq_true, b_law_2]
    rfl
end FF

/-! The defs' promises, level by level. -/
namespace FF
open PySem PySem.Spec PyProof.Rows L2
def tbl : List (Str × SpW) := [("is_whole", sp_is_whole), ("neighbour_rows", sp_neighbour_rows), ("are_places", sp_are_places), ("is_ring", sp_is_ring), ("unlike_pairs", sp_unlike_pairs), ("are_apart", sp_are_apart), ("shown_by_rings", sp_shown_by_rings), ("shown_by", sp_shown_by), ("_law_draw", sp_law_draw), ("_law_pick", sp_law_pick), ("_law_turned", sp_law_turned), ("_law_web_of", sp_law_web_of), ("_law_near", sp_law_near), ("_law_are_near", sp_law_are_near), ("_law_shape", sp_law_shape), ("_law_web", sp_law_web), ("_law_whole", sp_is_whole), ("_law_are_places", sp_are_places), ("_law_is_ring", sp_is_ring), ("_law_shown_rings", sp_shown_by_rings), ("_law_shown", sp_shown_by), ("_law_rings_of", sp_law_rings_of), ("_law_about", sp_law_about), ("_law_some_rings", sp_law_some_rings), ("_law_glued", sp_law_glued), ("_law_deck", sp_law_deck), ("_law_ring_things", sp_law_ring_things)]
def tblN : List Str := ["is_whole", "neighbour_rows", "are_places", "is_ring", "unlike_pairs", "are_apart", "shown_by_rings", "shown_by", "_law_draw", "_law_pick", "_law_turned", "_law_web_of", "_law_near", "_law_are_near", "_law_shape", "_law_web", "_law_whole", "_law_are_places", "_law_is_ring", "_law_shown_rings", "_law_shown", "_law_rings_of", "_law_about", "_law_some_rings", "_law_glued", "_law_deck", "_law_ring_things"]
theorem tbl_nd : (tbl.map (·.1)).Nodup := by
  have e : tbl.map (·.1) = tblN := rfl
  rw [e]
  decide +kernel
theorem find_nd : ∀ (l : List (Str × SpW)) (i : Nat) (x : Str) (r : SpW), (l.map (·.1)).Nodup → l[i]? = some (x, r) → l.find? (fun p => decide (p.1 = x)) = some (x, r)
  | [], _, _, _, _, h => by cases h
  | p :: l, 0, x, r, _, h => by
    have e : p = (x, r) := by simpa using h
    subst e
    rw [List.find?_cons_of_pos]
    exact decide_eq_true rfl
  | p :: l, i + 1, x, r, hn, h => by
    rw [List.map_cons, List.nodup_cons] at hn
    have h : l[i]? = some (x, r) := by simpa using h
    have hne : p.1 ≠ x := fun z => hn.1 (by rw [z]; exact List.mem_map.mpr ⟨_, List.mem_of_getElem? h, rfl⟩)
    rw [List.find?_cons_of_neg (by simpa using hne)]
    exact find_nd l i x r hn.2 h
def Ft : Fe := ⟨fun x => match tbl.find? (fun p => decide (p.1 = x)) with
  | some p => p.2
  | none => fun _ _ _ => False, fun x => if x = "LEAST_RING" then some (.int 4) else none⟩
theorem ft_at (i : Nat) {x : Str} {r : SpW} (h : tbl[i]? = some (x, r)) : Ft.fn x = r := by
  show (match tbl.find? (fun p => decide (p.1 = x)) with
    | some p => p.2
    | none => fun _ _ _ => False) = r
  rw [find_nd tbl i x r tbl_nd h]
theorem ft_cs : Ft.cs "LEAST_RING" = some (.int 4) := by
  show (if ("LEAST_RING" : Str) = "LEAST_RING" then some (W.int 4) else none) = _
  rw [if_pos rfl]
/-- a def as the top has made it -/
structure Dfx (K : PySem.W.Frag) (mg : Str → Option Value) (x : Str) (st : Stmt) (ps : List Str) : Prop where
  ex : ∃ (fa : Addr) (fd : FuncData), mg x = some (.ref fa) ∧ Fun K x x st fa fd ∧ ∀ us : List Value, us.length = ps.length → bindArgs fd ⟨us, []⟩ = pure (ps.zip us)
theorem dfx_mk {K : PySem.W.Frag} {mg : Str → Option Value} {h : Heap} {x : Str} {st : Stmt} {ps : List Str} (X : K.In h) (G : h.Ns mainGlobals mg) {f : Addr} {oc : Value} {od an : Option Addr} {osl : Array (Option Value)} {kV doc pm cdv ct : Value}
    (a : PySem.W.nsIn K mainGlobals x = some (some (.ref f))) (l : K.lookup f = some ⟨oc, od, .func (PySem.W.fnOf x x (defArgs st) (defBody st) (defScope st) .none kV doc pm an cdv ct), osl⟩) (c : PySem.W.codeIn K cdv x = true) (k : PySem.W.keepIn K (.ref f) = true)
    (b : ∀ us : List Value, us.length = ps.length → bindArgs (PySem.W.fnOf x x (defArgs st) (defBody st) (defScope st) .none kV doc pm an cdv ct) ⟨us, []⟩ = pure (ps.zip us)) : Dfx K mg x st ps :=
  ⟨f, _, PySem.W.mg_of X G a, fun_mk l c k, b⟩
section
variable {P : Program} {w : World} {K : PySem.W.Frag} {mg : Str → Option Value} {base : Heap}
/-- a def keeps its promise -/
def DOk (P : Program) (w : World) (K : PySem.W.Frag) (mg : Str → Option Value) (base : Heap) (k : Nat) (x : Str) : Prop :=
  ∃ (fa : Addr) (fd : FuncData) (ps : List Str), FnOk P w K mg base L2.CX0 k fa fd ps (spUp ⟨P, w, K⟩ (Ft.fn x)) ∧ mg x = some (.ref fa) ∧ PySem.W.keepIn K (.ref fa) = true ∧ Binds K fd ps []
theorem DOk.mono {j k : Nat} {x : Str} (h : DOk P w K mg base j x) (l : j ≤ k) : DOk P w K mg base k x :=
  let ⟨fa, fd, ps, a, b⟩ := h; ⟨fa, fd, ps, a.mono l, b⟩
/-- the builtins' names are free, the constant stands -/
structure Glb (mg : Str → Option Value) : Prop where
  bl : ∀ x ∈ bltL, mg x = none
  cs : ∃ t, mg "LEAST_RING" = some (.int 4 t)
theorem nms_mk {c : List Str} {k : Nat} (g : Glb mg) (h : ∀ f ∈ c, DOk P w K mg base k f) : Nms P w K mg base Ft (fnsB c) k := by
  refine ⟨g.bl, fun x w' e => ?_, fun f hf => h f (by simpa [fnsB] using hf)⟩
  by_cases hx : x = "LEAST_RING"
  · subst hx
    rw [ft_cs] at e
    cases e
    obtain ⟨t, et⟩ := g.cs
    exact ⟨_, .int 4, et, ⟨t, rfl⟩, fun _ _ => .int 4⟩
  · have e2 : Ft.cs x = none := if_neg hx
    rw [e2] at e; cases e
theorem dok_up {x : Str} {st : Stmt} {N ps c : List Str} {k : Nat} {m : SL} {r : SpW} (D : Dfx K mg x st ps) (g : Glb mg) (S : FnScope N ps (defScope st)) (hm : m.mat (gmOf st N (fnsB c) false) (defBody st) = true) (h : ∀ f ∈ c, DOk P w K mg base k f) (e : Ft.fn x = r)
    (spec : ∀ ws mu Q, r ws mu Q → ws.length = ps.length ∧ m.wp Ft (endR Q) (startW N ws) mu) : DOk P w K mg base (k + 1) x := by
  obtain ⟨fa, fd, h1, h2, h3⟩ := D.ex
  refine ⟨fa, fd, ps, ?_, h1, h2.kp, .all h3⟩
  rw [e]
  exact fn_upR m h2 S hm (nms_mk g h) spec
theorem sc_is_whole : FnScope n_is_whole ["thing"] (defScope (tp 1)) := ⟨rfl, rfl, rfl, by decide +kernel, rfl, by decide +kernel, by decide +kernel⟩
theorem sc_neighbour_rows : FnScope n_neighbour_rows ["web"] (defScope (tp 3)) := ⟨rfl, rfl, rfl, by decide +kernel, rfl, by decide +kernel, by decide +kernel⟩
theorem sc_are_places : FnScope n_are_places ["many", "thing"] (defScope (tp 6)) := ⟨rfl, rfl, rfl, by decide +kernel, rfl, by decide +kernel, by decide +kernel⟩
theorem sc_is_ring : FnScope n_is_ring ["web", "thing"] (defScope (tp 7)) := ⟨rfl, rfl, rfl, by decide +kernel, rfl, by decide +kernel, by decide +kernel⟩
theorem sc_unlike_pairs : FnScope n_unlike_pairs ["web", "places"] (defScope (tp 9)) := ⟨rfl, rfl, rfl, by decide +kernel, rfl, by decide +kernel, by decide +kernel⟩
theorem sc_are_apart : FnScope n_are_apart ["web", "rings"] (defScope (tp 11)) := ⟨rfl, rfl, rfl, by decide +kernel, rfl, by decide +kernel, by decide +kernel⟩
theorem sc_shown_by_rings : FnScope n_shown_by_rings ["web", "thing"] (defScope (tp 12)) := ⟨rfl, rfl, rfl, by decide +kernel, rfl, by decide +kernel, by decide +kernel⟩
theorem sc_shown_by : FnScope n_shown_by ["web", "thing"] (defScope (tp 14)) := ⟨rfl, rfl, rfl, by decide +kernel, rfl, by decide +kernel, by decide +kernel⟩
theorem sc_law_draw : FnScope n_law_draw ["deck", "most"] (defScope (tp 16)) := ⟨rfl, rfl, rfl, by decide +kernel, rfl, by decide +kernel, by decide +kernel⟩
theorem sc_law_pick : FnScope n_law_pick ["deck", "some"] (defScope (tp 17)) := ⟨rfl, rfl, rfl, by decide +kernel, rfl, by decide +kernel, by decide +kernel⟩
theorem sc_law_turned : FnScope n_law_turned ["deck", "things"] (defScope (tp 18)) := ⟨rfl, rfl, rfl, by decide +kernel, rfl, by decide +kernel, by decide +kernel⟩
theorem sc_law_web_of : FnScope n_law_web_of ["many", "pairs"] (defScope (tp 19)) := ⟨rfl, rfl, rfl, by decide +kernel, rfl, by decide +kernel, by decide +kernel⟩
theorem sc_law_near : FnScope n_law_near ["web"] (defScope (tp 20)) := ⟨rfl, rfl, rfl, by decide +kernel, rfl, by decide +kernel, by decide +kernel⟩
theorem sc_law_are_near : FnScope n_law_are_near ["near", "some"] (defScope (tp 21)) := ⟨rfl, rfl, rfl, by decide +kernel, rfl, by decide +kernel, by decide +kernel⟩
theorem sc_law_shape : FnScope n_law_shape ["deck", "way", "many"] (defScope (tp 22)) := ⟨rfl, rfl, rfl, by decide +kernel, rfl, by decide +kernel, by decide +kernel⟩
theorem sc_law_web : FnScope n_law_web ["deck", "least", "most"] (defScope (tp 23)) := ⟨rfl, rfl, rfl, by decide +kernel, rfl, by decide +kernel, by decide +kernel⟩
theorem sc_law_whole : FnScope n_law_whole ["thing"] (defScope (tp 24)) := ⟨rfl, rfl, rfl, by decide +kernel, rfl, by decide +kernel, by decide +kernel⟩
theorem sc_law_are_places : FnScope n_law_are_places ["many", "thing"] (defScope (tp 25)) := ⟨rfl, rfl, rfl, by decide +kernel, rfl, by decide +kernel, by decide +kernel⟩
theorem sc_law_is_ring : FnScope n_law_is_ring ["web", "thing"] (defScope (tp 26)) := ⟨rfl, rfl, rfl, by decide +kernel, rfl, by decide +kernel, by decide +kernel⟩
theorem sc_law_shown_rings : FnScope n_law_shown_rings ["web", "rings"] (defScope (tp 27)) := ⟨rfl, rfl, rfl, by decide +kernel, rfl, by decide +kernel, by decide +kernel⟩
theorem sc_law_shown : FnScope n_law_shown ["web", "thing"] (defScope (tp 30)) := ⟨rfl, rfl, rfl, by decide +kernel, rfl, by decide +kernel, by decide +kernel⟩
theorem sc_law_rings_of : FnScope n_law_rings_of ["web"] (defScope (tp 31)) := ⟨rfl, rfl, rfl, by decide +kernel, rfl, by decide +kernel, by decide +kernel⟩
theorem sc_law_about : FnScope n_law_about ["deck", "ring"] (defScope (tp 32)) := ⟨rfl, rfl, rfl, by decide +kernel, rfl, by decide +kernel, by decide +kernel⟩
theorem sc_law_some_rings : FnScope n_law_some_rings ["deck", "web", "rings", "most"] (defScope (tp 33)) := ⟨rfl, rfl, rfl, by decide +kernel, rfl, by decide +kernel, by decide +kernel⟩
theorem sc_law_glued : FnScope n_law_glued ["deck", "most"] (defScope (tp 34)) := ⟨rfl, rfl, rfl, by decide +kernel, rfl, by decide +kernel, by decide +kernel⟩
theorem sc_law_deck : FnScope n_law_deck ["script"] (defScope (tp 35)) := ⟨rfl, rfl, rfl, by decide +kernel, rfl, by decide +kernel, by decide +kernel⟩
theorem sc_law_ring_things : FnScope n_law_ring_things ["deck", "web", "rings"] (defScope (tp 36)) := ⟨rfl, rfl, rfl, by decide +kernel, rfl, by decide +kernel, by decide +kernel⟩
theorem sc_law : FnScope n_law ["script"] (defScope (tp 37)) := ⟨rfl, rfl, rfl, by decide +kernel, rfl, by decide +kernel, by decide +kernel⟩
/-- the defs ahead of the law -/
structure Dfs (K : PySem.W.Frag) (mg : Str → Option Value) : Prop where
  d_is_whole : Dfx K mg "is_whole" (tp 1) ["thing"]
  d_neighbour_rows : Dfx K mg "neighbour_rows" (tp 3) ["web"]
  d_are_places : Dfx K mg "are_places" (tp 6) ["many", "thing"]
  d_is_ring : Dfx K mg "is_ring" (tp 7) ["web", "thing"]
  d_unlike_pairs : Dfx K mg "unlike_pairs" (tp 9) ["web", "places"]
  d_are_apart : Dfx K mg "are_apart" (tp 11) ["web", "rings"]
  d_shown_by_rings : Dfx K mg "shown_by_rings" (tp 12) ["web", "thing"]
  d_shown_by : Dfx K mg "shown_by" (tp 14) ["web", "thing"]
  d_law_draw : Dfx K mg "_law_draw" (tp 16) ["deck", "most"]
  d_law_pick : Dfx K mg "_law_pick" (tp 17) ["deck", "some"]
  d_law_turned : Dfx K mg "_law_turned" (tp 18) ["deck", "things"]
  d_law_web_of : Dfx K mg "_law_web_of" (tp 19) ["many", "pairs"]
  d_law_near : Dfx K mg "_law_near" (tp 20) ["web"]
  d_law_are_near : Dfx K mg "_law_are_near" (tp 21) ["near", "some"]
  d_law_shape : Dfx K mg "_law_shape" (tp 22) ["deck", "way", "many"]
  d_law_web : Dfx K mg "_law_web" (tp 23) ["deck", "least", "most"]
  d_law_whole : Dfx K mg "_law_whole" (tp 24) ["thing"]
  d_law_are_places : Dfx K mg "_law_are_places" (tp 25) ["many", "thing"]
  d_law_is_ring : Dfx K mg "_law_is_ring" (tp 26) ["web", "thing"]
  d_law_shown_rings : Dfx K mg "_law_shown_rings" (tp 27) ["web", "rings"]
  d_law_shown : Dfx K mg "_law_shown" (tp 30) ["web", "thing"]
  d_law_rings_of : Dfx K mg "_law_rings_of" (tp 31) ["web"]
  d_law_about : Dfx K mg "_law_about" (tp 32) ["deck", "ring"]
  d_law_some_rings : Dfx K mg "_law_some_rings" (tp 33) ["deck", "web", "rings", "most"]
  d_law_glued : Dfx K mg "_law_glued" (tp 34) ["deck", "most"]
  d_law_deck : Dfx K mg "_law_deck" (tp 35) ["script"]
  d_law_ring_things : Dfx K mg "_law_ring_things" (tp 36) ["deck", "web", "rings"]
  d_law : Dfx K mg "law" (tp 37) ["script"]
theorem lv_is_whole (d : Dfs K mg) (g : Glb mg) : DOk P w K mg base 1 "is_whole" := by
  refine dok_up (c := c_is_whole) (k := 0) d.d_is_whole g sc_is_whole m_is_whole (fun f hf => ?_) (ft_at 0 rfl) (ok_is_whole Ft)
  exact (List.not_mem_nil hf).elim
theorem lv_neighbour_rows (d : Dfs K mg) (g : Glb mg) : DOk P w K mg base 1 "neighbour_rows" := by
  refine dok_up (c := c_neighbour_rows) (k := 0) d.d_neighbour_rows g sc_neighbour_rows m_neighbour_rows (fun f hf => ?_) (ft_at 1 rfl) (ok_neighbour_rows Ft)
  exact (List.not_mem_nil hf).elim
theorem lv_unlike_pairs (d : Dfs K mg) (g : Glb mg) : DOk P w K mg base 1 "unlike_pairs" := by
  refine dok_up (c := c_unlike_pairs) (k := 0) d.d_unlike_pairs g sc_unlike_pairs m_unlike_pairs (fun f hf => ?_) (ft_at 4 rfl) (ok_unlike_pairs Ft)
  exact (List.not_mem_nil hf).elim
theorem lv_law_draw (d : Dfs K mg) (g : Glb mg) : DOk P w K mg base 1 "_law_draw" := by
  refine dok_up (c := c_law_draw) (k := 0) d.d_law_draw g sc_law_draw m_law_draw (fun f hf => ?_) (ft_at 8 rfl) (ok_law_draw Ft)
  exact (List.not_mem_nil hf).elim
theorem lv_law_web_of (d : Dfs K mg) (g : Glb mg) : DOk P w K mg base 1 "_law_web_of" := by
  refine dok_up (c := c_law_web_of) (k := 0) d.d_law_web_of g sc_law_web_of m_law_web_of (fun f hf => ?_) (ft_at 11 rfl) (ok_law_web_of Ft)
  exact (List.not_mem_nil hf).elim
theorem lv_law_near (d : Dfs K mg) (g : Glb mg) : DOk P w K mg base 1 "_law_near" := by
  refine dok_up (c := c_law_near) (k := 0) d.d_law_near g sc_law_near m_law_near (fun f hf => ?_) (ft_at 12 rfl) (ok_law_near Ft)
  exact (List.not_mem_nil hf).elim
theorem lv_law_are_near (d : Dfs K mg) (g : Glb mg) : DOk P w K mg base 1 "_law_are_near" := by
  refine dok_up (c := c_law_are_near) (k := 0) d.d_law_are_near g sc_law_are_near m_law_are_near (fun f hf => ?_) (ft_at 13 rfl) (ok_law_are_near Ft)
  exact (List.not_mem_nil hf).elim
theorem lv_law_whole (d : Dfs K mg) (g : Glb mg) : DOk P w K mg base 1 "_law_whole" := by
  refine dok_up (c := c_law_whole) (k := 0) d.d_law_whole g sc_law_whole m_law_whole (fun f hf => ?_) (ft_at 16 rfl) (ok_law_whole Ft)
  exact (List.not_mem_nil hf).elim
theorem lv_law_deck (d : Dfs K mg) (g : Glb mg) : DOk P w K mg base 1 "_law_deck" := by
  refine dok_up (c := c_law_deck) (k := 0) d.d_law_deck g sc_law_deck m_law_deck (fun f hf => ?_) (ft_at 25 rfl) (ok_law_deck Ft)
  exact (List.not_mem_nil hf).elim
theorem lv_are_places (d : Dfs K mg) (g : Glb mg) : DOk P w K mg base 2 "are_places" := by
  refine dok_up (c := c_are_places) (k := 1) d.d_are_places g sc_are_places m_are_places (fun f hf => ?_) (ft_at 2 rfl) (ok_are_places Ft (ft_at 0 rfl))
  simp only [c_are_places, List.mem_cons, List.not_mem_nil, or_false] at hf
  rcases hf with rfl
  · exact (lv_is_whole d g).mono (by decide)
theorem lv_are_apart (d : Dfs K mg) (g : Glb mg) : DOk P w K mg base 2 "are_apart" := by
  refine dok_up (c := c_are_apart) (k := 1) d.d_are_apart g sc_are_apart m_are_apart (fun f hf => ?_) (ft_at 5 rfl) (ok_are_apart Ft (ft_at 4 rfl))
  simp only [c_are_apart, List.mem_cons, List.not_mem_nil, or_false] at hf
  rcases hf with rfl
  · exact (lv_unlike_pairs d g).mono (by decide)
theorem lv_law_pick (d : Dfs K mg) (g : Glb mg) : DOk P w K mg base 2 "_law_pick" := by
  refine dok_up (c := c_law_pick) (k := 1) d.d_law_pick g sc_law_pick m_law_pick (fun f hf => ?_) (ft_at 9 rfl) (ok_law_pick Ft (ft_at 8 rfl))
  simp only [c_law_pick, List.mem_cons, List.not_mem_nil, or_false] at hf
  rcases hf with rfl
  · exact (lv_law_draw d g).mono (by decide)
theorem lv_law_turned (d : Dfs K mg) (g : Glb mg) : DOk P w K mg base 2 "_law_turned" := by
  refine dok_up (c := c_law_turned) (k := 1) d.d_law_turned g sc_law_turned m_law_turned (fun f hf => ?_) (ft_at 10 rfl) (ok_law_turned Ft (ft_at 8 rfl))
  simp only [c_law_turned, List.mem_cons, List.not_mem_nil, or_false] at hf
  rcases hf with rfl
  · exact (lv_law_draw d g).mono (by decide)
theorem lv_law_shape (d : Dfs K mg) (g : Glb mg) : DOk P w K mg base 2 "_law_shape" := by
  refine dok_up (c := c_law_shape) (k := 1) d.d_law_shape g sc_law_shape m_law_shape (fun f hf => ?_) (ft_at 14 rfl) (ok_law_shape Ft (ft_at 8 rfl))
  simp only [c_law_shape, List.mem_cons, List.not_mem_nil, or_false] at hf
  rcases hf with rfl
  · exact (lv_law_draw d g).mono (by decide)
theorem lv_law_are_places (d : Dfs K mg) (g : Glb mg) : DOk P w K mg base 2 "_law_are_places" := by
  refine dok_up (c := c_law_are_places) (k := 1) d.d_law_are_places g sc_law_are_places m_law_are_places (fun f hf => ?_) (ft_at 17 rfl) (ok_law_are_places Ft (ft_at 16 rfl))
  simp only [c_law_are_places, List.mem_cons, List.not_mem_nil, or_false] at hf
  rcases hf with rfl
  · exact (lv_law_whole d g).mono (by decide)
theorem lv_law_rings_of (d : Dfs K mg) (g : Glb mg) : DOk P w K mg base 2 "_law_rings_of" := by
  refine dok_up (c := c_law_rings_of) (k := 1) d.d_law_rings_of g sc_law_rings_of m_law_rings_of (fun f hf => ?_) (ft_at 21 rfl) (ok_law_rings_of Ft (ft_at 12 rfl))
  simp only [c_law_rings_of, List.mem_cons, List.not_mem_nil, or_false] at hf
  rcases hf with rfl
  · exact (lv_law_near d g).mono (by decide)
theorem lv_is_ring (d : Dfs K mg) (g : Glb mg) : DOk P w K mg base 3 "is_ring" := by
  refine dok_up (c := c_is_ring) (k := 2) d.d_is_ring g sc_is_ring m_is_ring (fun f hf => ?_) (ft_at 3 rfl) (ok_is_ring Ft (ft_at 2 rfl) (ft_at 1 rfl) ft_cs)
  simp only [c_is_ring, List.mem_cons, List.not_mem_nil, or_false] at hf
  rcases hf with rfl | rfl
  · exact (lv_are_places d g).mono (by decide)
  · exact (lv_neighbour_rows d g).mono (by decide)
theorem lv_law_web (d : Dfs K mg) (g : Glb mg) : DOk P w K mg base 3 "_law_web" := by
  refine dok_up (c := c_law_web) (k := 2) d.d_law_web g sc_law_web m_law_web (fun f hf => ?_) (ft_at 15 rfl) (ok_law_web Ft (ft_at 8 rfl) (ft_at 9 rfl) (ft_at 10 rfl) (ft_at 14 rfl) (ft_at 11 rfl))
  simp only [c_law_web, List.mem_cons, List.not_mem_nil, or_false] at hf
  rcases hf with rfl | rfl | rfl | rfl | rfl
  · exact (lv_law_draw d g).mono (by decide)
  · exact (lv_law_pick d g).mono (by decide)
  · exact (lv_law_shape d g).mono (by decide)
  · exact (lv_law_turned d g).mono (by decide)
  · exact (lv_law_web_of d g).mono (by decide)
theorem lv_law_is_ring (d : Dfs K mg) (g : Glb mg) : DOk P w K mg base 3 "_law_is_ring" := by
  refine dok_up (c := c_law_is_ring) (k := 2) d.d_law_is_ring g sc_law_is_ring m_law_is_ring (fun f hf => ?_) (ft_at 18 rfl) (ok_law_is_ring Ft (ft_at 17 rfl) (ft_at 12 rfl))
  simp only [c_law_is_ring, List.mem_cons, List.not_mem_nil, or_false] at hf
  rcases hf with rfl | rfl
  · exact (lv_law_are_places d g).mono (by decide)
  · exact (lv_law_near d g).mono (by decide)
theorem lv_law_about (d : Dfs K mg) (g : Glb mg) : DOk P w K mg base 3 "_law_about" := by
  refine dok_up (c := c_law_about) (k := 2) d.d_law_about g sc_law_about m_law_about (fun f hf => ?_) (ft_at 22 rfl) (ok_law_about Ft (ft_at 8 rfl) (ft_at 9 rfl))
  simp only [c_law_about, List.mem_cons, List.not_mem_nil, or_false] at hf
  rcases hf with rfl | rfl
  · exact (lv_law_draw d g).mono (by decide)
  · exact (lv_law_pick d g).mono (by decide)
theorem lv_law_glued (d : Dfs K mg) (g : Glb mg) : DOk P w K mg base 3 "_law_glued" := by
  refine dok_up (c := c_law_glued) (k := 2) d.d_law_glued g sc_law_glued m_law_glued (fun f hf => ?_) (ft_at 24 rfl) (ok_law_glued Ft (ft_at 8 rfl) (ft_at 9 rfl) (ft_at 10 rfl) (ft_at 11 rfl))
  simp only [c_law_glued, List.mem_cons, List.not_mem_nil, or_false] at hf
  rcases hf with rfl | rfl | rfl | rfl
  · exact (lv_law_draw d g).mono (by decide)
  · exact (lv_law_pick d g).mono (by decide)
  · exact (lv_law_turned d g).mono (by decide)
  · exact (lv_law_web_of d g).mono (by decide)
theorem lv_shown_by_rings (d : Dfs K mg) (g : Glb mg) : DOk P w K mg base 4 "shown_by_rings" := by
  refine dok_up (c := c_shown_by_rings) (k := 3) d.d_shown_by_rings g sc_shown_by_rings m_shown_by_rings (fun f hf => ?_) (ft_at 6 rfl) (ok_shown_by_rings Ft (ft_at 3 rfl) (ft_at 5 rfl))
  simp only [c_shown_by_rings, List.mem_cons, List.not_mem_nil, or_false] at hf
  rcases hf with rfl | rfl
  · exact (lv_are_apart d g).mono (by decide)
  · exact (lv_is_ring d g).mono (by decide)
theorem lv_law_shown_rings (d : Dfs K mg) (g : Glb mg) : DOk P w K mg base 4 "_law_shown_rings" := by
  refine dok_up (c := c_law_shown_rings) (k := 3) d.d_law_shown_rings g sc_law_shown_rings m_law_shown_rings (fun f hf => ?_) (ft_at 19 rfl) (ok_law_shown_rings Ft (ft_at 18 rfl) (ft_at 12 rfl) (ft_at 13 rfl))
  simp only [c_law_shown_rings, List.mem_cons, List.not_mem_nil, or_false] at hf
  rcases hf with rfl | rfl | rfl
  · exact (lv_law_are_near d g).mono (by decide)
  · exact (lv_law_is_ring d g).mono (by decide)
  · exact (lv_law_near d g).mono (by decide)
theorem lv_law_ring_things (d : Dfs K mg) (g : Glb mg) : DOk P w K mg base 4 "_law_ring_things" := by
  refine dok_up (c := c_law_ring_things) (k := 3) d.d_law_ring_things g sc_law_ring_things m_law_ring_things (fun f hf => ?_) (ft_at 26 rfl) (ok_law_ring_things Ft (ft_at 10 rfl) (ft_at 22 rfl) (ft_at 8 rfl) (ft_at 9 rfl))
  simp only [c_law_ring_things, List.mem_cons, List.not_mem_nil, or_false] at hf
  rcases hf with rfl | rfl | rfl | rfl
  · exact (lv_law_about d g).mono (by decide)
  · exact (lv_law_draw d g).mono (by decide)
  · exact (lv_law_pick d g).mono (by decide)
  · exact (lv_law_turned d g).mono (by decide)
theorem lv_shown_by (d : Dfs K mg) (g : Glb mg) : DOk P w K mg base 5 "shown_by" := by
  refine dok_up (c := c_shown_by) (k := 4) d.d_shown_by g sc_shown_by m_shown_by (fun f hf => ?_) (ft_at 7 rfl) (ok_shown_by Ft (ft_at 6 rfl))
  simp only [c_shown_by, List.mem_cons, List.not_mem_nil, or_false] at hf
  rcases hf with rfl
  · exact (lv_shown_by_rings d g).mono (by decide)
theorem lv_law_shown (d : Dfs K mg) (g : Glb mg) : DOk P w K mg base 5 "_law_shown" := by
  refine dok_up (c := c_law_shown) (k := 4) d.d_law_shown g sc_law_shown m_law_shown (fun f hf => ?_) (ft_at 20 rfl) (ok_law_shown Ft (ft_at 19 rfl))
  simp only [c_law_shown, List.mem_cons, List.not_mem_nil, or_false] at hf
  rcases hf with rfl
  · exact (lv_law_shown_rings d g).mono (by decide)
theorem lv_law_some_rings (d : Dfs K mg) (g : Glb mg) : DOk P w K mg base 5 "_law_some_rings" := by
  refine dok_up (c := c_law_some_rings) (k := 4) d.d_law_some_rings g sc_law_some_rings m_law_some_rings (fun f hf => ?_) (ft_at 23 rfl) (ok_law_some_rings Ft (ft_at 10 rfl) (ft_at 22 rfl) (ft_at 19 rfl))
  simp only [c_law_some_rings, List.mem_cons, List.not_mem_nil, or_false] at hf
  rcases hf with rfl | rfl | rfl
  · exact (lv_law_about d g).mono (by decide)
  · exact (lv_law_shown_rings d g).mono (by decide)
  · exact (lv_law_turned d g).mono (by decide)
theorem all_top (d : Dfs K mg) (g : Glb mg) {fa : Addr} (hfa : mg "law" = some (.ref fa)) : ∃ fd : FuncData, Fun K "law" "law" (tp 37) fa fd ∧ (∀ (s : Shared) (u : Value), BindsTo s fd ⟨[u], []⟩ [("script", u)]) ∧ ∀ base : Heap, Nms P w K mg base Ft (fnsB c_law) 5 := by
  obtain ⟨f', fd, h1, h2, h3⟩ := d.d_law.ex
  rw [hfa] at h1
  cases h1
  refine ⟨fd, h2, fun s u => .of_eq (h3 [u] rfl), fun base => nms_mk g fun f hf => ?_⟩
  simp only [c_law, List.mem_cons, List.not_mem_nil, or_false] at hf
  rcases hf with rfl | rfl | rfl | rfl | rfl | rfl | rfl | rfl | rfl
  · exact (lv_law_deck d g).mono (by decide)
  · exact (lv_law_glued d g).mono (by decide)
  · exact (lv_law_pick d g).mono (by decide)
  · exact (lv_law_ring_things d g).mono (by decide)
  · exact (lv_law_rings_of d g).mono (by decide)
  · exact (lv_law_shown d g).mono (by decide)
  · exact (lv_law_some_rings d g).mono (by decide)
  · exact (lv_law_web d g).mono (by decide)
  · exact (lv_shown_by d g).mono (by decide)
end
theorem law_spec : ∀ ns : List Int, ns.length ≤ 63 → (b_law).wp Ft (endOf fun w' _ => w' = .bl true) (startW n_law [.scr ns]) fun _ => none := ok_law Ft (ft_at 25 rfl) (ft_at 24 rfl) (ft_at 9 rfl) (ft_at 26 rfl) (ft_at 21 rfl) (ft_at 20 rfl) (ft_at 23 rfl) (ft_at 15 rfl) (ft_at 7 rfl)
end FF

namespace FF
open PySem PySem.Spec PyProof.Rows L2
abbrev DfxX {K : PySem.W.Frag} {h : Heap} (_ : K.In h) (mg : Str → Option Value) (x : Str) (st : Stmt) (ps : List Str) : Prop := Dfx K mg x st ps
theorem bl_mk {K : PySem.W.Frag} {mg : Str → Option Value} {h : Heap} (X : K.In h) (G : h.Ns mainGlobals mg) (f : ∀ x ∈ bltL, PySem.W.nsIn K mainGlobals x = some none) {t : Tok} (cs : PySem.W.nsIn K mainGlobals "LEAST_RING" = some (some (.int 4 t))) : Glb mg :=
  ⟨fun x hx => PySem.W.mg_none_of X G (f x hx), t, PySem.W.mg_of X G cs⟩
theorem blt_of {K : PySem.W.Frag} (z0 : PySem.W.nsIn K mainGlobals "len" = some none) (z1 : PySem.W.nsIn K mainGlobals "abs" = some none) (z2 : PySem.W.nsIn K mainGlobals "max" = some none) (z3 : PySem.W.nsIn K mainGlobals "min" = some none) (z4 : PySem.W.nsIn K mainGlobals "int" = some none) (z5 : PySem.W.nsIn K mainGlobals "repr" = some none) (z6 : PySem.W.nsIn K mainGlobals "str" = some none) (z7 : PySem.W.nsIn K mainGlobals "sum" = some none) (z8 : PySem.W.nsIn K mainGlobals "all" = some none) (z9 : PySem.W.nsIn K mainGlobals "any" = some none) (z10 : PySem.W.nsIn K mainGlobals "sorted" = some none) (z11 : PySem.W.nsIn K mainGlobals "tuple" = some none) (z12 : PySem.W.nsIn K mainGlobals "list" = some none) (z13 : PySem.W.nsIn K mainGlobals "dict" = some none) (z14 : PySem.W.nsIn K mainGlobals "set" = some none) (z15 : PySem.W.nsIn K mainGlobals "range" = some none) (z16 : PySem.W.nsIn K mainGlobals "enumerate" = some none) (z17 : PySem.W.nsIn K mainGlobals "zip" = some none) (z18 : PySem.W.nsIn K mainGlobals "reversed" = some none) (z19 : PySem.W.nsIn K mainGlobals "isinstance" = some none) (z20 : PySem.W.nsIn K mainGlobals "bool" = some none) : ∀ x ∈ bltL, PySem.W.nsIn K mainGlobals x = some none := by
  intro x hx
  simp only [bltL, List.mem_cons, List.not_mem_nil, or_false] at hx
  rcases hx with rfl | rfl | rfl | rfl | rfl | rfl | rfl | rfl | rfl | rfl | rfl | rfl | rfl | rfl | rfl | rfl | rfl | rfl | rfl | rfl | rfl
  all_goals assumption
end FF
open PySem PySem.W PyProof.Rows
set_option maxRecDepth 100000 in
set_option maxHeartbeats 0 in
theorem PySem.Challenge.cw_fewfilled_k64_papers_of_rings_by_any_han_holds : PySem.Challenge.rw_fewfilled_k64_papers_of_rings_by_any_han.Holds := by
  w_on; o_law; k_head; (case hw => w_witness2)
  k_fill
  refine FF.walk_up (l := PySem.Challenge.rw_fewfilled_k64_papers_of_rings_by_any_han) (x := "law") (y := "script") (st := FF.tp 37) (N := FF.n_law) (k := 5) (m := FF.b_law) (F := FF.Ft) (fns := FF.fnsB FF.c_law) rfl rfl ⟨rfl, by decide, by decide⟩ (fun w h Y => PySem.W.kIn_of Y) FF.sc_law FF.m_law ?top FF.law_spec
  intro w mg fa h KX G hmg
  have g : FF.Glb mg := by
    refine' FF.bl_mk KX G (FF.blt_of ?z0 ?z1 ?z2 ?z3 ?z4 ?z5 ?z6 ?z7 ?z8 ?z9 ?z10 ?z11 ?z12 ?z13 ?z14 ?z15 ?z16 ?z17 ?z18 ?z19 ?z20) ?cs
    (case z0 => k_is)
    (case z1 => k_is)
    (case z2 => k_is)
    (case z3 => k_is)
    (case z4 => k_is)
    (case z5 => k_is)
    (case z6 => k_is)
    (case z7 => k_is)
    (case z8 => k_is)
    (case z9 => k_is)
    (case z10 => k_is)
    (case z11 => k_is)
    (case z12 => k_is)
    (case z13 => k_is)
    (case z14 => k_is)
    (case z15 => k_is)
    (case z16 => k_is)
    (case z17 => k_is)
    (case z18 => k_is)
    (case z19 => k_is)
    (case z20 => k_is)
    (case cs => k_is)
  have d_is_whole : FF.DfxX KX mg "is_whole" (FF.tp 1) ["thing"] := by
    refine' FF.dfx_mk KX G ?a ?l ?c ?k ?b
    (case a => k_is); (case l => k_is); (case c => k_is); (case k => k_is)
    (case b => exact fun us hl => match us, hl with | [_], _ => rfl)
  have d_neighbour_rows : FF.DfxX KX mg "neighbour_rows" (FF.tp 3) ["web"] := by
    refine' FF.dfx_mk KX G ?a ?l ?c ?k ?b
    (case a => k_is); (case l => k_is); (case c => k_is); (case k => k_is)
    (case b => exact fun us hl => match us, hl with | [_], _ => rfl)
  have d_are_places : FF.DfxX KX mg "are_places" (FF.tp 6) ["many", "thing"] := by
    refine' FF.dfx_mk KX G ?a ?l ?c ?k ?b
    (case a => k_is); (case l => k_is); (case c => k_is); (case k => k_is)
    (case b => exact fun us hl => match us, hl with | [_, _], _ => rfl)
  have d_is_ring : FF.DfxX KX mg "is_ring" (FF.tp 7) ["web", "thing"] := by
    refine' FF.dfx_mk KX G ?a ?l ?c ?k ?b
    (case a => k_is); (case l => k_is); (case c => k_is); (case k => k_is)
    (case b => exact fun us hl => match us, hl with | [_, _], _ => rfl)
  have d_unlike_pairs : FF.DfxX KX mg "unlike_pairs" (FF.tp 9) ["web", "places"] := by
    refine' FF.dfx_mk KX G ?a ?l ?c ?k ?b
    (case a => k_is); (case l => k_is); (case c => k_is); (case k => k_is)
    (case b => exact fun us hl => match us, hl with | [_, _], _ => rfl)
  have d_are_apart : FF.DfxX KX mg "are_apart" (FF.tp 11) ["web", "rings"] := by
    refine' FF.dfx_mk KX G ?a ?l ?c ?k ?b
    (case a => k_is); (case l => k_is); (case c => k_is); (case k => k_is)
    (case b => exact fun us hl => match us, hl with | [_, _], _ => rfl)
  have d_shown_by_rings : FF.DfxX KX mg "shown_by_rings" (FF.tp 12) ["web", "thing"] := by
    refine' FF.dfx_mk KX G ?a ?l ?c ?k ?b
    (case a => k_is); (case l => k_is); (case c => k_is); (case k => k_is)
    (case b => exact fun us hl => match us, hl with | [_, _], _ => rfl)
  have d_shown_by : FF.DfxX KX mg "shown_by" (FF.tp 14) ["web", "thing"] := by
    refine' FF.dfx_mk KX G ?a ?l ?c ?k ?b
    (case a => k_is); (case l => k_is); (case c => k_is); (case k => k_is)
    (case b => exact fun us hl => match us, hl with | [_, _], _ => rfl)
  have d_law_draw : FF.DfxX KX mg "_law_draw" (FF.tp 16) ["deck", "most"] := by
    refine' FF.dfx_mk KX G ?a ?l ?c ?k ?b
    (case a => k_is); (case l => k_is); (case c => k_is); (case k => k_is)
    (case b => exact fun us hl => match us, hl with | [_, _], _ => rfl)
  have d_law_pick : FF.DfxX KX mg "_law_pick" (FF.tp 17) ["deck", "some"] := by
    refine' FF.dfx_mk KX G ?a ?l ?c ?k ?b
    (case a => k_is); (case l => k_is); (case c => k_is); (case k => k_is)
    (case b => exact fun us hl => match us, hl with | [_, _], _ => rfl)
  have d_law_turned : FF.DfxX KX mg "_law_turned" (FF.tp 18) ["deck", "things"] := by
    refine' FF.dfx_mk KX G ?a ?l ?c ?k ?b
    (case a => k_is); (case l => k_is); (case c => k_is); (case k => k_is)
    (case b => exact fun us hl => match us, hl with | [_, _], _ => rfl)
  have d_law_web_of : FF.DfxX KX mg "_law_web_of" (FF.tp 19) ["many", "pairs"] := by
    refine' FF.dfx_mk KX G ?a ?l ?c ?k ?b
    (case a => k_is); (case l => k_is); (case c => k_is); (case k => k_is)
    (case b => exact fun us hl => match us, hl with | [_, _], _ => rfl)
  have d_law_near : FF.DfxX KX mg "_law_near" (FF.tp 20) ["web"] := by
    refine' FF.dfx_mk KX G ?a ?l ?c ?k ?b
    (case a => k_is); (case l => k_is); (case c => k_is); (case k => k_is)
    (case b => exact fun us hl => match us, hl with | [_], _ => rfl)
  have d_law_are_near : FF.DfxX KX mg "_law_are_near" (FF.tp 21) ["near", "some"] := by
    refine' FF.dfx_mk KX G ?a ?l ?c ?k ?b
    (case a => k_is); (case l => k_is); (case c => k_is); (case k => k_is)
    (case b => exact fun us hl => match us, hl with | [_, _], _ => rfl)
  have d_law_shape : FF.DfxX KX mg "_law_shape" (FF.tp 22) ["deck", "way", "many"] := by
    refine' FF.dfx_mk KX G ?a ?l ?c ?k ?b
    (case a => k_is); (case l => k_is); (case c => k_is); (case k => k_is)
    (case b => exact fun us hl => match us, hl with | [_, _, _], _ => rfl)
  have d_law_web : FF.DfxX KX mg "_law_web" (FF.tp 23) ["deck", "least", "most"] := by
    refine' FF.dfx_mk KX G ?a ?l ?c ?k ?b
    (case a => k_is); (case l => k_is); (case c => k_is); (case k => k_is)
    (case b => exact fun us hl => match us, hl with | [_, _, _], _ => rfl)
  have d_law_whole : FF.DfxX KX mg "_law_whole" (FF.tp 24) ["thing"] := by
    refine' FF.dfx_mk KX G ?a ?l ?c ?k ?b
    (case a => k_is); (case l => k_is); (case c => k_is); (case k => k_is)
    (case b => exact fun us hl => match us, hl with | [_], _ => rfl)
  have d_law_are_places : FF.DfxX KX mg "_law_are_places" (FF.tp 25) ["many", "thing"] := by
    refine' FF.dfx_mk KX G ?a ?l ?c ?k ?b
    (case a => k_is); (case l => k_is); (case c => k_is); (case k => k_is)
    (case b => exact fun us hl => match us, hl with | [_, _], _ => rfl)
  have d_law_is_ring : FF.DfxX KX mg "_law_is_ring" (FF.tp 26) ["web", "thing"] := by
    refine' FF.dfx_mk KX G ?a ?l ?c ?k ?b
    (case a => k_is); (case l => k_is); (case c => k_is); (case k => k_is)
    (case b => exact fun us hl => match us, hl with | [_, _], _ => rfl)
  have d_law_shown_rings : FF.DfxX KX mg "_law_shown_rings" (FF.tp 27) ["web", "rings"] := by
    refine' FF.dfx_mk KX G ?a ?l ?c ?k ?b
    (case a => k_is); (case l => k_is); (case c => k_is); (case k => k_is)
    (case b => exact fun us hl => match us, hl with | [_, _], _ => rfl)
  have d_law_shown : FF.DfxX KX mg "_law_shown" (FF.tp 30) ["web", "thing"] := by
    refine' FF.dfx_mk KX G ?a ?l ?c ?k ?b
    (case a => k_is); (case l => k_is); (case c => k_is); (case k => k_is)
    (case b => exact fun us hl => match us, hl with | [_, _], _ => rfl)
  have d_law_rings_of : FF.DfxX KX mg "_law_rings_of" (FF.tp 31) ["web"] := by
    refine' FF.dfx_mk KX G ?a ?l ?c ?k ?b
    (case a => k_is); (case l => k_is); (case c => k_is); (case k => k_is)
    (case b => exact fun us hl => match us, hl with | [_], _ => rfl)
  have d_law_about : FF.DfxX KX mg "_law_about" (FF.tp 32) ["deck", "ring"] := by
    refine' FF.dfx_mk KX G ?a ?l ?c ?k ?b
    (case a => k_is); (case l => k_is); (case c => k_is); (case k => k_is)
    (case b => exact fun us hl => match us, hl with | [_, _], _ => rfl)
  have d_law_some_rings : FF.DfxX KX mg "_law_some_rings" (FF.tp 33) ["deck", "web", "rings", "most"] := by
    refine' FF.dfx_mk KX G ?a ?l ?c ?k ?b
    (case a => k_is); (case l => k_is); (case c => k_is); (case k => k_is)
    (case b => exact fun us hl => match us, hl with | [_, _, _, _], _ => rfl)
  have d_law_glued : FF.DfxX KX mg "_law_glued" (FF.tp 34) ["deck", "most"] := by
    refine' FF.dfx_mk KX G ?a ?l ?c ?k ?b
    (case a => k_is); (case l => k_is); (case c => k_is); (case k => k_is)
    (case b => exact fun us hl => match us, hl with | [_, _], _ => rfl)
  have d_law_deck : FF.DfxX KX mg "_law_deck" (FF.tp 35) ["script"] := by
    refine' FF.dfx_mk KX G ?a ?l ?c ?k ?b
    (case a => k_is); (case l => k_is); (case c => k_is); (case k => k_is)
    (case b => exact fun us hl => match us, hl with | [_], _ => rfl)
  have d_law_ring_things : FF.DfxX KX mg "_law_ring_things" (FF.tp 36) ["deck", "web", "rings"] := by
    refine' FF.dfx_mk KX G ?a ?l ?c ?k ?b
    (case a => k_is); (case l => k_is); (case c => k_is); (case k => k_is)
    (case b => exact fun us hl => match us, hl with | [_, _, _], _ => rfl)
  have d_law : FF.DfxX KX mg "law" (FF.tp 37) ["script"] := by
    refine' FF.dfx_mk KX G ?a ?l ?c ?k ?b
    (case a => k_is); (case l => k_is); (case c => k_is); (case k => k_is)
    (case b => exact fun us hl => match us, hl with | [_], _ => rfl)
  obtain ⟨fd, h1, h2, h3⟩ := FF.all_top (P := OpenLaw.prog PySem.Challenge.rw_fewfilled_k64_papers_of_rings_by_any_han) (w := w) ⟨d_is_whole, d_neighbour_rows, d_are_places, d_is_ring, d_unlike_pairs, d_are_apart, d_shown_by_rings, d_shown_by, d_law_draw, d_law_pick, d_law_turned, d_law_web_of, d_law_near, d_law_are_near, d_law_shape, d_law_web, d_law_whole, d_law_are_places, d_law_is_ring, d_law_shown_rings, d_law_shown, d_law_rings_of, d_law_about, d_law_some_rings, d_law_glued, d_law_deck, d_law_ring_things, d_law⟩ g hmg
  exact ⟨fd, h1, h2, fun base _ _ => h3 base⟩

