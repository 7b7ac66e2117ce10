import PyProof.Rows.All
import Wide.All
import OpenK.AllK
import Wide.FinOn
import HandS.ForMost
import HandS.ForExc
import HandS.TupAny
import HandS.Deep
import HandS.IsInst
import HandS.Flow
import HandS.CallSlots
import HandS.HotCalls
import HandS.Comp
import HandS.Zip
import HandS.Rev
import HandS.Text
import HandS.Small
import HandS.Ends
import HandS.RevRange
import HandS.SetKeys
import HandS.ExcIs
import PyProof.Rows.StrSplitCount
import HandS.Conv
import HandS.More
import HandS.SortInts
import HandS.WordsDict
import PySem.Challenge.RW_readingsall_k11_possible
set_option Elab.async false
set_option linter.all false
set_option maxRecDepth 100000
set_option maxHeartbeats 0
/-! DL: Python values as plain data over the hand layer. Part 1: data, ownership, the relation to the abstract heap. -/
namespace DL
open PySem L2
inductive D where
  | non | bl (b : Bool) | int (i : Int) | str (x : Str) | tup (ds : List D) | lst (ds : List D) | dK (kvs : List (Key × D)) | dT (kvs : List (List Key × D)) | ins (C : Addr) (fs : List (Str × D)) | frz (ns : List Int) | adr (a : Addr)
abbrev Tag := List Nat
/-- who owns an address: nobody (shared), or the structure at a root (0: the callers; i + 1: slot i; more: temporaries), by its path -/
abbrev Om := Addr → Option Tag
/-- how a value is held: lent (read alone), or owned to n levels of lists, dicts, instances (below them shared) -/
inductive Md where
  | lent
  | own (n : Nat)
  | all
  deriving DecidableEq
def Md.sub : Md → Md
  | .lent => .lent
  | .own n => .own (n - 1)
  | .all => .all
def Nd (w : Om) : Md → Tag → Addr → Prop
  | .own 0, _, a => w a = none
  | .own (_ + 1), t, a => w a = some t
  | .all, t, a => w a = some t
  | .lent, _, a => w a = none ∨ ∃ p, w a = some (0 :: p)
abbrev Ob (H : Hp) (_ : Md) (a : Addr) (o : HO) : Prop := H a = some o
/-- the text's own empty tuple -/
def KTup (K : PySem.W.Frag) (a : Addr) : Prop := ∃ (o : Obj) (its : Array Value) (n : Nat), K.lookup a = some o ∧ o.cls = .type "tuple" ∧ o.data = .seq its n ∧ its.size ≤ sizeLine ∧ Vals [] its.toList
/-- a tuple: one that is tracked, or the text's own empty one -/
def TupAt (K : PySem.W.Frag) (H : Hp) (a : Addr) (xs : List V) : Prop := H a = some (.tup xs) ∨ (xs = [] ∧ KTup K a)
theorem TupAt.sq {K : PySem.W.Frag} {H : Hp} {a : Addr} {xs : List V} (h : TupAt K H a xs) : SqT K H a xs := by
  rcases h with h | ⟨e, h⟩
  · exact SqT.of h
  · rw [e]; exact .inr h
/-- a list of ints that nobody changes: the script -/
def FrzAt (K : PySem.W.Frag) (H : Hp) (a : Addr) (xs : List V) : Prop := (∃ o, H a = some (.frz o (.lst xs))) ∨
  ∃ (o : Obj) (its : Array Value) (n : Nat), K.lookup a = some o ∧ o.cls = .type "list" ∧ o.dict = none ∧ o.data = .seq its n ∧ its.size ≤ sizeLine ∧ Vals xs its.toList
theorem FrzAt.sq {K : PySem.W.Frag} {H : Hp} {a : Addr} {xs : List V} (h : FrzAt K H a xs) : SqL K H a xs := h.elim (fun ⟨o, e⟩ => .inl (.inr ⟨o, e⟩)) .inr
theorem FrzAt.map {K : PySem.W.Frag} {H H' : Hp} {a : Addr} {xs : List V} (h : FrzAt K H a xs) (f : ∀ a o u, H a = some (.frz o u) → H' a = some (.frz o u)) : FrzAt K H' a xs := h.elim (fun ⟨o, e⟩ => .inl ⟨o, f _ _ _ e⟩) .inr
mutual
def Rp (K : PySem.W.Frag) (w : Om) (H : Hp) : Md → Tag → D → V → Prop
  | _, _, .non, v => v = .non
  | _, _, .bl b, v => v = .bl b
  | _, _, .int i, v => v = .int i
  | _, _, .str x, v => v = .str x
  | md, t, .tup ds, v => ∃ a vs, v = .ref a ∧ TupAt K H a vs ∧ RpL K w H md t 0 ds vs
  | md, t, .lst ds, v => ∃ a vs, v = .ref a ∧ Nd w md t a ∧ Ob H md a (.lst vs) ∧ RpL K w H md.sub t 0 ds vs
  | md, t, .dK kvs, v => ∃ a ws, v = .ref a ∧ Nd w md t a ∧ Ob H md a (.dK ws) ∧ RpK K w H md.sub t 0 kvs ws
  | md, t, .dT kvs, v => ∃ a ws, v = .ref a ∧ Nd w md t a ∧ Ob H md a (.dT ws) ∧ RpT K w H md.sub t 0 kvs ws
  | md, t, .ins C fs, v => ∃ a dx ws, v = .ref a ∧ Nd w md t a ∧ Ob H md a (.ins C dx ws) ∧ RpF K w H md.sub t 0 fs ws
  | _, _, .frz ns, v => ∃ a, v = .ref a ∧ FrzAt K H a (ns.map .int)
  | _, _, .adr a, v => v = .ref a
def RpL (K : PySem.W.Frag) (w : Om) (H : Hp) : Md → Tag → Nat → List D → List V → Prop
  | _, _, _, [], vs => vs = []
  | md, t, i, d :: ds, vs => ∃ v r, vs = v :: r ∧ Rp K w H md (t ++ [i]) d v ∧ RpL K w H md t (i + 1) ds r
def RpK (K : PySem.W.Frag) (w : Om) (H : Hp) : Md → Tag → Nat → List (Key × D) → List (Key × V) → Prop
  | _, _, _, [], vs => vs = []
  | md, t, i, (k, d) :: ds, vs => ∃ v r, vs = (k, v) :: r ∧ Rp K w H md (t ++ [i]) d v ∧ RpK K w H md t (i + 1) ds r
def RpT (K : PySem.W.Frag) (w : Om) (H : Hp) : Md → Tag → Nat → List (List Key × D) → List (List Key × V) → Prop
  | _, _, _, [], vs => vs = []
  | md, t, i, (k, d) :: ds, vs => ∃ v r, vs = (k, v) :: r ∧ Rp K w H md (t ++ [i]) d v ∧ RpT K w H md t (i + 1) ds r
def RpF (K : PySem.W.Frag) (w : Om) (H : Hp) : Md → Tag → Nat → List (Str × D) → List (Str × V) → Prop
  | _, _, _, [], vs => vs = []
  | md, t, i, (k, d) :: ds, vs => ∃ v r, vs = (k, v) :: r ∧ Rp K w H md (t ++ [i]) d v ∧ RpF K w H md t (i + 1) ds r
end
/-- a change of the heap, of the owners, of the tags and modes that carries a structure on -/
structure Mp (K : PySem.W.Frag) (w : Om) (H : Hp) (w' : Om) (H' : Hp) (G : Md → Tag → Md → Tag → Prop) : Prop where
  tup : ∀ a xs, TupAt K H a xs → TupAt K H' a xs
  fz : ∀ a o u, H a = some (.frz o u) → H' a = some (.frz o u)
  ix : ∀ {md t md' t'} (i : Nat), G md t md' t' → G md (t ++ [i]) md' (t' ++ [i])
  sub : ∀ {md t md' t'}, G md t md' t' → G md.sub t md'.sub t'
  nd : ∀ {md t md' t'} (a : Addr) (o : HO), G md t md' t' → Mut (some o) → Nd w md t a → Ob H md a o → Nd w' md' t' a ∧ Ob H' md' a o
section
variable {K : PySem.W.Frag} {w w' : Om} {H H' : Hp} {G : Md → Tag → Md → Tag → Prop}
mutual
theorem Rp.map (M : Mp K w H w' H' G) : ∀ (d : D) {md md' : Md} {t t' : Tag} {v : V}, G md t md' t' → Rp K w H md t d v → Rp K w' H' md' t' d v
  | .non, _, _, _, _, _, _, h => h
  | .bl _, _, _, _, _, _, _, h => h
  | .int _, _, _, _, _, _, _, h => h
  | .str _, _, _, _, _, _, _, h => h
  | .tup ds, _, _, _, _, _, g, ⟨a, vs, e, s, r⟩ => ⟨a, vs, e, M.tup a vs s, RpL.map M ds g r⟩
  | .lst ds, _, _, _, _, _, g, ⟨a, vs, e, n, o, r⟩ => let q := M.nd a (.lst vs) g trivial n o; ⟨a, vs, e, q.1, q.2, RpL.map M ds (M.sub g) r⟩
  | .dK ds, _, _, _, _, _, g, ⟨a, vs, e, n, o, r⟩ => let q := M.nd a (.dK vs) g trivial n o; ⟨a, vs, e, q.1, q.2, RpK.map M ds (M.sub g) r⟩
  | .dT ds, _, _, _, _, _, g, ⟨a, vs, e, n, o, r⟩ => let q := M.nd a (.dT vs) g trivial n o; ⟨a, vs, e, q.1, q.2, RpT.map M ds (M.sub g) r⟩
  | .ins C ds, _, _, _, _, _, g, ⟨a, dx, vs, e, n, o, r⟩ => let q := M.nd a (.ins C dx vs) g trivial n o; ⟨a, dx, vs, e, q.1, q.2, RpF.map M ds (M.sub g) r⟩
  | .frz _, _, _, _, _, _, _, ⟨a, e, h⟩ => ⟨a, e, h.map M.fz⟩
  | .adr _, _, _, _, _, _, _, h => h
theorem RpL.map (M : Mp K w H w' H' G) : ∀ (ds : List D) {md md' : Md} {t t' : Tag} {i : Nat} {vs : List V}, G md t md' t' → RpL K w H md t i ds vs → RpL K w' H' md' t' i ds vs
  | [], _, _, _, _, _, _, _, h => h
  | d :: ds, _, _, _, _, i, _, g, ⟨v, r, e, h1, h2⟩ => ⟨v, r, e, Rp.map M d (M.ix i g) h1, RpL.map M ds g h2⟩
theorem RpK.map (M : Mp K w H w' H' G) : ∀ (ds : List (Key × D)) {md md' : Md} {t t' : Tag} {i : Nat} {vs : List (Key × V)}, G md t md' t' → RpK K w H md t i ds vs → RpK K w' H' md' t' i ds vs
  | [], _, _, _, _, _, _, _, h => h
  | (k, d) :: ds, _, _, _, _, i, _, g, ⟨v, r, e, h1, h2⟩ => ⟨v, r, e, Rp.map M d (M.ix i g) h1, RpK.map M ds g h2⟩
theorem RpT.map (M : Mp K w H w' H' G) : ∀ (ds : List (List Key × D)) {md md' : Md} {t t' : Tag} {i : Nat} {vs : List (List Key × V)}, G md t md' t' → RpT K w H md t i ds vs → RpT K w' H' md' t' i ds vs
  | [], _, _, _, _, _, _, _, h => h
  | (k, d) :: ds, _, _, _, _, i, _, g, ⟨v, r, e, h1, h2⟩ => ⟨v, r, e, Rp.map M d (M.ix i g) h1, RpT.map M ds g h2⟩
theorem RpF.map (M : Mp K w H w' H' G) : ∀ (ds : List (Str × D)) {md md' : Md} {t t' : Tag} {i : Nat} {vs : List (Str × V)}, G md t md' t' → RpF K w H md t i ds vs → RpF K w' H' md' t' i ds vs
  | [], _, _, _, _, _, _, _, h => h
  | (k, d) :: ds, _, _, _, _, i, _, g, ⟨v, r, e, h1, h2⟩ => ⟨v, r, e, Rp.map M d (M.ix i g) h1, RpF.map M ds g h2⟩
end
end

/-! ### data without lists, dicts, instances -/
mutual
def imm : D → Bool
  | .non | .bl _ | .int _ | .str _ | .frz _ | .adr _ => true
  | .tup ds => immL ds
  | .lst _ | .dK _ | .dT _ | .ins _ _ => false
def immL : List D → Bool
  | [] => true
  | d :: ds => imm d && immL ds
end
section
variable {K : PySem.W.Frag} {w w' : Om} {H H' : Hp}
mutual
theorem Rp.imm (ht : (∀ a xs, TupAt K H a xs → TupAt K H' a xs) ∧ ∀ a o u, H a = some (.frz o u) → H' a = some (.frz o u)) : ∀ (d : D) {md md' : Md} {t t' : Tag} {v : V}, imm d = true → Rp K w H md t d v → Rp K w' H' md' t' d v
  | .non, _, _, _, _, _, _, h => h
  | .bl _, _, _, _, _, _, _, h => h
  | .int _, _, _, _, _, _, _, h => h
  | .str _, _, _, _, _, _, _, h => h
  | .tup ds, _, _, _, _, _, g, ⟨a, vs, e, s, r⟩ => ⟨a, vs, e, ht.1 a vs s, RpL.imm ht ds g r⟩
  | .frz _, _, _, _, _, _, _, ⟨a, e, h⟩ => ⟨a, e, h.map ht.2⟩
  | .adr _, _, _, _, _, _, _, h => h
theorem RpL.imm (ht : (∀ a xs, TupAt K H a xs → TupAt K H' a xs) ∧ ∀ a o u, H a = some (.frz o u) → H' a = some (.frz o u)) : ∀ (ds : List D) {md md' : Md} {t t' : Tag} {i i' : Nat} {vs : List V}, immL ds = true → RpL K w H md t i ds vs → RpL K w' H' md' t' i' ds vs
  | [], _, _, _, _, _, _, _, _, h => h
  | d :: ds, _, _, _, _, i, _, _, g, ⟨v, r, e, h1, h2⟩ => by
    have g' : (DL.imm d && immL ds) = true := g
    rw [Bool.and_eq_true] at g'
    exact ⟨v, r, e, Rp.imm ht d g'.1 h1, RpL.imm ht ds g'.2 h2⟩
end
end

/-! ### lists of items -/
section
variable {K : PySem.W.Frag} {w : Om} {H : Hp} {md : Md} {t : Tag}
theorem RpL.length : ∀ {ds : List D} {i : Nat} {vs : List V}, RpL K w H md t i ds vs → vs.length = ds.length
  | [], _, _, h => by rw [show _ = _ from h]; rfl
  | d :: ds, _, _, ⟨v, r, e, _, h2⟩ => by rw [e, List.length_cons, List.length_cons, RpL.length h2]
theorem RpL.get : ∀ {ds : List D} {i j : Nat} {vs : List V} {d : D}, RpL K w H md t i ds vs → ds[j]? = some d → ∃ v, vs[j]? = some v ∧ Rp K w H md (t ++ [i + j]) d v
  | [], _, _, _, _, _, e => by simp at e
  | d :: ds, i, 0, _, _, ⟨v, r, e, h1, _⟩, q => by
    simp at q; subst q
    exact ⟨v, by rw [e]; rfl, h1⟩
  | d :: ds, i, j + 1, _, _, ⟨v, r, e, _, h2⟩, q => by
    obtain ⟨u, h3, h4⟩ := RpL.get h2 (j := j) (by simpa using q)
    refine ⟨u, by rw [e]; simpa using h3, ?_⟩
    rw [show i + (j + 1) = i + 1 + j by omega]; exact h4
theorem RpL.append : ∀ {ds es : List D} {i : Nat} {vs us : List V}, RpL K w H md t i ds vs → RpL K w H md t (i + ds.length) es us → RpL K w H md t i (ds ++ es) (vs ++ us)
  | [], es, i, vs, us, h, h2 => by
    have e : vs = [] := h
    subst e
    exact h2
  | d :: ds, es, i, vs, us, ⟨v, r, e, h1, h3⟩, h2 => by
    subst e
    refine ⟨v, r ++ us, rfl, h1, RpL.append h3 ?_⟩
    rw [List.length_cons, show i + (ds.length + 1) = i + 1 + ds.length by omega] at h2
    exact h2
/-- shared or lent items: the places' numbers don't matter -/
def Md.flat : Md → Prop
  | .own (_ + 1) => False
  | .all => False
  | _ => True
theorem Nd.flat (hf : md.flat) {a : Addr} {t' : Tag} (h : Nd w md t a) : Nd w md t' a := by
  cases md with
  | lent => exact h
  | all => exact hf.elim
  | own n =>
    cases n with
    | zero => exact h
    | succ n => exact hf.elim
theorem Mp.retag : Mp K w H w H (fun md _ md' _ => md.flat ∧ md' = md) where
  tup := fun _ _ h => h
  fz := fun _ _ _ h => h
  ix := fun _ h => h
  sub := fun {md t md' t'} h => by
    obtain ⟨h1, rfl⟩ := h
    refine ⟨?_, rfl⟩
    cases md' with
    | lent => trivial
    | all => exact h1.elim
    | own n =>
      cases n with
      | zero => trivial
      | succ n => exact h1.elim
  nd := fun {md t md' t'} a o h _ n ob => by
    obtain ⟨h1, rfl⟩ := h
    exact ⟨n.flat h1, ob⟩
theorem Rp.retagF (hf : md.flat) {d : D} {v : V} {t' : Tag} (h : Rp K w H md t d v) : Rp K w H md t' d v := Rp.map Mp.retag d ⟨hf, rfl⟩ h
theorem RpL.retagF (hf : md.flat) {ds : List D} {vs : List V} {t' : Tag} : ∀ {i i' : Nat} {ds : List D} {vs : List V}, RpL K w H md t i ds vs → RpL K w H md t' i' ds vs
  | _, _, [], _, h => h
  | i, i', d :: ds, _, ⟨v, r, e, h1, h2⟩ => ⟨v, r, e, h1.retagF hf, RpL.retagF hf (ds := ds) (vs := r) h2⟩
end
end DL

/-! DL part 2: states, steps, results, the judgements. -/
namespace DL
open PySem L2
abbrev Cel := Md × D
abbrev Rho := List (Option Cel)
/-- an exception: its class's name in the text, its fields -/
structure Exn where
  cls : Str
  fs : List (Str × D)
inductive Res (α : Type) where
  | stuck
  | ok (a : α) (e : Rho)
  | exc (x : Exn) (e : Rho)
def Res.bind {α β : Type} (r : Res α) (f : α → Rho → Res β) : Res β := match r with
  | .stuck => .stuck
  | .ok a e => f a e
  | .exc x e => .exc x e
inductive SR where
  | stuck
  | nx (e : Rho)
  | rt (c : Cel) (e : Rho)
  | bk (e : Rho)
  | ct (e : Rho)
  | exc (x : Exn) (e : Rho)

/-! ### steps of the heap with its owners -/
structure Stp (kp : Nat → Prop) (w : Om) (H : Hp) (w' : Om) (H' : Hp) : Prop where
  sh : ∀ a o, w a = none → H a = some o → H' a = some o ∧ w' a = none
  own : ∀ a k p o, w a = some (k :: p) → kp k → H a = some o → H' a = some o ∧ w' a = some (k :: p)
  back : ∀ a k p, w' a = some (k :: p) → kp k → w a = some (k :: p)
def Dom (w : Om) (H : Hp) (r : Nat) : Prop := ∀ a t, w a = some t → Mut (H a) ∧ ∃ k p, t = k :: p ∧ k < r
section
variable {kp kp' : Nat → Prop} {w w1 w2 w' : Om} {H H1 H2 H' : Hp} {r r' : Nat} {K : PySem.W.Frag}
theorem Stp.refl : Stp kp w H w H := ⟨fun _ _ a b => ⟨b, a⟩, fun _ _ _ _ a _ b => ⟨b, a⟩, fun _ _ _ a _ => a⟩
theorem Stp.trans (a : Stp kp w H w1 H1) (b : Stp kp w1 H1 w2 H2) : Stp kp w H w2 H2 where
  sh := fun c o e h => let q := a.sh c o e h; b.sh c o q.2 q.1
  own := fun c k p o e hk h => let q := a.own c k p o e hk h; b.own c k p o q.2 hk q.1
  back := fun c k p e hk => a.back c k p (b.back c k p e hk) hk
theorem Stp.mono (a : Stp kp w H w1 H1) (h : ∀ k, kp' k → kp k) : Stp kp' w H w1 H1 :=
  ⟨a.sh, fun c k p o e hk => a.own c k p o e (h k hk), fun c k p e hk => a.back c k p e (h k hk)⟩
theorem Dom.sub (d : Dom w H r) (h : r ≤ r') : Dom w H r' := fun a t e => let ⟨m, k, p, q, l⟩ := d a t e; ⟨m, k, p, q, Nat.lt_of_lt_of_le l h⟩
theorem Dom.none (d : Dom w H r) {a : Addr} {o : HO} (h : H a = some o) (n : ¬ Mut (some o)) : w a = none := by
  cases e : w a with
  | none => rfl
  | some t =>
    have := (d a t e).1
    rw [h] at this
    exact (n this).elim
theorem Dom.fresh (d : Dom w H r) {a : Addr} (h : H a = Option.none) : w a = Option.none := by
  cases e : w a with
  | none => rfl
  | some t =>
    have := (d a t e).1
    rw [h] at this
    exact this.elim
theorem Stp.tup (d : Dom w H r) (s : Stp kp w H w' H') {a : Addr} {xs : List V} (h : TupAt K H a xs) : TupAt K H' a xs := by
  rcases h with h | h
  · exact .inl (s.sh a _ (d.none h fun z => z) h).1
  · exact .inr h
theorem Stp.fz (d : Dom w H r) (s : Stp kp w H w' H') {a : Addr} {o : Obj} {u : HO} (h : H a = some (.frz o u)) : H' a = some (.frz o u) := (s.sh a _ (d.none h fun z => z) h).1
theorem Stp.mp (d : Dom w H r) (s : Stp kp w H w' H') (k0 : kp 0) : Mp K w H w' H' (fun md t md' t' => md' = md ∧ t' = t ∧ ∃ k p, t = k :: p ∧ kp k) where
  tup := fun _ _ h => s.tup d h
  fz := fun _ _ _ h => s.fz d h
  ix := fun {md t md' t'} i h => by
    obtain ⟨rfl, rfl, k, p, rfl, hk⟩ := h
    exact ⟨rfl, rfl, k, p ++ [i], rfl, hk⟩
  sub := fun {md t md' t'} h => by
    obtain ⟨rfl, rfl, h⟩ := h
    exact ⟨rfl, rfl, h⟩
  nd := fun {md t md' t'} a o h m n ob => by
    obtain ⟨rfl, rfl, k, p, rfl, hk⟩ := h
    cases md' with
    | lent =>
      rcases n with n | ⟨q, n⟩
      · exact ⟨.inl (s.sh a o n ob).2, (s.sh a o n ob).1⟩
      · exact ⟨.inr ⟨q, (s.own a 0 q o n k0 ob).2⟩, (s.own a 0 q o n k0 ob).1⟩
    | all =>
      have q := s.own a k p o n hk ob
      exact ⟨q.2, q.1⟩
    | own n' =>
      cases n' with
      | zero =>
        have n' : w a = none := n
        exact ⟨(s.sh a o n' ob).2, (s.sh a o n' ob).1⟩
      | succ n' =>
        have q := s.own a k p o n hk ob
        exact ⟨q.2, q.1⟩
theorem Rp.stp {d : D} {md : Md} {k : Nat} {p : Tag} {v : V} (h : Rp K w H md (k :: p) d v) (dm : Dom w H r) (s : Stp kp w H w' H') (k0 : kp 0) (hk : kp k) : Rp K w' H' md (k :: p) d v :=
  Rp.map (s.mp dm k0) d ⟨rfl, rfl, k, p, rfl, hk⟩ h
theorem RpL.stp {d : List D} {md : Md} {k i : Nat} {p : Tag} {v : List V} (h : RpL K w H md (k :: p) i d v) (dm : Dom w H r) (s : Stp kp w H w' H') (k0 : kp 0) (hk : kp k) : RpL K w' H' md (k :: p) i d v :=
  RpL.map (s.mp dm k0) d ⟨rfl, rfl, k, p, rfl, hk⟩ h
/-- shared or lent: whatever root is kept -/
theorem Rp.stpF {d : D} {md : Md} {t : Tag} {v : V} (hf : md.flat) (h : Rp K w H md t d v) (dm : Dom w H r) (s : Stp kp w H w' H') (k0 : kp 0) : Rp K w' H' md t d v :=
  Rp.retagF hf (Rp.stp (k := 0) (p := []) (Rp.retagF hf h) dm s k0 k0)
theorem Rp.stpI {d : D} {md md' : Md} {t t' : Tag} {v : V} (hi : DL.imm d = true) (h : Rp K w H md t d v) (dm : Dom w H r) (s : Stp kp w H w' H') : Rp K w' H' md' t' d v :=
  Rp.imm ⟨fun _ _ x => s.tup dm x, fun _ _ _ x => s.fz dm x⟩ d hi h

/-! ### the ghost moves -/
/-- tags turned by f -/
def bindO (w : Om) (f : Tag → Option Tag) : Om := fun a => (w a).bind f
theorem bindO_none {f : Tag → Option Tag} {a : Addr} (h : w a = none) : bindO w f a = none := by unfold bindO; rw [h]; rfl
theorem bindO_some {f : Tag → Option Tag} {a : Addr} {t : Tag} (h : w a = some t) : bindO w f a = f t := by unfold bindO; rw [h]; rfl
/-- a structure moves: its tags t ++ p become t' ++ p; the lent stay lent -/
theorem Mp.move {f : Tag → Option Tag} (hl : ∀ p, f (0 :: p) = none ∨ ∃ q, f (0 :: p) = some (0 :: q)) : Mp K w H (bindO w f) H (fun md t md' t' => md' = md ∧ ∀ p, f (t ++ p) = some (t' ++ p)) where
  tup := fun _ _ h => h
  fz := fun _ _ _ h => h
  ix := fun {md t md' t'} i h => ⟨h.1, fun p => by rw [List.append_assoc, List.append_assoc]; exact h.2 _⟩
  sub := fun {md t md' t'} h => by
    obtain ⟨rfl, h⟩ := h
    exact ⟨rfl, h⟩
  nd := fun {md t md' t'} a o h m n ob => by
    obtain ⟨rfl, h⟩ := h
    cases md' with
    | lent =>
      refine ⟨?_, ob⟩
      rcases n with n | ⟨q, n⟩
      · exact .inl (bindO_none n)
      · rcases hl q with z | ⟨q', z⟩
        · exact .inl (by rw [bindO_some n, z])
        · exact .inr ⟨q', by rw [bindO_some n, z]⟩
    | all =>
      have h0 := h []
      rw [List.append_nil, List.append_nil] at h0
      exact ⟨(bindO_some n).trans h0, ob⟩
    | own n' =>
      cases n' with
      | zero => exact ⟨bindO_none n, ob⟩
      | succ n' =>
        have h0 := h []
        rw [List.append_nil, List.append_nil] at h0
        exact ⟨(bindO_some n).trans h0, ob⟩
theorem Rp.move {f : Tag → Option Tag} (hl : ∀ p, f (0 :: p) = none ∨ ∃ q, f (0 :: p) = some (0 :: q)) {d : D} {md : Md} {t t' : Tag} {v : V} (hf : ∀ p, f (t ++ p) = some (t' ++ p)) (h : Rp K w H md t d v) : Rp K (bindO w f) H md t' d v :=
  Rp.map (Mp.move hl) d ⟨rfl, hf⟩ h
theorem RpL.move {f : Tag → Option Tag} (hl : ∀ p, f (0 :: p) = none ∨ ∃ q, f (0 :: p) = some (0 :: q)) {d : List D} {md : Md} {t t' : Tag} {i : Nat} {v : List V} (hf : ∀ p, f (t ++ p) = some (t' ++ p)) (h : RpL K w H md t i d v) : RpL K (bindO w f) H md t' i d v :=
  RpL.map (Mp.move hl) d ⟨rfl, hf⟩ h
/-- a structure is shared from now on: its tags go -/
theorem Mp.freeze {f : Tag → Option Tag} : Mp K w H (bindO w f) H (fun md t md' _ => md ≠ .lent ∧ md' = .own 0 ∧ ∀ p, f (t ++ p) = none) where
  tup := fun _ _ h => h
  fz := fun _ _ _ h => h
  ix := fun {md t md' t'} i h => ⟨h.1, h.2.1, fun p => by rw [List.append_assoc]; exact h.2.2 _⟩
  sub := fun {md t md' t'} h => by
    obtain ⟨h0, rfl, h⟩ := h
    refine ⟨?_, rfl, h⟩
    cases md with
    | lent => exact (h0 rfl).elim
    | all => exact fun z => by cases z
    | own n => exact fun z => by cases z
  nd := fun {md t md' t'} a o h m n ob => by
    obtain ⟨hl, rfl, h⟩ := h
    have h0 := h []
    rw [List.append_nil] at h0
    cases md with
    | lent => exact (hl rfl).elim
    | all => exact ⟨(bindO_some n).trans h0, ob⟩
    | own n' =>
      cases n' with
      | zero => exact ⟨bindO_none n, ob⟩
      | succ n' => exact ⟨(bindO_some n).trans h0, ob⟩
theorem Rp.freeze {f : Tag → Option Tag} {d : D} {md : Md} {t t' : Tag} {v : V} (hl : md ≠ .lent) (hf : ∀ p, f (t ++ p) = none) (h : Rp K w H md t d v) : Rp K (bindO w f) H (.own 0) t' d v :=
  Rp.map Mp.freeze d ⟨hl, rfl, hf⟩ h
/-- a structure is lent: its tags become the callers' (or go) -/
theorem Mp.lend {f : Tag → Option Tag} (hl : ∀ p, f (0 :: p) = none ∨ ∃ q, f (0 :: p) = some (0 :: q)) : Mp K w H (bindO w f) H (fun _ t md' _ => md' = .lent ∧ ∀ p, f (t ++ p) = none ∨ ∃ q, f (t ++ p) = some (0 :: q)) where
  tup := fun _ _ h => h
  fz := fun _ _ _ h => h
  ix := fun {md t md' t'} i h => ⟨h.1, fun p => by rw [List.append_assoc]; exact h.2 _⟩
  sub := fun {md t md' t'} h => by
    obtain ⟨rfl, h⟩ := h
    exact ⟨rfl, h⟩
  nd := fun {md t md' t'} a o h m n ob => by
    obtain ⟨rfl, h⟩ := h
    have go : ∀ t', w a = some t' → (f t' = none ∨ ∃ q, f t' = some (0 :: q)) → bindO w f a = none ∨ ∃ p, bindO w f a = some (0 :: p) := fun t' e z => by
      rw [bindO_some e]
      exact z
    cases md with
    | lent =>
      refine ⟨?_, ob⟩
      rcases n with n | ⟨q, n⟩
      · exact .inl (bindO_none n)
      · exact go _ n (hl q)
    | all =>
      have h0 := h []
      rw [List.append_nil] at h0
      exact ⟨go _ n h0, ob⟩
    | own n' =>
      cases n' with
      | zero => exact ⟨.inl (bindO_none n), ob⟩
      | succ n' =>
        have h0 := h []
        rw [List.append_nil] at h0
        exact ⟨go _ n h0, ob⟩
theorem Rp.lend {f : Tag → Option Tag} (hl : ∀ p, f (0 :: p) = none ∨ ∃ q, f (0 :: p) = some (0 :: q)) {d : D} {md : Md} {t t' : Tag} {v : V} (hf : ∀ p, f (t ++ p) = none ∨ ∃ q, f (t ++ p) = some (0 :: q)) (h : Rp K w H md t d v) : Rp K (bindO w f) H .lent t' d v :=
  Rp.map (Mp.lend hl) d ⟨rfl, hf⟩ h
/-- what f does to the owners, as a step -/
theorem Stp.bindO {f : Tag → Option Tag} (h1 : ∀ k p, kp k → f (k :: p) = some (k :: p)) (h2 : ∀ t k p, kp k → f t = some (k :: p) → t = k :: p) : Stp kp w H (bindO w f) H where
  sh := fun a o e h => ⟨h, bindO_none e⟩
  own := fun a k p o e hk h => ⟨h, (bindO_some e).trans (h1 k p hk)⟩
  back := fun a k p e hk => by
    cases q : w a with
    | none => rw [bindO_none q] at e; cases e
    | some t =>
      rw [bindO_some q] at e
      rw [h2 t k p hk e]
/-- the temporaries from r on go -/
def cutF (r : Nat) : Tag → Option Tag
  | [] => none
  | k :: p => if k < r then some (k :: p) else none
def cutO (w : Om) (r : Nat) : Om := bindO w (cutF r)
theorem cutF_lt {k : Nat} {p : Tag} (h : k < r) : cutF r (k :: p) = some (k :: p) := if_pos h
theorem Stp.cut (h : ∀ k, kp k → k < r) : Stp kp w H (cutO w r) H :=
  Stp.bindO (fun k p hk => cutF_lt (h k hk)) fun t k p hk e => by
    cases t with
    | nil => cases e
    | cons k' p' =>
      have e : (if k' < r then some (k' :: p') else Option.none) = some (k :: p) := e
      by_cases z : k' < r
      · rw [if_pos z] at e; exact Option.some.inj e
      · rw [if_neg z] at e; cases e
theorem Dom.cut (d : Dom w H r') (r : Nat) : Dom (cutO w r) H r := fun a t e => by
  cases q : w a with
  | none => rw [cutO, bindO_none q] at e; cases e
  | some t' =>
    obtain ⟨m, k, p, rfl, l⟩ := d a t' q
    rw [cutO, bindO_some q] at e
    have e : (if k < r then some (k :: p) else Option.none) = some t := e
    by_cases z : k < r
    · rw [if_pos z] at e
      cases e
      exact ⟨m, k, p, rfl, z⟩
    · rw [if_neg z] at e; cases e
/-- a new object, owned by t or shared -/
def setO (w : Om) (b : Addr) (t : Option Tag) : Om := fun a => if a = b then t else w a
theorem setO_same {b : Addr} {t : Option Tag} : setO w b t b = t := if_pos rfl
theorem setO_ne {a b : Addr} {t : Option Tag} (h : a ≠ b) : setO w b t a = w a := if_neg h
theorem Stp.new {b : Addr} {o : HO} {t : Option Tag} (hb : H b = none) (ht : ∀ k p, t = some (k :: p) → ¬ kp k) : Stp kp w H (setO w b t) (upd H b o) where
  sh := fun a u e h => by
    have n := ne_of_none h hb
    exact ⟨by rw [upd_ne n]; exact h, by rw [setO_ne n]; exact e⟩
  own := fun a k p u e hk h => by
    have n := ne_of_none h hb
    exact ⟨by rw [upd_ne n]; exact h, by rw [setO_ne n]; exact e⟩
  back := fun a k p e hk => by
    by_cases z : a = b
    · subst z
      rw [setO_same] at e
      exact (ht k p e hk).elim
    · rw [setO_ne z] at e; exact e
theorem Dom.new (d : Dom w H r) {b : Addr} {o : HO} {t : Option Tag} (hb : H b = Option.none) (ht : ∀ t', t = some t' → Mut (some o) ∧ ∃ k p, t' = k :: p ∧ k < r) : Dom (setO w b t) (upd H b o) r := fun a t' e => by
  by_cases z : a = b
  · subst z
    rw [setO_same] at e
    rw [upd_same]
    exact ht t' e
  · rw [setO_ne z] at e
    rw [upd_ne z]
    exact d a t' e
/-- an owned object is written: its owner t is no other structure's -/
theorem Stp.write {b : Addr} {o : HO} {k : Nat} {p : Tag} (hb : w b = some (k :: p)) (hk : ¬ kp k) : Stp kp w H w (upd H b o) where
  sh := fun a u e h => by
    have n : a ≠ b := fun z => by rw [z, hb] at e; cases e
    exact ⟨by rw [upd_ne n]; exact h, e⟩
  own := fun a k' p' u e hk' h => by
    have n : a ≠ b := fun z => by
      rw [z, hb] at e
      cases e
      exact hk hk'
    exact ⟨by rw [upd_ne n]; exact h, e⟩
  back := fun a k p e _ => e
theorem Dom.write (d : Dom w H r) {b : Addr} {o : HO} (m : Mut (some o)) : Dom w (upd H b o) r := fun a t e => by
  by_cases z : a = b
  · subst z
    rw [upd_same]
    exact ⟨m, (d a t e).2⟩
  · rw [upd_ne z]
    exact d a t e
/-- a structure whose tags are others than the written one's -/
theorem Mp.write {b : Addr} {o : HO} {tb : Tag} (d : Dom w H r) (hb : w b = some tb) (h0 : ∀ p, tb ≠ 0 :: p) : Mp K w H w (upd H b o) (fun md t md' t' => md' = md ∧ t' = t ∧ ∀ p, t ++ p ≠ tb) where
  tup := fun a xs h => by
    have mb := (d b tb hb).1
    have n : ∀ v, H a = some v → ¬ Mut (some v) → a ≠ b := fun v e q z => by
      rw [z] at e
      rw [e] at mb
      exact q mb
    rcases h with h | h
    · exact .inl (by rw [upd_ne (n _ h fun z => z)]; exact h)
    · exact .inr h
  fz := fun a o u h => by
    have mb := (d b tb hb).1
    have n : a ≠ b := fun z => by
      rw [z] at h
      rw [h] at mb
      exact mb
    rw [upd_ne n]; exact h
  ix := fun {md t md' t'} i h => by
    obtain ⟨rfl, rfl, h⟩ := h
    exact ⟨rfl, rfl, fun p => by rw [List.append_assoc]; exact h _⟩
  sub := fun {md t md' t'} h => by
    obtain ⟨rfl, rfl, h⟩ := h
    exact ⟨rfl, rfl, h⟩
  nd := fun {md t md' t'} a u h m n ob => by
    obtain ⟨rfl, rfl, h⟩ := h
    have key : a ≠ b → Ob H md' a u → Ob (upd H b o) md' a u := fun ne q => (upd_ne ne).trans q
    refine ⟨n, key (fun z => ?_) ob⟩
    cases md' with
    | lent =>
      rcases n with n | ⟨p, n⟩
      · rw [z, hb] at n; cases n
      · rw [z, hb] at n; cases n; exact h0 p rfl
    | all =>
      have n' : w a = some t' := n
      rw [z, hb] at n'
      have := h []
      rw [List.append_nil] at this
      exact this (Option.some.inj n').symm
    | own n' =>
      cases n' with
      | zero =>
        have n' : w a = none := n
        rw [z, hb] at n'; cases n'
      | succ n' =>
        have n' : w a = some t' := n
        rw [z, hb] at n'
        have := h []
        rw [List.append_nil] at this
        exact this (Option.some.inj n').symm
theorem Rp.write {b : Addr} {o : HO} {tb : Tag} {dd : D} {md : Md} {t : Tag} {v : V} (h : Rp K w H md t dd v) (d : Dom w H r) (hb : w b = some tb) (h0 : ∀ p, tb ≠ 0 :: p) (ht : ∀ p, t ++ p ≠ tb) : Rp K w (upd H b o) md t dd v :=
  Rp.map (Mp.write d hb h0) dd ⟨rfl, rfl, ht⟩ h
theorem RpL.write {b : Addr} {o : HO} {tb : Tag} {dd : List D} {md : Md} {t : Tag} {v : List V} {i : Nat} (h : RpL K w H md t i dd v) (d : Dom w H r) (hb : w b = some tb) (h0 : ∀ p, tb ≠ 0 :: p) (ht : ∀ j p, t ++ j :: p ≠ tb) : RpL K w (upd H b o) md t i dd v := by
  induction dd generalizing i v with
  | nil => exact h
  | cons d' ds ih =>
    obtain ⟨u, rr, e, h1, h2⟩ := h
    exact ⟨u, rr, e, h1.write d hb h0 (fun p => by rw [List.append_assoc]; exact ht i p), ih h2⟩
end

/-! ### states -/
structure Sat (K : PySem.W.Frag) (N r : Nat) (w : Om) (H : Hp) (σ : St) (e : Rho) : Prop where
  ls : σ.length = N
  lr : e.length = N
  dom : Dom w H r
  slot : ∀ (i : Nat) (c : Cel), e[i]? = some (some c) → ∃ v, σ[i]? = some (some v) ∧ Rp K w H c.1 [i + 1] c.2 v
section
variable {K : PySem.W.Frag} {N r r' : Nat} {w w' : Om} {H H' : Hp} {σ : St} {e : Rho} {kp : Nat → Prop}
theorem Sat.up (s : Sat K N r w H σ e) (h : r ≤ r') : Sat K N r' w H σ e := ⟨s.ls, s.lr, s.dom.sub h, s.slot⟩
theorem Sat.lt (s : Sat K N r w H σ e) {i : Nat} {c : Cel} (h : e[i]? = some (some c)) : i < N := by
  have := (List.getElem?_eq_some_iff.mp h).1
  rw [s.lr] at this; exact this
/-- a step that keeps all slots -/
theorem Sat.stp (s : Sat K N r w H σ e) (x : Stp kp w H w' H') (hk : ∀ k, k ≤ N → kp k) (d : Dom w' H' r') : Sat K N r' w' H' σ e :=
  ⟨s.ls, s.lr, d, fun i c h => by
    obtain ⟨v, h1, h2⟩ := s.slot i c h
    exact ⟨v, h1, h2.stp s.dom x (hk 0 (Nat.zero_le _)) (hk _ (s.lt h))⟩⟩
theorem Sat.cut (s : Sat K N r' w H σ e) (hr : N < r) : Sat K N r (cutO w r) H σ e :=
  s.stp (kp := fun k => k < r) (Stp.cut fun _ h => h) (fun k h => Nat.lt_of_le_of_lt h hr) (s.dom.cut r)
/-- a new object at a temporary's root or shared -/
theorem Sat.new (s : Sat K N r w H σ e) {b : Addr} {o : HO} {t : Option Tag} (hb : H b = none) (hr : N < r') (hrr : r ≤ r') (ht : ∀ t', t = some t' → Mut (some o) ∧ ∃ p, t' = r' :: p) : Sat K N (r' + 1) (setO w b t) (upd H b o) σ e :=
  s.stp (kp := fun k => k < r') (Stp.new hb fun k p q hk => by
    obtain ⟨_, p', z⟩ := ht _ q
    cases z
    exact Nat.lt_irrefl _ hk) (fun k h => Nat.lt_of_le_of_lt h hr) ((s.dom.sub (Nat.le_succ_of_le hrr)).new hb fun t' q => by
      obtain ⟨m, p, z⟩ := ht t' q
      exact ⟨m, r', p, z, Nat.lt_succ_self _⟩)
end

/-! ### results -/
/-- what a step of an expression keeps: all roots below r but those of the slots in T -/
def kpE (T : List Nat) (r k : Nat) : Prop := k < r ∧ ∀ i ∈ T, k ≠ i + 1
theorem kpE.zero {T : List Nat} {r : Nat} (h : 0 < r) : kpE T r 0 := ⟨h, fun i _ z => by cases z⟩
inductive Src where
  | tmp
  | slot (i : Nat)
  | path (i : Nat)
def Src.ok : Src → Nat → St → V → Tag → Prop
  | .tmp, r, _, _, t => t = [r]
  | .slot i, _, σ, v, t => t = [i + 1] ∧ σ[i]? = some (some v)
  | .path i, _, _, _, t => ∃ p, t = (i + 1) :: p
/-- a source that a later step, which touches the slots in T, leaves -/
def Src.off : Src → List Nat → Bool
  | .tmp, _ => true
  | .slot i, T => !T.contains i
  | .path i, T => !T.contains i
theorem Src.kept {S : Src} {T : List Nat} {r r' N : Nat} {t : Tag} {σ : St} {v : V} (h : S.ok r σ v t) (o : S.off T = true) (hr : r < r') (hN : N < r) (hs : ∀ i, S = .slot i ∨ S = .path i → i < N) (hT : ∀ i ∈ T, i < N) : ∃ k p, t = k :: p ∧ kpE T r' k := by
  cases S with
  | tmp =>
    refine ⟨r, [], h, hr, fun i hi z => ?_⟩
    have := hT i hi
    omega
  | slot i =>
    have hi := hs i (.inl rfl)
    refine ⟨i + 1, [], h.1, by omega, fun j hj z => ?_⟩
    have o' : (!T.contains i) = true := o
    have : j = i := by omega
    subst this
    simp [hj] at o'
  | path i =>
    have hi := hs i (.inr rfl)
    obtain ⟨p, h⟩ := h
    refine ⟨i + 1, p, h, by omega, fun j hj z => ?_⟩
    have o' : (!T.contains i) = true := o
    have : j = i := by omega
    subst this
    simp [hj] at o'
def XOk (X : Cx) (w : Om) (H : Hp) (x : Exn) (cls : Value) (da : Option Addr) : Prop :=
  X.mg x.cls = some cls ∧ (x.fs ≠ [] → ∃ d ws, da = some d ∧ H d = some (.xd ws) ∧ RpF X.K w H (.own 0) [0] 0 x.fs ws) ∧ (x.fs = [] → da = none)
def GoodE (X : Cx) (W : WX) (T : List Nat) (S : Src) (r : Nat) (w : Om) (H : Hp) (σ : St) (Q : VK) : Res Cel → Prop
  | .stuck => False
  | .ok c e' => ∀ w' H' v t, Sat X.K X.N.length (r + 1) w' H' σ e' → S.ok r σ v t → Rp X.K w' H' c.1 t c.2 v → Stp (kpE T r) w H w' H' → Q v H'
  | .exc x e' => ∀ w' H' cls da, Sat X.K X.N.length r w' H' σ e' → XOk X w' H' x cls da → Stp (kpE T r) w H w' H' → W cls da σ H'
/-- an expression's value is what f says; T: the slots that it may change; S: where the value lies -/
structure DE (X : Cx) (W : WX) (T : List Nat) (S : Src) (e : Expr) (f : Rho → Res Cel) : Prop where
  ex : ∃ t : TE, PE X e t ∧ ∀ r w H σ ρ Q, X.N.length < r → Sat X.K X.N.length r w H σ ρ → GoodE X W T S r w H σ Q (f ρ) → t σ H Q
def GoodT (X : Cx) (W : WX) (T : List Nat) (r : Nat) (w : Om) (H : Hp) (σ : St) (Q : Bool → Hp → Prop) : Res Bool → Prop
  | .stuck => False
  | .ok c e' => ∀ w' H', Sat X.K X.N.length r w' H' σ e' → Stp (kpE T r) w H w' H' → Q c H'
  | .exc x e' => ∀ w' H' cls da, Sat X.K X.N.length r w' H' σ e' → XOk X w' H' x cls da → Stp (kpE T r) w H w' H' → W cls da σ H'
structure DT (X : Cx) (W : WX) (T : List Nat) (e : Expr) (f : Rho → Res Bool) : Prop where
  ex : ∃ t : TT, PT X e t ∧ ∀ r w H σ ρ Q, X.N.length < r → Sat X.K X.N.length r w H σ ρ → GoodT X W T r w H σ Q (f ρ) → t σ H Q
/-- the parameters that are handed back stay where they are -/
def Fx (M : List Nat) (σ σ' : St) : Prop := ∀ j ∈ M, σ'[j]? = σ[j]?
theorem Fx.refl {M : List Nat} {σ : St} : Fx M σ σ := fun _ _ => rfl
theorem Fx.trans {M : List Nat} {a b c : St} (x : Fx M a b) (y : Fx M b c) : Fx M a c := fun j h => (y j h).trans (x j h)
def GoodS (X : Cx) (W : WX) (M T : List Nat) (r : Nat) (w : Om) (H : Hp) (σ : St) (D : Ends) : SR → Prop
  | .stuck => False
  | .nx e' => ∀ w' H' σ', Sat X.K X.N.length r w' H' σ' e' → Stp (kpE T r) w H w' H' → Fx M σ σ' → D.nx σ' H'
  | .bk e' => ∀ w' H' σ', Sat X.K X.N.length r w' H' σ' e' → Stp (kpE T r) w H w' H' → Fx M σ σ' → D.bk σ' H'
  | .ct e' => ∀ w' H' σ', Sat X.K X.N.length r w' H' σ' e' → Stp (kpE T r) w H w' H' → Fx M σ σ' → D.ct σ' H'
  | .rt c e' => ∀ w' H' σ' v, Sat X.K X.N.length (r + 1) w' H' σ' e' → Rp X.K w' H' c.1 [r] c.2 v → Stp (kpE T r) w H w' H' → Fx M σ σ' → D.rt v H'
  | .exc x e' => ∀ w' H' σ' cls da, Sat X.K X.N.length r w' H' σ' e' → XOk X w' H' x cls da → Stp (kpE T r) w H w' H' → Fx M σ σ' → W cls da σ' H'
structure DS (X : Cx) (W : WX) (M T : List Nat) (st : Stmt) (f : Rho → SR) : Prop where
  ex : ∃ t : TS, PS X st t ∧ ∀ r w H σ ρ D, X.N.length < r → Sat X.K X.N.length r w H σ ρ → GoodS X W M T r w H σ D (f ρ) → t D σ H
structure DSs (X : Cx) (W : WX) (M T : List Nat) (sts : List Stmt) (f : Rho → SR) : Prop where
  ex : ∃ t : TS, PSs X sts t ∧ ∀ r w H σ ρ D, X.N.length < r → Sat X.K X.N.length r w H σ ρ → GoodS X W M T r w H σ D (f ρ) → t D σ H
/-! ### bounds by evaluation -/
theorem ltN {i n : Nat} (h : Nat.blt i n = true) : i < n := Nat.le_of_ble_eq_true h
theorem lt_all {T : List Nat} {n : Nat} (h : (T.all fun i => Nat.blt i n) = true) : ∀ i ∈ T, i < n := fun i hi => ltN (List.all_eq_true.mp h i hi)
end DL

/-! DL part 3: expressions. -/
namespace DL
open PySem L2
section
variable {K : PySem.W.Frag} {N r r' : Nat} {w w' w1 : Om} {H H' H1 : Hp} {σ : St} {ρ ρ' : Rho}
def setF (r r' : Nat) : Tag → Option Tag
  | [] => none
  | k :: p => if k < r then some (k :: p) else if k = r' then some (r :: p) else none
theorem setF_lt {k : Nat} {p : Tag} (h : k < r) : setF r r' (k :: p) = some (k :: p) := if_pos h
theorem setF_eq {p : Tag} (h : r ≤ r') : setF r r' (r' :: p) = some (r :: p) := by
  show (if r' < r then _ else if r' = r' then _ else _) = _
  rw [if_neg (by omega), if_pos rfl]
theorem setF_cases {t : Tag} {k : Nat} {p : Tag} (e : setF r r' t = some (k :: p)) : (t = k :: p ∧ k < r) ∨ (k = r ∧ t = r' :: p) := by
  cases t with
  | nil => cases e
  | cons k' p' =>
    have e : (if k' < r then some (k' :: p') else if k' = r' then some (r :: p') else Option.none) = some (k :: p) := e
    by_cases z : k' < r
    · rw [if_pos z] at e; cases e; exact .inl ⟨rfl, z⟩
    · rw [if_neg z] at e
      by_cases y : k' = r'
      · rw [if_pos y] at e; cases e; subst y; exact .inr ⟨rfl, rfl⟩
      · rw [if_neg y] at e; cases e
/-- the result at a far temporary's place comes to r, all other temporaries go -/
theorem settle {md : Md} {d : D} {v : V} (hN : N < r) (hr : r ≤ r') (s : Sat K N (r' + 1) w' H' σ ρ') (h : Rp K w' H' md [r'] d v) :
    ∃ w'', Sat K N (r + 1) w'' H' σ ρ' ∧ Rp K w'' H' md [r] d v ∧ Stp (fun k => k < r) w' H' w'' H' := by
  have st : Stp (fun k => k < r) w' H' (bindO w' (setF r r')) H' := Stp.bindO (fun k p hk => setF_lt hk) fun t k p hk e => by
    rcases setF_cases e with ⟨e, _⟩ | ⟨e, _⟩
    · exact e
    · omega
  have dm : Dom (bindO w' (setF r r')) H' (r + 1) := fun a t e => by
    cases q : w' a with
    | none => rw [bindO_none q] at e; cases e
    | some t' =>
      rw [bindO_some q] at e
      obtain ⟨m, k, p, rfl, l⟩ := s.dom a t' q
      refine ⟨m, ?_⟩
      cases t with
      | nil =>
        have e : (if k < r then some (k :: p) else if k = r' then some (r :: p) else Option.none) = some [] := e
        split at e
        · cases e
        · split at e
          · cases e
          · cases e
      | cons k2 p2 =>
        refine ⟨k2, p2, rfl, ?_⟩
        rcases setF_cases e with ⟨_, l⟩ | ⟨l, _⟩ <;> omega
  refine ⟨_, s.stp st (fun k hk => by omega) dm, ?_, st⟩
  exact Rp.move (fun p => .inr ⟨p, setF_lt (by omega)⟩) (fun p => setF_eq hr) h
theorem kpE.l {T T' : List Nat} {k : Nat} (h : kpE (T ++ T') r k) : kpE T r k := ⟨h.1, fun i hi => h.2 i (List.mem_append_left _ hi)⟩
theorem kpE.rt {T T' : List Nat} {k : Nat} (h : kpE (T ++ T') r k) : kpE T' r k := ⟨h.1, fun i hi => h.2 i (List.mem_append_right _ hi)⟩
theorem kpE.up {T : List Nat} {k : Nat} (h : kpE T r k) (l : r ≤ r') : kpE T r' k := ⟨Nat.lt_of_lt_of_le h.1 l, h.2⟩
theorem kpE.lt {T : List Nat} {k : Nat} (h : kpE T r k) : k < r := h.1
theorem RpF.stp {d : List (Str × D)} {kp : Nat → Prop} {v : List (Str × V)} {i : Nat} (h : RpF K w H (.own 0) [0] i d v) (dm : Dom w H r) (s : Stp kp w H w' H') (k0 : kp 0) : RpF K w' H' (.own 0) [0] i d v :=
  RpF.map (s.mp dm k0) d ⟨rfl, rfl, 0, [], rfl, k0⟩ h
theorem XOk.stp {X : Cx} {x : Exn} {cls : Value} {da : Option Addr} {kp : Nat → Prop} (h : XOk X w H x cls da) (dm : Dom w H r) (s : Stp kp w H w' H') (k0 : kp 0) : XOk X w' H' x cls da := by
  refine ⟨h.1, fun n => ?_, h.2.2⟩
  obtain ⟨d, ws, e, hd, hf⟩ := h.2.1 n
  exact ⟨d, ws, e, (s.sh d _ (dm.none hd fun z => z) hd).1, hf.stp dm s k0⟩
end
/-- what a slot may be -/
def Src.lt (N : Nat) : Src → Prop
  | .tmp => True
  | .slot i => i < N
  | .path i => i < N
def Src.ltB (N : Nat) : Src → Bool
  | .tmp => true
  | .slot i => Nat.blt i N
  | .path i => Nat.blt i N
theorem ltS {N : Nat} {S : Src} (h : S.ltB N = true) : S.lt N := by
  cases S with
  | tmp => exact trivial
  | slot i => exact ltN h
  | path i => exact ltN h
theorem lt_allS {N : Nat} {Ss : List Src} (h : (Ss.all (Src.ltB N)) = true) : ∀ S ∈ Ss, S.lt N := fun S hS => ltS (List.all_eq_true.mp h S hS)
theorem Src.lt_of {N : Nat} {S : Src} (h : S.lt N) : ∀ i, S = .slot i ∨ S = .path i → i < N := fun i e => by
  rcases e with e | e <;> (subst e; exact h)

section
variable {X : Cx} {W : WX}
/-- an exception within, seen from without -/
theorem excUp {T T1 : List Nat} {r r0 : Nat} {w w0 w' : Om} {H H0 H' : Hp} {σ : St} {x : Exn} {e' : Rho} {cls : Value} {da : Option Addr} (hN : X.N.length < r0) (hr : r0 ≤ r)
    (g : ∀ w' H' cls da, Sat X.K X.N.length r0 w' H' σ e' → XOk X w' H' x cls da → Stp (kpE T r0) w0 H0 w' H' → W cls da σ H') (st0 : Stp (kpE T r0) w0 H0 w H) (hT : ∀ i ∈ T1, i ∈ T)
    (s : Sat X.K X.N.length r w' H' σ e') (xo : XOk X w' H' x cls da) (st : Stp (kpE T1 r) w H w' H') : W cls da σ H' := by
  have c : Stp (kpE T r0) w' H' (cutO w' r0) H' := Stp.cut fun k h => h.1
  refine g _ _ cls da (s.cut hN) (xo.stp s.dom c (kpE.zero (by omega))) ((st0.trans (st.mono fun k h => ⟨Nat.lt_of_lt_of_le h.1 hr, fun i hi => h.2 i (hT i hi)⟩)).trans c)

/-! ### names, constants -/
def dVar (i : Nat) : Rho → Res Cel := fun ρ => match ρ[i]? with
  | some (some c) => .ok c ρ
  | _ => .stuck
theorem de_var (i : Nat) {x : Str} {pos : Pos} (hN : X.N[i]? = some x := by rfl) (hv : Vis X.env.scope x := by first | exact Or.inl rfl | exact Or.inr (Or.inl rfl) | exact Or.inr (Or.inr rfl)) (hd : (x == ("__debug__" : Str)) = false := by decide)
    (hcd : (x == ("__classdict__" : Str)) = false := by decide) : DE X W [] (.slot i) (.Name x pos) (dVar i) := by
  refine ⟨_, pe_var hN hv hd hcd, fun r w H σ ρ Q hr s g => ?_⟩
  unfold dVar at g
  split at g
  · rename_i c e
    obtain ⟨v, h1, h2⟩ := s.slot i c e
    exact ⟨v, h1, g w H v [i + 1] (s.up (Nat.le_succ _)) ⟨rfl, h1⟩ h2 Stp.refl⟩
  · exact g.elim
def dC (d : D) : Rho → Res Cel := fun ρ => .ok (.own 0, d) ρ
theorem de_C {e : Expr} {d : D} {v : V} (h : PE X e (tC v)) (hd : ∀ K w H t, Rp K w H (.own 0) t d v) : DE X W [] .tmp e (dC d) :=
  ⟨_, h, fun r w H σ ρ Q hr s g => g w H v [r] (s.up (Nat.le_succ _)) rfl (hd _ _ _ _) Stp.refl⟩
theorem de_int {i : Int} {j pos} : DE X W [] .tmp (.Constant (.int i) j pos) (dC (.int i)) := de_C pe_int fun _ _ _ _ => rfl
theorem de_bl {b : Bool} {j pos} : DE X W [] .tmp (.Constant (.bool b) j pos) (dC (.bl b)) := de_C pe_bl fun _ _ _ _ => rfl
theorem de_non {j pos} : DE X W [] .tmp (.Constant .none j pos) (dC .non) := de_C pe_non fun _ _ _ _ => rfl
theorem de_str {x : Str} {j pos} : DE X W [] .tmp (.Constant (.str x) j pos) (dC (.str x)) := de_C pe_str fun _ _ _ _ => rfl
/-- a module's constant -/
theorem de_glob {x : Str} {d : D} {v : V} {u : Value} {pos : Pos} (hg : Gl X x) (hm : X.mg x = some u) (r : RelV v u) (hv : ∀ K w H t, Rp K w H (.own 0) t d v) (hd : (x == ("__debug__" : Str)) = false := by decide) : DE X W [] .tmp (.Name x pos) (dC d) :=
  de_C (pe_glob hg hm r hd) hv
/-- what is read becomes a value of its own: data without lists, or shared -/
def asVal (c : Cel) : Option Cel := if imm c.2 = true then some (.own 0, c.2) else match c.1 with
  | .own 0 => some c
  | .lent => some c
  | _ => none
def dVal (f : Rho → Res Cel) : Rho → Res Cel := fun ρ => (f ρ).bind fun c ρ1 => match asVal c with
  | some c => .ok c ρ1
  | none => .stuck
theorem asVal_ok {K : PySem.W.Frag} {w : Om} {H : Hp} {c c' : Cel} {t t' : Tag} {v : V} (e : asVal c = some c') (h : Rp K w H c.1 t c.2 v) : Rp K w H c'.1 t' c'.2 v := by
  unfold asVal at e
  split at e
  · rename_i hi
    cases e
    exact Rp.imm ⟨fun _ _ x => x, fun _ _ _ x => x⟩ _ hi h
  · split at e
    · rename_i q
      cases e
      rw [q] at h ⊢
      exact Rp.retagF (show Md.flat (.own 0) from trivial) h
    · rename_i q
      cases e
      rw [q] at h ⊢
      exact Rp.retagF (show Md.flat .lent from trivial) h
    · cases e
theorem de_val {T : List Nat} {S : Src} {e : Expr} {f : Rho → Res Cel} (A : DE X W T S e f) : DE X W T .tmp e (dVal f) := by
  obtain ⟨t, pe, A⟩ := A.ex
  refine ⟨t, pe, fun r w H σ ρ Q hr s g => A r w H σ ρ Q hr s ?_⟩
  unfold dVal at g
  cases e1 : f ρ with
  | stuck => rw [e1] at g; exact g
  | exc x e' => rw [e1] at g; exact g
  | ok c ρ1 =>
    rw [e1] at g
    intro w' H' v t s' o h st
    have g : GoodE X W T .tmp r w H σ Q (match asVal c with | some c => .ok c ρ1 | none => .stuck) := g
    cases e2 : asVal c with
    | none => rw [e2] at g; exact g.elim
    | some c' =>
      rw [e2] at g
      exact g w' H' v [r] s' rfl (asVal_ok e2 h) st

/-! ### two operands -/
/-- a two-place operation by values: it makes the cell that g says -/
def OpOk (K : PySem.W.Frag) (rr : R2) (g : Cel → Cel → Option Cel) : Prop :=
  ∀ r w H c1 c2 t1 t2 v1 v2 c Q, 0 < r → Dom w H r → Rp K w H c1.1 t1 c1.2 v1 → Rp K w H c2.1 t2 c2.2 v2 → g c1 c2 = some c →
    (∀ w' H' v, Dom w' H' (r + 1) → Stp (fun k => k < r) w H w' H' → Rp K w' H' c.1 [r] c.2 v → Q v H') → rr v1 v2 H Q
theorem OpOk.or {K : PySem.W.Frag} {r1 r2 : R2} {g1 g2 : Cel → Cel → Option Cel} (a : OpOk K r1 g1) (b : OpOk K r2 g2) :
    OpOk K (fun x y H Q => r1 x y H Q ∨ r2 x y H Q) (fun x y => (g1 x y).orElse fun _ => g2 x y) := by
  intro r w H c1 c2 t1 t2 v1 v2 c Q hr d h1 h2 e k
  cases q : g1 c1 c2 with
  | some c' =>
    have e : (g1 c1 c2).orElse (fun _ => g2 c1 c2) = some c := e
    rw [q] at e
    have e' : c' = c := Option.some.inj e
    subst e'
    exact .inl (a r w H c1 c2 t1 t2 v1 v2 c' Q hr d h1 h2 q k)
  | none =>
    have e : (g1 c1 c2).orElse (fun _ => g2 c1 c2) = some c := e
    rw [q] at e
    exact .inr (b r w H c1 c2 t1 t2 v1 v2 c Q hr d h1 h2 e k)
def ofO (o : Option Cel) (ρ : Rho) : Res Cel := match o with
  | some c => .ok c ρ
  | none => .stuck
def dBin (g : Cel → Cel → Option Cel) (f1 f2 : Rho → Res Cel) : Rho → Res Cel := fun ρ => (f1 ρ).bind fun c1 ρ1 => (f2 ρ1).bind fun c2 ρ2 => ofO (g c1 c2) ρ2
/-- both operands are there -/
theorem two {T1 T2 : List Nat} {S1 S2 : Src} {f1 f2 : Rho → Res Cel} {ta tb : TE} {β : Type} {G : Res β → Prop} {k : Cel → Cel → Rho → Res β} {r : Nat} {w : Om} {H : Hp} {σ : St} {ρ : Rho} {R : V → V → Hp → Prop} (hr : X.N.length < r)
    (hT : ∀ i ∈ T2, i < X.N.length) (hS : S1.lt X.N.length) (off : S1.off T2 = true)
    (A : ∀ r w H σ ρ Q, X.N.length < r → Sat X.K X.N.length r w H σ ρ → GoodE X W T1 S1 r w H σ Q (f1 ρ) → ta σ H Q) (B : ∀ r w H σ ρ Q, X.N.length < r → Sat X.K X.N.length r w H σ ρ → GoodE X W T2 S2 r w H σ Q (f2 ρ) → tb σ H Q)
    (s : Sat X.K X.N.length r w H σ ρ) (hst : ¬ G .stuck) (hx : ∀ x e', G (.exc x e') → ∀ w' H' cls da, Sat X.K X.N.length r w' H' σ e' → XOk X w' H' x cls da → Stp (kpE (T1 ++ T2) r) w H w' H' → W cls da σ H')
    (g : G ((f1 ρ).bind fun c1 ρ1 => (f2 ρ1).bind fun c2 ρ2 => k c1 c2 ρ2))
    (h : ∀ c1 c2 ρ2 w2 H2 v1 v2 t1 t2, G (k c1 c2 ρ2) → Sat X.K X.N.length (r + 2) w2 H2 σ ρ2 → Rp X.K w2 H2 c1.1 t1 c1.2 v1 → Rp X.K w2 H2 c2.1 t2 c2.2 v2 → Stp (kpE (T1 ++ T2) r) w H w2 H2 → R v1 v2 H2) :
    ta σ H fun x H1 => tb σ H1 fun y H2 => R x y H2 := by
  refine A r w H σ ρ _ hr s ?_
  cases e1 : f1 ρ with
  | stuck => rw [e1] at g; exact (hst g).elim
  | exc x e' =>
    rw [e1] at g
    intro w' H' cls da s' xo st
    exact hx x e' g w' H' cls da s' xo (st.mono fun k h => h.l)
  | ok c1 ρ1 =>
    rw [e1] at g
    intro w1 H1 v1 t1 s1 o1 h1 st1
    refine B (r + 1) w1 H1 σ ρ1 _ (by omega) s1 ?_
    have g : G ((f2 ρ1).bind fun c2 ρ2 => k c1 c2 ρ2) := g
    have st1' : Stp (kpE (T1 ++ T2) r) w H w1 H1 := st1.mono fun k h => h.l
    cases e2 : f2 ρ1 with
    | stuck => rw [e2] at g; exact (hst g).elim
    | exc x e' =>
      rw [e2] at g
      intro w' H' cls da s' xo st
      exact excUp hr (Nat.le_succ _) (hx x e' g) st1' (fun i hi => List.mem_append_right _ hi) s' xo st
    | ok c2 ρ2 =>
      rw [e2] at g
      intro w2 H2 v2 t2 s2 o2 h2 st2
      obtain ⟨k', p, e, hk⟩ := Src.kept o1 off (Nat.lt_succ_self r) hr (Src.lt_of hS) hT
      subst e
      exact h c1 c2 ρ2 w2 H2 v1 v2 _ t2 g s2 (h1.stp s1.dom st2 (kpE.zero (by omega)) hk) h2 (st1'.trans (st2.mono fun k h => h.rt.up (Nat.le_succ _)))
/-- the end of an operation that makes a cell -/
theorem opEnd {T : List Nat} {r r2 : Nat} {w w2 : Om} {H H2 : Hp} {σ : St} {ρ2 : Rho} {Q : VK} {c : Cel} (hr : X.N.length < r) (hr2 : r ≤ r2) (g : GoodE X W T .tmp r w H σ Q (.ok c ρ2)) (s2 : Sat X.K X.N.length r2 w2 H2 σ ρ2) (st : Stp (kpE T r) w H w2 H2) :
    ∀ w' H' v, Dom w' H' (r2 + 1) → Stp (fun k => k < r2) w2 H2 w' H' → Rp X.K w' H' c.1 [r2] c.2 v → Q v H' := fun w' H' v d st' h => by
  obtain ⟨w3, s3, h3, st3⟩ := settle hr hr2 (s2.stp (r' := r2 + 1) st' (fun k hk => by omega) d) h
  exact g w3 H' v [r] s3 rfl h3 ((st.trans (st'.mono fun k h => Nat.lt_of_lt_of_le h.1 hr2)).trans (st3.mono fun k h => h.1))
theorem de_bin {T1 T2 : List Nat} {S1 S2 : Src} {a b : Expr} {f1 f2 : Rho → Res Cel} {op : Operator} {rr : R2} {g : Cel → Cel → Option Cel} {pos : Pos} (ho : OpR X (binaryOp op) rr) (hg : OpOk X.K rr g) (A : DE X W T1 S1 a f1) (B : DE X W T2 S2 b f2)
    (hT : ∀ i ∈ T2, i < X.N.length := by exact lt_all rfl) (hS : S1.lt X.N.length := by first | exact trivial | exact ltS rfl) (off : S1.off T2 = true := by rfl) : DE X W (T1 ++ T2) .tmp (.BinOp a op b pos) (dBin g f1 f2) := by
  obtain ⟨ta, pa, A⟩ := A.ex
  obtain ⟨tb, pb, B⟩ := B.ex
  refine ⟨_, pe_op ho pa pb, fun r w H σ ρ Q hr s gg => ?_⟩
  refine two (β := Cel) (G := GoodE X W (T1 ++ T2) .tmp r w H σ Q) hr hT hS off A B s (fun z => z) (fun x e' z => z) gg fun c1 c2 ρ2 w2 H2 v1 v2 t1 t2 gg s2 h1 h2 st => ?_
  cases e : g c1 c2 with
  | none => rw [e] at gg; exact gg.elim
  | some c =>
    rw [e] at gg
    exact hg (r + 2) w2 H2 c1 c2 t1 t2 v1 v2 c Q (by omega) s2.dom h1 h2 e (opEnd hr (Nat.le_add_right _ _) gg s2 st)
/-- a comparison -/
def CmpOk (K : PySem.W.Frag) (rr : R2) (g : D → D → Option Bool) : Prop :=
  ∀ w H md1 md2 d1 d2 t1 t2 v1 v2 b Q, Rp K w H md1 t1 d1 v1 → Rp K w H md2 t2 d2 v2 → g d1 d2 = some b → Q (.bl b) H → rr v1 v2 H Q
theorem CmpOk.or {K : PySem.W.Frag} {r1 r2 : R2} {g1 g2 : D → D → Option Bool} (a : CmpOk K r1 g1) (b : CmpOk K r2 g2) :
    CmpOk K (fun x y H Q => r1 x y H Q ∨ r2 x y H Q) (fun x y => (g1 x y).orElse fun _ => g2 x y) := by
  intro w H md1 md2 d1 d2 t1 t2 v1 v2 c Q h1 h2 e k
  cases q : g1 d1 d2 with
  | some c' =>
    have e : (g1 d1 d2).orElse (fun _ => g2 d1 d2) = some c := e
    rw [q] at e
    have e' : c' = c := Option.some.inj e
    subst e'
    exact .inl (a w H md1 md2 d1 d2 t1 t2 v1 v2 c' Q h1 h2 q k)
  | none =>
    have e : (g1 d1 d2).orElse (fun _ => g2 d1 d2) = some c := e
    rw [q] at e
    exact .inr (b w H md1 md2 d1 d2 t1 t2 v1 v2 c Q h1 h2 e k)
def dCmp (g : D → D → Option Bool) (f1 f2 : Rho → Res Cel) : Rho → Res Bool := fun ρ => (f1 ρ).bind fun c1 ρ1 => (f2 ρ1).bind fun c2 ρ2 => match g c1.2 c2.2 with
  | some b => .ok b ρ2
  | none => .stuck
theorem dt_cmp {T1 T2 : List Nat} {S1 S2 : Src} {a b : Expr} {f1 f2 : Rho → Res Cel} {op : CmpOp} {rr : R2} {g : D → D → Option Bool} {pos : Pos} (ho : OpR X (compareOp op) rr) (hg : CmpOk X.K rr g) (A : DE X W T1 S1 a f1) (B : DE X W T2 S2 b f2)
    (hm : behindInMarks op b = false := by first | exact nomark _ | with_unfolding_all rfl)
    (hT : ∀ i ∈ T2, i < X.N.length := by exact lt_all rfl) (hS : S1.lt X.N.length := by first | exact trivial | exact ltS rfl) (off : S1.off T2 = true := by rfl) : DT X W (T1 ++ T2) (.Compare a [op] [b] pos) (dCmp g f1 f2) := by
  obtain ⟨ta, pa, A⟩ := A.ex
  obtain ⟨tb, pb, B⟩ := B.ex
  refine ⟨_, pt_cmpR ho pa pb hm, fun r w H σ ρ Q hr s gg => ?_⟩
  refine two (β := Bool) (G := GoodT X W (T1 ++ T2) r w H σ Q) hr hT hS off A B s (fun z => z) (fun x e' z => z) gg fun c1 c2 ρ2 w2 H2 v1 v2 t1 t2 gg s2 h1 h2 st => ?_
  cases e : g c1.2 c2.2 with
  | none => rw [e] at gg; exact gg.elim
  | some b' =>
    rw [e] at gg
    exact hg w2 H2 _ _ _ _ t1 t2 v1 v2 b' _ h1 h2 e ⟨b', rfl, gg (cutO w2 r) H2 (s2.cut hr) (st.trans (Stp.cut fun k h => h.1))⟩
def boolR (r : Res Bool) : Res Cel := r.bind fun b ρ => .ok (.own 0, .bl b) ρ
theorem de_cmp {T1 T2 : List Nat} {S1 S2 : Src} {a b : Expr} {f1 f2 : Rho → Res Cel} {op : CmpOp} {rr : R2} {g : D → D → Option Bool} {pos : Pos} (ho : OpR X (compareOp op) rr) (hg : CmpOk X.K rr g) (A : DE X W T1 S1 a f1) (B : DE X W T2 S2 b f2)
    (hm : behindInMarks op b = false := by first | exact nomark _ | with_unfolding_all rfl)
    (hT : ∀ i ∈ T2, i < X.N.length := by exact lt_all rfl) (hS : S1.lt X.N.length := by first | exact trivial | exact ltS rfl) (off : S1.off T2 = true := by rfl) : DE X W (T1 ++ T2) .tmp (.Compare a [op] [b] pos) (fun ρ => boolR (dCmp g f1 f2 ρ)) := by
  obtain ⟨ta, pa, A⟩ := A.ex
  obtain ⟨tb, pb, B⟩ := B.ex
  refine ⟨_, pe_cmpR ho pa pb hm, fun r w H σ ρ Q hr s gg => ?_⟩
  refine two (β := Bool) (G := fun z => GoodE X W (T1 ++ T2) .tmp r w H σ Q (boolR z)) hr hT hS off A B s (fun z => z) (fun x e' z => z) gg fun c1 c2 ρ2 w2 H2 v1 v2 t1 t2 gg s2 h1 h2 st => ?_
  cases e : g c1.2 c2.2 with
  | none => rw [e] at gg; exact gg.elim
  | some b' =>
    rw [e] at gg
    exact hg w2 H2 _ _ _ _ t1 t2 v1 v2 b' _ h1 h2 e (gg (cutO w2 r) H2 _ [r] ((s2.cut hr).up (Nat.le_succ _)) rfl rfl (st.trans (Stp.cut fun k h => h.1)))
end
end DL

/-! DL part 4: operators on data. -/
namespace DL
open PySem L2
section
variable {K : PySem.W.Frag} {w : Om} {H : Hp} {md : Md} {t : Tag} {r : Nat}
theorem Rp_int {i : Int} {v : V} : Rp K w H md t (.int i) v ↔ v = .int i := Iff.rfl
theorem Rp_str {x : Str} {v : V} : Rp K w H md t (.str x) v ↔ v = .str x := Iff.rfl
theorem Rp_bl {b : Bool} {v : V} : Rp K w H md t (.bl b) v ↔ v = .bl b := Iff.rfl
theorem Rp_non {v : V} : Rp K w H md t .non v ↔ v = .non := Iff.rfl
/-- the items of a list may stand in a new list as shared ones -/
def flat0 (md : Md) (ds : List D) : Bool := match md with
  | .own 0 => true
  | .own 1 => true
  | _ => immL ds
theorem flat0_ok {ds : List D} {vs : List V} {i i' : Nat} {t' : Tag} (f : flat0 md ds = true) (h : RpL K w H md.sub t i ds vs) : RpL K w H (.own 0) t' i' ds vs := by
  have im : immL ds = true → RpL K w H (.own 0) t' i' ds vs := fun q => RpL.imm ⟨fun _ _ x => x, fun _ _ _ x => x⟩ ds q h
  cases md with
  | lent => exact im f
  | all => exact im f
  | own n =>
    cases n with
    | zero => exact RpL.retagF (show Md.flat (.own 0) from trivial) (ds := ds) (vs := vs) h
    | succ n =>
      cases n with
      | zero => exact RpL.retagF (show Md.flat (.own 0) from trivial) (ds := ds) (vs := vs) h
      | succ n => exact im f
theorem RpL.stpF {ds : List D} {kp : Nat → Prop} {w' : Om} {H' : Hp} {vs : List V} {i : Nat} (hf : md.flat) (h : RpL K w H md t i ds vs) (dm : Dom w H r) (s : Stp kp w H w' H') (k0 : kp 0) : RpL K w' H' md t i ds vs :=
  RpL.retagF hf (ds := ds) (vs := vs) (RpL.stp (k := 0) (p := []) (i := i) (RpL.retagF hf (ds := ds) (vs := vs) h) dm s k0 k0)
/-- .. of a tuple -/
def flatT (md : Md) (ds : List D) : Bool := match md with
  | .own 0 => true
  | _ => immL ds
theorem flatT_ok {ds : List D} {vs : List V} {i i' : Nat} {t' : Tag} (f : flatT md ds = true) (h : RpL K w H md t i ds vs) : RpL K w H (.own 0) t' i' ds vs := by
  have im : immL ds = true → RpL K w H (.own 0) t' i' ds vs := fun q => RpL.imm ⟨fun _ _ x => x, fun _ _ _ x => x⟩ ds q h
  cases md with
  | lent => exact im f
  | all => exact im f
  | own n =>
    cases n with
    | zero => exact RpL.retagF (show Md.flat (.own 0) from trivial) (ds := ds) (vs := vs) h
    | succ n => exact im f
/-- a new list of shared items -/
theorem newList {ds : List D} {vs : List V} {t' : Tag} {i : Nat} {Q : VK} (hr : 0 < r) (d : Dom w H r) (h : RpL K w H (.own 0) t' i ds vs)
    (k : ∀ w' H' v, Dom w' H' (r + 1) → Stp (fun k => k < r) w H w' H' → Rp K w' H' (.own 1) [r] (.lst ds) v → Q v H') : ∀ p, H p = none → Q (.ref p) (upd H p (.lst vs)) := fun p hp => by
  have st : Stp (fun k => k < r) w H (setO w p (some [r])) (upd H p (.lst vs)) := Stp.new hp fun k p' e => by
    cases e
    exact Nat.lt_irrefl _
  refine k (setO w p (some [r])) _ _ ((d.sub (Nat.le_succ r)).new hp fun t' e => ?_) st ⟨p, vs, rfl, setO_same, upd_same, ?_⟩
  · cases e
    exact ⟨trivial, r, [], rfl, Nat.lt_succ_self _⟩
  · exact RpL.retagF (show Md.flat (.own 0) from trivial) (ds := ds) (vs := vs) (RpL.stpF (show Md.flat (.own 0) from trivial) h d st hr)
/-- a new tuple -/
theorem newTup {ds : List D} {vs : List V} {t' : Tag} {i : Nat} {Q : VK} (hr : 0 < r) (d : Dom w H r) (h : RpL K w H (.own 0) t' i ds vs)
    (k : ∀ w' H' v, Dom w' H' (r + 1) → Stp (fun k => k < r) w H w' H' → Rp K w' H' (.own 0) [r] (.tup ds) v → Q v H') : ∀ p, H p = none → Q (.ref p) (upd H p (.tup vs)) := fun p hp => by
  have st : Stp (fun k => k < r) w H (setO w p none) (upd H p (.tup vs)) := Stp.new hp fun k p' e => by cases e
  refine k (setO w p none) _ _ ((d.sub (Nat.le_succ r)).new hp fun t' e => by cases e) st ⟨p, vs, rfl, .inl upd_same, ?_⟩
  exact RpL.retagF (show Md.flat (.own 0) from trivial) (ds := ds) (vs := vs) (RpL.stpF (show Md.flat (.own 0) from trivial) h d st hr)
/-- nothing new -/
theorem sameHeap {d : D} {v : V} {Q : VK} (dm : Dom w H r) (h : Rp K w H (.own 0) t d v)
    (k : ∀ w' H' v, Dom w' H' (r + 1) → Stp (fun k => k < r) w H w' H' → Rp K w' H' (.own 0) [r] d v → Q v H') : Q v H :=
  k w H v (dm.sub (Nat.le_succ _)) Stp.refl (Rp.retagF (show Md.flat (.own 0) from trivial) h)
end

/-! ### numbers, texts -/
section
variable {K : PySem.W.Frag}
def gI (C : Int → Int → Bool) (f : Int → Int → D) (c1 c2 : Cel) : Option Cel := match c1.2, c2.2 with
  | .int i, .int j => if C i j = true then some (.own 0, f i j) else none
  | _, _ => none
theorem ok_I {P : Int → Int → Prop} {C : Int → Int → Bool} {f : Int → Int → Int} (hC : ∀ i j, C i j = true → P i j) : OpOk K (rI P fun i j => .int (f i j)) (gI C fun i j => .int (f i j)) := by
  intro r w H c1 c2 t1 t2 v1 v2 c Q hr d h1 h2 e k
  obtain ⟨m1, d1⟩ := c1
  obtain ⟨m2, d2⟩ := c2
  unfold gI at e
  split at e
  · rename_i i j e1 e2
    dsimp only at e1 e2 h1 h2
    subst e1; subst e2
    split at e
    · rename_i hc
      cases e
      exact ⟨i, j, h1, h2, hC i j hc, sameHeap (K := K) (d := .int (f i j)) (t := t1) d rfl k⟩
    · cases e
  · cases e
theorem ok_I0 {f : Int → Int → Int} : OpOk K (rI0 fun i j => .int (f i j)) (gI (fun _ _ => true) fun i j => .int (f i j)) := by
  intro r w H c1 c2 t1 t2 v1 v2 c Q hr d h1 h2 e k
  obtain ⟨i, j, a, b, _, q⟩ := ok_I (K := K) (P := fun _ _ => True) (f := f) (fun _ _ _ => trivial) r w H c1 c2 t1 t2 v1 v2 c Q hr d h1 h2 e k
  exact ⟨i, j, a, b, q⟩
def cMul (i j : Int) : Bool := (decide (-(2 ^ 64) < i) && decide (i < 2 ^ 64)) || (decide (-(2 ^ 64) < j) && decide (j < 2 ^ 64))
theorem cMul_ok (i j : Int) (h : cMul i j = true) : CMul i j := by
  unfold cMul at h
  rw [Bool.or_eq_true, Bool.and_eq_true, Bool.and_eq_true] at h
  rcases h with ⟨a, b⟩ | ⟨a, b⟩
  · exact .inl ⟨of_decide_eq_true a, of_decide_eq_true b⟩
  · exact .inr ⟨of_decide_eq_true a, of_decide_eq_true b⟩
def cDiv (_ j : Int) : Bool := decide (0 < j) && decide (j < 1073741824)
theorem cDiv_ok (i j : Int) (h : cDiv i j = true) : CDiv i j := by
  unfold cDiv at h
  rw [Bool.and_eq_true] at h
  exact ⟨of_decide_eq_true h.1, of_decide_eq_true h.2⟩
def cMod (_ j : Int) : Bool := decide (0 < j)
def cPow (i j : Int) : Bool := decide (0 ≤ j) && decide (j ≤ 1000000) && decide (i.natAbs < 2 ^ 64)
theorem cPow_ok (i j : Int) (h : cPow i j = true) : CPow i j := by
  unfold cPow at h
  rw [Bool.and_eq_true, Bool.and_eq_true] at h
  exact ⟨of_decide_eq_true h.1.1, of_decide_eq_true h.1.2, of_decide_eq_true h.2⟩
def gAddI := gI (fun _ _ => true) fun i j => .int (i + j)
def gSub := gI (fun _ _ => true) fun i j => .int (i - j)
def gMul := gI cMul fun i j => .int (i * j)
def gDiv := gI cDiv fun i j => .int (i / j)
def gMod := gI cMod fun i j => .int (i % j)
def gPow := gI cPow fun i j => .int (i ^ j.toNat)
theorem ok_sub : OpOk K (rI0 fun i j => .int (i - j)) gSub := ok_I0
theorem ok_mul : OpOk K (rI CMul fun i j => .int (i * j)) gMul := ok_I cMul_ok
theorem ok_div : OpOk K (rI CDiv fun i j => .int (i / j)) gDiv := ok_I cDiv_ok
theorem ok_mod : OpOk K (rI (fun _ j => 0 < j) fun i j => .int (i % j)) gMod := ok_I fun _ _ h => of_decide_eq_true h
theorem ok_pow : OpOk K (rI CPow fun i j => .int (i ^ j.toNat)) gPow := ok_I cPow_ok
/-- + of ints, texts, lists, tuples -/
def gAdd (c1 c2 : Cel) : Option Cel := match c1.2, c2.2 with
  | .int i, .int j => some (.own 0, .int (i + j))
  | .str x, .str y => if x.length + y.length ≤ sizeLine then some (.own 0, .str (x ++ y)) else none
  | .lst xs, .lst ys => if (flat0 c1.1 xs && flat0 c2.1 ys) = true ∧ xs.length + ys.length ≤ sizeLine then some (.own 1, .lst (xs ++ ys)) else none
  | .tup xs, .tup ys => if (flatT c1.1 xs && flatT c2.1 ys) = true ∧ xs.length + ys.length ≤ sizeLine then some (.own 0, .tup (xs ++ ys)) else none
  | _, _ => none
def rAddA (K : PySem.W.Frag) : R2 := fun x y H Q => (∃ i j, x = .int i ∧ y = .int j ∧ Q (.int (i + j)) H) ∨ (∃ i j, x = .str i ∧ y = .str j ∧ i.length + j.length ≤ sizeLine ∧ Q (.str (i ++ j)) H) ∨ rCat x y H Q ∨ rCatA K x y H Q
theorem op_addA {X : Cx} : OpR X (binaryOp .Add) (rAddA X.K) := op_add.or (op_add_str.or (op_cat.or op_catA))
theorem ok_add : OpOk K (rAddA K) gAdd := by
  intro r w H c1 c2 t1 t2 v1 v2 c Q hr d h1 h2 e k
  obtain ⟨m1, d1⟩ := c1
  obtain ⟨m2, d2⟩ := c2
  unfold gAdd at e
  split at e
  · rename_i i j e1 e2
    dsimp only at e1 e2 h1 h2
    subst e1; subst e2; cases e
    exact .inl ⟨i, j, h1, h2, sameHeap (K := K) (d := .int (i + j)) (t := t1) d rfl k⟩
  · rename_i i j e1 e2
    dsimp only at e1 e2 h1 h2
    subst e1; subst e2
    split at e
    · rename_i hc
      cases e
      exact .inr (.inl ⟨i, j, h1, h2, hc, sameHeap (K := K) (d := .str (i ++ j)) (t := t1) d rfl k⟩)
    · cases e
  · rename_i xs ys e1 e2
    dsimp only at e1 e2 h1 h2
    subst e1; subst e2
    split at e
    · rename_i hc
      obtain ⟨hf, hz⟩ := hc
      rw [Bool.and_eq_true] at hf
      cases e
      obtain ⟨a, vs, ea, n1, o1, r1⟩ := h1
      obtain ⟨b, us, eb, n2, o2, r2⟩ := h2
      refine .inr (.inr (.inl ⟨a, b, vs, us, ea, eb, o1, o2, ?_, ?_⟩))
      · rw [r1.length, r2.length]; exact hz
      · exact newList hr d (t' := [r]) (i := 0) (RpL.append (flat0_ok hf.1 r1) (flat0_ok hf.2 r2)) k
    · cases e
  · rename_i xs ys e1 e2
    dsimp only at e1 e2 h1 h2
    subst e1; subst e2
    split at e
    · rename_i hc
      obtain ⟨hf, hz⟩ := hc
      rw [Bool.and_eq_true] at hf
      cases e
      obtain ⟨a, vs, ea, o1, r1⟩ := h1
      obtain ⟨b, us, eb, o2, r2⟩ := h2
      have q1 : RpL K w H (.own 0) [r] 0 xs vs := flatT_ok hf.1 r1
      have q2 : RpL K w H (.own 0) [r] (0 + xs.length) ys us := flatT_ok hf.2 r2
      have q2' : RpL K w H (.own 0) [r] 0 ys us := flatT_ok hf.2 r2
      refine .inr (.inr (.inr ⟨a, b, vs, us, ea, eb, o1.sq, o2.sq, by rw [r1.length, r2.length]; exact hz, fun z => ?_, fun _ z => ?_, fun _ _ => newTup hr d (RpL.append q1 q2) k⟩))
      · have hx : xs = [] := List.length_eq_zero_iff.mp (by rw [← r1.length, z]; rfl)
        subst hx
        rw [List.nil_append] at k
        exact sameHeap (K := K) (d := .tup ys) (t := [r]) d ⟨b, us, rfl, o2, q2'⟩ k
      · have hy : ys = [] := List.length_eq_zero_iff.mp (by rw [← r2.length, z]; rfl)
        subst hy
        rw [List.append_nil] at k
        exact sameHeap (K := K) (d := .tup xs) (t := [r]) d ⟨a, vs, rfl, o1, q1⟩ k
    · cases e
  · cases e
end
end DL

/-! DL part 5: comparisons, tests, and / or / not. -/
namespace DL
open PySem L2
/-! ### data as the library's data -/
mutual
def toPy : D → PyData
  | .non => .none
  | .bl b => .bool b
  | .int i => .int i
  | .str x => .str x
  | .tup ds => .tuple (toPyL ds)
  | .lst ds => .list (toPyL ds)
  | .dK _ => .none
  | .dT _ => .none
  | .ins _ _ => .none
  | .frz _ => .none
  | .adr _ => .none
def toPyL : List D → List PyData
  | [] => []
  | d :: ds => toPy d :: toPyL ds
end
mutual
/-- comparable data: at most n deep -/
def dgood : Nat → D → Bool
  | _, .non => true
  | _, .bl _ => true
  | _, .int _ => true
  | _, .str x => PyData.strOk x
  | n, .tup ds => decide (0 < n) && dgoodL (n - 1) ds
  | n, .lst ds => decide (0 < n) && dgoodL (n - 1) ds
  | _, .dK _ => false
  | _, .dT _ => false
  | _, .ins _ _ => false
  | _, .frz _ => false
  | _, .adr _ => false
def dgoodL : Nat → List D → Bool
  | _, [] => true
  | n, d :: ds => dgood n d && dgoodL n ds
end
mutual
theorem dgood_py : ∀ (d : D) (n : Nat), dgood n d = true → PyData.canLay0 (toPy d) = true ∧ PyData.depth (toPy d) ≤ n
  | .non, n, _ => ⟨rfl, Nat.zero_le _⟩
  | .bl _, n, _ => ⟨rfl, Nat.zero_le _⟩
  | .int _, n, _ => ⟨rfl, Nat.zero_le _⟩
  | .str x, n, h => ⟨h, Nat.zero_le _⟩
  | .tup ds, n, h => by
    have h : (decide (0 < n) && dgoodL (n - 1) ds) = true := h
    rw [Bool.and_eq_true] at h
    have h1 := of_decide_eq_true h.1
    have q := dgoodL_py ds (n - 1) h.2
    exact ⟨q.1, by show PyData.depthAll (toPyL ds) + 1 ≤ n; omega⟩
  | .lst ds, n, h => by
    have h : (decide (0 < n) && dgoodL (n - 1) ds) = true := h
    rw [Bool.and_eq_true] at h
    have h1 := of_decide_eq_true h.1
    have q := dgoodL_py ds (n - 1) h.2
    exact ⟨q.1, by show PyData.depthAll (toPyL ds) + 1 ≤ n; omega⟩
theorem dgoodL_py : ∀ (ds : List D) (n : Nat), dgoodL n ds = true → PyData.canLayAll0 (toPyL ds) = true ∧ PyData.depthAll (toPyL ds) ≤ n
  | [], n, _ => ⟨rfl, Nat.zero_le _⟩
  | d :: ds, n, h => by
    have h : (dgood n d && dgoodL n ds) = true := h
    rw [Bool.and_eq_true] at h
    have q1 := dgood_py d n h.1
    have q2 := dgoodL_py ds n h.2
    exact ⟨by show (PyData.canLay0 (toPy d) && PyData.canLayAll0 (toPyL ds)) = true; rw [q1.1, q2.1]; rfl, Nat.max_le.mpr ⟨q1.2, q2.2⟩⟩
end
theorem dgood_shaped {d : D} (h : dgood 64 d = true) : SeqAt.shaped (toPy d) = true := by
  have q := dgood_py d 64 h
  show ((toPy d).canLay0 && decide ((toPy d).depth ≤ 64)) = true
  rw [q.1, decide_eq_true q.2]; rfl
section
variable {K : PySem.W.Frag} {w : Om} {H : Hp}
mutual
theorem Rp.dp : ∀ (d : D) {n : Nat} {md : Md} {t : Tag} {v : V}, dgood n d = true → Rp K w H md t d v → Dp K H v (toPy d)
  | .non, _, _, _, _, _, h => by cases (show _ = _ from h); exact .non
  | .bl b, _, _, _, _, _, h => by cases (show _ = _ from h); exact .bl b
  | .int i, _, _, _, _, _, h => by cases (show _ = _ from h); exact .int i
  | .str x, _, _, _, _, _, h => by cases (show _ = _ from h); exact .str x
  | .tup ds, n, _, _, _, g, ⟨a, vs, e, s, r⟩ => by
    have g : (decide (0 < n) && dgoodL (n - 1) ds) = true := g
    rw [Bool.and_eq_true] at g
    subst e
    exact .tup s.sq (RpL.dp ds g.2 r)
  | .lst ds, n, _, _, _, g, ⟨a, vs, e, _, o, r⟩ => by
    have g : (decide (0 < n) && dgoodL (n - 1) ds) = true := g
    rw [Bool.and_eq_true] at g
    subst e
    exact .lst (SqL.of o) (RpL.dp ds g.2 r)
theorem RpL.dp : ∀ (ds : List D) {n : Nat} {md : Md} {t : Tag} {i : Nat} {vs : List V}, dgoodL n ds = true → RpL K w H md t i ds vs → DpAll K H vs (toPyL ds)
  | [], _, _, _, _, _, _, h => by cases (show _ = _ from h); exact .nil
  | d :: ds, n, _, _, _, _, g, ⟨v, r, e, h1, h2⟩ => by
    have g : (dgood n d && dgoodL n ds) = true := g
    rw [Bool.and_eq_true] at g
    subst e
    exact .cons (Rp.dp d g.1 h1) (RpL.dp ds g.2 h2)
end
end
/-! ### == -/
def deq (d e : D) : Bool := PyData.eqv (toPy d) (toPy e)
def gEq : D → D → Option Bool
  | .int i, .int j => some (decide (i = j))
  | .str x, .str y => some (decide (x = y))
  | .bl a, .bl b => some (decide (a = b))
  | .non, .non => some true
  | .str _, .non => some false
  | .non, .str _ => some false
  | .int _, .non => some false
  | .non, .int _ => some false
  | .int _, .str _ => some false
  | .str _, .int _ => some false
  | d, e => if (dgood 64 d && dgood 64 e) = true then some (deq d e) else none
def gNe (d e : D) : Option Bool := (gEq d e).map (! ·)
def rEqA (K : PySem.W.Frag) : R2 := fun x y H Q => rEq x y H Q ∨ rEqD K x y H Q
def rNeA (K : PySem.W.Frag) : R2 := fun x y H Q => rNe x y H Q ∨ rNeD K x y H Q
theorem op_eqA {X : Cx} (hu : X.A.units + 64 < cLine) : OpR X (compareOp .Eq) (rEqA X.K) := op_eq.or (op_eqD hu)
theorem op_neA {X : Cx} (hu : X.A.units + 64 < cLine) : OpR X (compareOp .NotEq) (rNeA X.K) := op_ne.or (op_neD hu)
theorem gEq_cases {K : PySem.W.Frag} {w : Om} {H : Hp} {md1 md2 : Md} {d1 d2 : D} {t1 t2 : Tag} {v1 v2 : V} {b : Bool} (h1 : Rp K w H md1 t1 d1 v1) (h2 : Rp K w H md2 t2 d2 v2) (e : gEq d1 d2 = some b) :
    (scal v1 v2 = true ∧ decide (v1 = v2) = b) ∨ (Dp K H v1 (toPy d1) ∧ Dp K H v2 (toPy d2) ∧ SeqAt.shaped (toPy d1) = true ∧ SeqAt.shaped (toPy d2) = true ∧ PyData.eqv (toPy d1) (toPy d2) = b) := by
  unfold gEq at e
  split at e
  · cases (show _ = _ from h1); cases (show _ = _ from h2); cases e
    exact .inl ⟨rfl, by simp⟩
  · cases (show _ = _ from h1); cases (show _ = _ from h2); cases e
    exact .inl ⟨rfl, by simp⟩
  · cases (show _ = _ from h1); cases (show _ = _ from h2); cases e
    exact .inl ⟨rfl, by simp⟩
  · cases (show _ = _ from h1); cases (show _ = _ from h2); cases e
    exact .inl ⟨rfl, by simp⟩
  · cases (show _ = _ from h1); cases (show _ = _ from h2); cases e
    exact .inl ⟨rfl, by simp⟩
  · cases (show _ = _ from h1); cases (show _ = _ from h2); cases e
    exact .inl ⟨rfl, by simp⟩
  · cases (show _ = _ from h1); cases (show _ = _ from h2); cases e
    exact .inl ⟨rfl, by simp⟩
  · cases (show _ = _ from h1); cases (show _ = _ from h2); cases e
    exact .inl ⟨rfl, by simp⟩
  · cases (show _ = _ from h1); cases (show _ = _ from h2); cases e
    exact .inl ⟨rfl, by simp⟩
  · cases (show _ = _ from h1); cases (show _ = _ from h2); cases e
    exact .inl ⟨rfl, by simp⟩
  · split at e
    · rename_i g
      rw [Bool.and_eq_true] at g
      cases e
      exact .inr ⟨h1.dp _ g.1, h2.dp _ g.2, dgood_shaped g.1, dgood_shaped g.2, rfl⟩
    · cases e
theorem ok_eq {K : PySem.W.Frag} : CmpOk K (rEqA K) gEq := by
  intro w H md1 md2 d1 d2 t1 t2 v1 v2 b Q h1 h2 e k
  rcases gEq_cases h1 h2 e with ⟨a, c⟩ | ⟨a, b', c, d, e'⟩
  · subst c; exact .inl ⟨a, k⟩
  · subst e'; exact .inr ⟨_, _, a, b', c, d, k⟩
theorem ok_ne {K : PySem.W.Frag} : CmpOk K (rNeA K) gNe := by
  intro w H md1 md2 d1 d2 t1 t2 v1 v2 b Q h1 h2 e k
  unfold gNe at e
  cases q : gEq d1 d2 with
  | none => rw [q] at e; cases e
  | some b' =>
    rw [q] at e
    have e : (!b') = b := Option.some.inj e
    subst e
    rcases gEq_cases h1 h2 q with ⟨a, c⟩ | ⟨a, b', c, d, e'⟩
    · subst c; exact .inl ⟨a, k⟩
    · subst e'; exact .inr ⟨_, _, a, b', c, d, k⟩
/-! ### order of ints, texts -/
def gOrd (f : Int → Int → Bool) (s : Str → Str → Bool) : D → D → Option Bool
  | .int i, .int j => some (f i j)
  | .str x, .str y => some (s x y)
  | _, _ => none
def sLt (x y : Str) : Bool := decide (x.cps.toList < y.cps.toList)
def gLt := gOrd (fun i j => decide (i < j)) sLt
def gLe := gOrd (fun i j => decide (i ≤ j)) fun x y => !sLt y x
def gGt := gOrd (fun i j => decide (j < i)) fun x y => sLt y x
def gGe := gOrd (fun i j => decide (j ≤ i)) fun x y => !sLt x y
def rOrd (f : Int → Int → Bool) (s : Str → Str → Bool) : R2 := fun x y H Q => rI0 (fun i j => .bl (f i j)) x y H Q ∨ ∃ i j, x = .str i ∧ y = .str j ∧ Q (.bl (s i j)) H
theorem ok_ord {K : PySem.W.Frag} {f : Int → Int → Bool} {s : Str → Str → Bool} : CmpOk K (rOrd f s) (gOrd f s) := by
  intro w H md1 md2 d1 d2 t1 t2 v1 v2 b Q h1 h2 e k
  unfold gOrd at e
  split at e
  · cases e; exact .inl ⟨_, _, h1, h2, k⟩
  · cases e; exact .inr ⟨_, _, h1, h2, k⟩
  · cases e
theorem op_ltA {X : Cx} : OpR X (compareOp .Lt) (rOrd (fun i j => decide (i < j)) sLt) := op_lt.or op_lt_str
theorem op_leA {X : Cx} : OpR X (compareOp .LtE) (rOrd (fun i j => decide (i ≤ j)) fun x y => !sLt y x) := op_le.or op_le_str
theorem op_gtA {X : Cx} : OpR X (compareOp .Gt) (rOrd (fun i j => decide (j < i)) fun x y => sLt y x) := op_gt.or op_gt_str
theorem op_geA {X : Cx} : OpR X (compareOp .GtE) (rOrd (fun i j => decide (j ≤ i)) fun x y => !sLt x y) := op_ge.or op_ge_str
/-! ### is None -/
def isNon : D → Bool
  | .non => true
  | _ => false
def gIsN (d e : D) : Option Bool := if isNon e = true then some (isNon d) else none
def gNotN (d e : D) : Option Bool := if isNon e = true then some (!isNon d) else none
theorem isNon_ok {K : PySem.W.Frag} {w : Om} {H : Hp} {md : Md} {d : D} {t : Tag} {v : V} (h : Rp K w H md t d v) : decide (v = .non) = isNon d := by
  cases d with
  | non => cases (show _ = _ from h); rfl
  | bl b => cases (show _ = _ from h); rfl
  | int b => cases (show _ = _ from h); rfl
  | str b => cases (show _ = _ from h); rfl
  | tup b => obtain ⟨a, _, e, _⟩ := h; subst e; rfl
  | lst b => obtain ⟨a, _, e, _⟩ := h; subst e; rfl
  | dK b => obtain ⟨a, _, e, _⟩ := h; subst e; rfl
  | dT b => obtain ⟨a, _, e, _⟩ := h; subst e; rfl
  | ins C b => obtain ⟨a, _, _, e, _⟩ := h; subst e; rfl
  | frz b => obtain ⟨a, e, _⟩ := h; subst e; rfl
  | adr b => cases (show _ = _ from h); rfl
theorem isNon_eq {d : D} (h : isNon d = true) : d = .non := by cases d <;> first | rfl | cases h
theorem ok_isN {K : PySem.W.Frag} : CmpOk K (fun x y H Q => y = .non ∧ Q (.bl (decide (x = .non))) H) gIsN := by
  intro w H md1 md2 d1 d2 t1 t2 v1 v2 b Q h1 h2 e k
  unfold gIsN at e
  split at e
  · rename_i q
    have := isNon_eq q
    subst this
    cases e
    exact ⟨h2, by rw [isNon_ok h1]; exact k⟩
  · cases e
theorem ok_notN {K : PySem.W.Frag} : CmpOk K (fun x y H Q => y = .non ∧ Q (.bl (!decide (x = .non))) H) gNotN := by
  intro w H md1 md2 d1 d2 t1 t2 v1 v2 b Q h1 h2 e k
  unfold gNotN at e
  split at e
  · rename_i q
    have := isNon_eq q
    subst this
    cases e
    exact ⟨h2, by rw [isNon_ok h1]; exact k⟩
  · cases e
/-! ### in -/
def pyIn (d : D) (ds : List D) : Bool := ds.any fun z => deq z d
def gIn : D → D → Option Bool
  | .str x, .str z => if h : x.cps.size = 1 then some (decide (x.cps[0] ∈ z.cps.toList)) else some (!(Builtin.Str.occurrences z x 0 z.length 1).isEmpty)
  | d, .lst ds => if (dgood 64 d && dgood 64 (.lst ds)) = true then some (pyIn d ds) else none
  | _, _ => none
def gNotIn (d e : D) : Option Bool := (gIn d e).map (! ·)
theorem any_toPyL {d : D} : ∀ ds : List D, (toPyL ds).any (fun z => PyData.eqv z (toPy d)) = pyIn d ds
  | [] => rfl
  | e :: es => by
    show (PyData.eqv (toPy e) (toPy d) || (toPyL es).any _) = (deq e d || pyIn d es)
    rw [any_toPyL es]; rfl
def rInA (K : PySem.W.Frag) : R2 := fun x y H Q => (∃ (c : Nat) (z : Str), x = .str ⟨#[c]⟩ ∧ y = .str z ∧ Q (.bl (decide (c ∈ z.cps.toList))) H) ∨ (∃ i j, x = .str i ∧ y = .str j ∧ Q (.bl (!(Builtin.Str.occurrences j i 0 j.length 1).isEmpty)) H) ∨ rInD K x y H Q
def rNotInA (K : PySem.W.Frag) : R2 := fun x y H Q => (∃ (c : Nat) (z : Str), x = .str ⟨#[c]⟩ ∧ y = .str z ∧ Q (.bl (!decide (c ∈ z.cps.toList))) H) ∨ (∃ i j, x = .str i ∧ y = .str j ∧ Q (.bl (!(!(Builtin.Str.occurrences j i 0 j.length 1).isEmpty))) H) ∨ rNotInD K x y H Q
theorem op_inA {X : Cx} (hu : X.A.units + 65 < cLine) : OpR X (compareOp .In) (rInA X.K) := op_in_sign.or (op_in_str.or (op_inD hu))
theorem op_notInA {X : Cx} (hu : X.A.units + 65 < cLine) : OpR X (compareOp .NotIn) (rNotInA X.K) := op_notIn_sign.or (op_notIn_str.or (op_notInD hu))
theorem one_sign {x : Str} (h : x.cps.size = 1) : x = ⟨#[x.cps[0]]⟩ := by
  obtain ⟨⟨l⟩⟩ := x
  cases l with
  | nil => simp at h
  | cons a r =>
    cases r with
    | nil => rfl
    | cons b r => simp at h
theorem ok_in {K : PySem.W.Frag} : CmpOk K (rInA K) gIn := by
  intro w H md1 md2 d1 d2 t1 t2 v1 v2 b Q h1 h2 e k
  unfold gIn at e
  split at e
  · rename_i x z
    split at e
    · rename_i h
      cases e
      refine .inl ⟨x.cps[0], z, ?_, h2, k⟩
      have e1 : v1 = .str x := h1
      rw [e1]
      exact congrArg V.str (one_sign h)
    · cases e
      exact .inr (.inl ⟨x, z, h1, h2, k⟩)
  · rename_i ds
    split at e
    · rename_i g
      rw [Bool.and_eq_true] at g
      cases e
      exact .inr (.inr ⟨_, _, h1.dp _ g.1, h2.dp _ g.2, dgood_shaped g.1, dgood_shaped g.2, by rw [any_toPyL]; exact k⟩)
    · cases e
  · cases e
theorem ok_notIn {K : PySem.W.Frag} : CmpOk K (rNotInA K) gNotIn := by
  intro w H md1 md2 d1 d2 t1 t2 v1 v2 b Q h1 h2 e k
  unfold gNotIn at e
  cases q : gIn d1 d2 with
  | none => rw [q] at e; cases e
  | some b' =>
    rw [q] at e
    have e : (!b') = b := Option.some.inj e
    subst e
    unfold gIn at q
    split at q
    · rename_i x z
      split at q
      · rename_i h
        cases q
        refine .inl ⟨x.cps[0], z, ?_, h2, k⟩
        have e1 : v1 = .str x := h1
        rw [e1]
        exact congrArg V.str (one_sign h)
      · cases q
        exact .inr (.inl ⟨x, z, h1, h2, k⟩)
    · rename_i ds
      split at q
      · rename_i g
        rw [Bool.and_eq_true] at g
        cases q
        exact .inr (.inr ⟨_, _, h1.dp _ g.1, h2.dp _ g.2, dgood_shaped g.1, dgood_shaped g.2, by rw [any_toPyL]; exact k⟩)
      · cases q
    · cases q
end DL

/-! DL part 6: tests, and / or / not, subscripts, slices, displays. -/
namespace DL
open PySem L2
/-! ### truth -/
def truD : D → Option Bool
  | .non => some false
  | .bl b => some b
  | .int i => some (i != 0)
  | .str x => if x.length ≤ sizeLine then some ((x.length : Int) != 0) else none
  | .lst ds => some (!ds.isEmpty)
  | .tup ds => some (!ds.isEmpty)
  | .dK kvs => some (!kvs.isEmpty)
  | _ => none
theorem isEmpty_len {α β : Type} {xs : List α} {ys : List β} (h : xs.length = ys.length) : xs.isEmpty = ys.isEmpty := by
  cases xs <;> cases ys <;> first | rfl | simp at h
theorem RpK.length {K : PySem.W.Frag} {w : Om} {H : Hp} {md : Md} {t : Tag} : ∀ {ds : List (Key × D)} {i : Nat} {vs : List (Key × V)}, RpK K w H md t i ds vs → vs.length = ds.length
  | [], _, _, h => by rw [show _ = _ from h]; rfl
  | (k, d) :: ds, _, _, ⟨v, r, e, _, h2⟩ => by rw [e, List.length_cons, List.length_cons, RpK.length h2]
theorem truD_ok {K : PySem.W.Frag} {w : Om} {H : Hp} {md : Md} {d : D} {t : Tag} {v : V} {b : Bool} (h : Rp K w H md t d v) (e : truD d = some b) : TruV K v H b := by
  cases d with
  | non => cases (show _ = _ from h); cases e; exact (rfl : false = false)
  | bl b => cases (show _ = _ from h); cases e; exact (rfl : b = b)
  | int i => cases (show _ = _ from h); cases e; exact (rfl : (i != 0) = (i != 0))
  | str x =>
    cases (show _ = _ from h)
    have e : (if x.length ≤ sizeLine then some ((x.length : Int) != 0) else none) = some b := e
    split at e
    · rename_i q
      cases e
      exact ⟨q, rfl⟩
    · cases e
  | tup ds =>
    obtain ⟨a, vs, ea, s, r⟩ := h
    subst ea; cases e
    exact .inr (.inl ⟨vs, s.sq, by rw [isEmpty_len r.length]⟩)
  | lst ds =>
    obtain ⟨a, vs, ea, _, s, r⟩ := h
    subst ea; cases e
    exact .inl ⟨vs, SqL.of s, by rw [isEmpty_len r.length]⟩
  | dK ds =>
    obtain ⟨a, vs, ea, _, s, r⟩ := h
    subst ea; cases e
    exact .inr (.inr ⟨vs, s, by rw [isEmpty_len r.length]⟩)
  | dT ds => cases e
  | ins C ds => cases e
  | frz ds => cases e
  | adr ds => cases e
section
variable {X : Cx} {W : WX}
def dTru (f : Rho → Res Cel) : Rho → Res Bool := fun ρ => (f ρ).bind fun c ρ1 => match truD c.2 with
  | some b => .ok b ρ1
  | none => .stuck
theorem dt_truth {T : List Nat} {S : Src} {e : Expr} {f : Rho → Res Cel} (A : DE X W T S e f) (he : ∀ whole, isTrue e X.env whole = (do let v ← whole; standAt e.pos; holding [v] (truthy v)) := by intro _; rfl) : DT X W T e (dTru f) := by
  obtain ⟨t, pe, A⟩ := A.ex
  refine ⟨_, pt_truth pe he, fun r w H σ ρ Q hr s g => A r w H σ ρ _ hr s ?_⟩
  unfold dTru at g
  cases e1 : f ρ with
  | stuck => rw [e1] at g; exact g
  | exc x e' => rw [e1] at g; exact g
  | ok c ρ1 =>
    rw [e1] at g
    intro w' H' v t s' o h st
    have g : GoodT X W T r w H σ Q (match truD c.2 with | some b => .ok b ρ1 | none => .stuck) := g
    cases e2 : truD c.2 with
    | none => rw [e2] at g; exact g.elim
    | some b =>
      rw [e2] at g
      exact ⟨b, truD_ok h e2, g (cutO w' r) H' (s'.cut hr) (st.trans (Stp.cut fun k h => h.1))⟩
def dNot (f : Rho → Res Bool) : Rho → Res Bool := fun ρ => (f ρ).bind fun b ρ1 => .ok (!b) ρ1
theorem dt_not {T : List Nat} {e : Expr} {f : Rho → Res Bool} {pos : Pos} (A : DT X W T e f) : DT X W T (.UnaryOp .Not e pos) (dNot f) := by
  obtain ⟨t, pe, A⟩ := A.ex
  refine ⟨_, pt_not pe, fun r w H σ ρ Q hr s g => A r w H σ ρ _ hr s ?_⟩
  unfold dNot at g
  cases e1 : f ρ with
  | stuck => rw [e1] at g; exact g
  | exc x e' => rw [e1] at g; exact g
  | ok c ρ1 => rw [e1] at g; exact g
/-- a chain of and, or as a test -/
structure DW (X : Cx) (W : WX) (T : List Nat) (e : Expr) (f : Rho → Res Bool) : Prop where
  ex : ∃ t : TT, PW X e t ∧ ∀ r w H σ ρ Q, X.N.length < r → Sat X.K X.N.length r w H σ ρ → GoodT X W T r w H σ Q (f ρ) → t σ H Q
theorem DW.dt {T : List Nat} {e : Expr} {f : Rho → Res Bool} (A : DW X W T e f) : DT X W T e f := let ⟨t, pe, A⟩ := A.ex; ⟨t, pe.pt, A⟩
theorem dw_and1 {T : List Nat} {e : Expr} {f : Rho → Res Bool} {pos : Pos} (A : DT X W T e f) : DW X W T (.BoolOp .And [e] pos) f := let ⟨t, pe, A⟩ := A.ex; ⟨t, pw_and1 pe, A⟩
theorem dw_or1 {T : List Nat} {e : Expr} {f : Rho → Res Bool} {pos : Pos} (A : DT X W T e f) : DW X W T (.BoolOp .Or [e] pos) f := let ⟨t, pe, A⟩ := A.ex; ⟨t, pw_or1 pe, A⟩
def dAnd (f g : Rho → Res Bool) : Rho → Res Bool := fun ρ => (f ρ).bind fun b ρ1 => bif b then g ρ1 else .ok false ρ1
def dOr (f g : Rho → Res Bool) : Rho → Res Bool := fun ρ => (f ρ).bind fun b ρ1 => bif b then .ok true ρ1 else g ρ1
theorem GoodT.up {T T2 : List Nat} {r : Nat} {w w1 : Om} {H H1 : Hp} {σ : St} {Q : Bool → Hp → Prop} {z : Res Bool} (g : GoodT X W (T ++ T2) r w H σ Q z) (st : Stp (kpE (T ++ T2) r) w H w1 H1) : GoodT X W T2 r w1 H1 σ Q z := by
  cases z with
  | stuck => exact g
  | ok c e' => exact fun w' H' s' st' => g w' H' s' (st.trans (st'.mono fun k h => h.rt))
  | exc x e' => exact fun w' H' cls da s' xo st' => g w' H' cls da s' xo (st.trans (st'.mono fun k h => h.rt))
theorem dw_and {T T2 : List Nat} {a b : Expr} {rest : List Expr} {f g : Rho → Res Bool} {pos : Pos} (A : DT X W T a f) (B : DW X W T2 (.BoolOp .And (b :: rest) pos) g) : DW X W (T ++ T2) (.BoolOp .And (a :: b :: rest) pos) (dAnd f g) := by
  obtain ⟨ta, pa, A⟩ := A.ex
  obtain ⟨tb, pb, B⟩ := B.ex
  refine ⟨_, pw_and pa pb, fun r w H σ ρ Q hr s gg => A r w H σ ρ _ hr s ?_⟩
  unfold dAnd at gg
  cases e1 : f ρ with
  | stuck => rw [e1] at gg; exact gg
  | exc x e' => rw [e1] at gg; exact fun w' H' cls da s' xo st => gg w' H' cls da s' xo (st.mono fun k h => h.l)
  | ok c ρ1 =>
    rw [e1] at gg
    intro w1 H1 s1 st1
    have st1' : Stp (kpE (T ++ T2) r) w H w1 H1 := st1.mono fun k h => h.l
    cases c with
    | true => exact iteT (B r w1 H1 σ ρ1 Q hr s1 (GoodT.up gg st1'))
    | false => exact iteF (gg w1 H1 s1 st1')
theorem dw_or {T T2 : List Nat} {a b : Expr} {rest : List Expr} {f g : Rho → Res Bool} {pos : Pos} (A : DT X W T a f) (B : DW X W T2 (.BoolOp .Or (b :: rest) pos) g) : DW X W (T ++ T2) (.BoolOp .Or (a :: b :: rest) pos) (dOr f g) := by
  obtain ⟨ta, pa, A⟩ := A.ex
  obtain ⟨tb, pb, B⟩ := B.ex
  refine ⟨_, pw_or pa pb, fun r w H σ ρ Q hr s gg => A r w H σ ρ _ hr s ?_⟩
  unfold dOr at gg
  cases e1 : f ρ with
  | stuck => rw [e1] at gg; exact gg
  | exc x e' => rw [e1] at gg; exact fun w' H' cls da s' xo st => gg w' H' cls da s' xo (st.mono fun k h => h.l)
  | ok c ρ1 =>
    rw [e1] at gg
    intro w1 H1 s1 st1
    have st1' : Stp (kpE (T ++ T2) r) w H w1 H1 := st1.mono fun k h => h.l
    cases c with
    | true => exact iteT (gg w1 H1 s1 st1')
    | false => exact iteF (B r w1 H1 σ ρ1 Q hr s1 (GoodT.up gg st1'))
/-! ### the same as values -/
theorem GoodE.up {T T2 : List Nat} {S : Src} {r : Nat} {w w1 : Om} {H H1 : Hp} {σ : St} {Q : VK} {z : Res Cel} (g : GoodE X W (T ++ T2) S r w H σ Q z) (st : Stp (kpE (T ++ T2) r) w H w1 H1) : GoodE X W T2 S r w1 H1 σ Q z := by
  cases z with
  | stuck => exact g
  | ok c e' => exact fun w' H' v t s' o h st' => g w' H' v t s' o h (st.trans (st'.mono fun k h => h.rt))
  | exc x e' => exact fun w' H' cls da s' xo st' => g w' H' cls da s' xo (st.trans (st'.mono fun k h => h.rt))
def dNotV (f : Rho → Res Cel) : Rho → Res Cel := fun ρ => boolR (dNot (dTru f) ρ)
theorem de_not {T : List Nat} {S : Src} {e : Expr} {f : Rho → Res Cel} {pos : Pos} (A : DE X W T S e f) : DE X W T .tmp (.UnaryOp .Not e pos) (dNotV f) := by
  obtain ⟨t, pe, A⟩ := A.ex
  refine ⟨_, pe_notT pe, fun r w H σ ρ Q hr s g => A r w H σ ρ _ hr s ?_⟩
  unfold dNotV dNot dTru boolR at g
  cases e1 : f ρ with
  | stuck => rw [e1] at g; exact g
  | exc x e' => rw [e1] at g; exact g
  | ok c ρ1 =>
    rw [e1] at g
    intro w' H' v t s' o h st
    have g : GoodE X W T .tmp r w H σ Q (((match truD c.2 with | some b => Res.ok b ρ1 | none => .stuck).bind fun b ρ1 => .ok (!b) ρ1).bind fun b ρ => .ok (.own 0, .bl b) ρ) := g
    cases e2 : truD c.2 with
    | none => rw [e2] at g; exact g.elim
    | some b =>
      rw [e2] at g
      exact ⟨b, truD_ok h e2, g (cutO w' r) H' _ [r] ((s'.cut hr).up (Nat.le_succ _)) rfl rfl (st.trans (Stp.cut fun k h => h.1))⟩
def dOne (f : Rho → Res Cel) : Rho → Res Cel := f
theorem de_one {T : List Nat} {S : Src} {op : BoolOp} {e : Expr} {f : Rho → Res Cel} {pos : Pos} (A : DE X W T S e f) : DE X W T S (.BoolOp op [e] pos) f := let ⟨t, pe, A⟩ := A.ex; ⟨t, pe_one pe, A⟩
def dAndV (f g : Rho → Res Cel) : Rho → Res Cel := fun ρ => (f ρ).bind fun c ρ1 => match truD c.2 with
  | some b => bif b then g ρ1 else .ok c ρ1
  | none => .stuck
def dOrV (f g : Rho → Res Cel) : Rho → Res Cel := fun ρ => (f ρ).bind fun c ρ1 => match truD c.2 with
  | some b => bif b then .ok c ρ1 else g ρ1
  | none => .stuck
theorem de_and {T T2 : List Nat} {a b : Expr} {rest : List Expr} {f g : Rho → Res Cel} {pos : Pos} (A : DE X W T .tmp a f) (B : DE X W T2 .tmp (.BoolOp .And (b :: rest) pos) g) : DE X W (T ++ T2) .tmp (.BoolOp .And (a :: b :: rest) pos) (dAndV f g) := by
  obtain ⟨ta, pa, A⟩ := A.ex
  obtain ⟨tb, pb, B⟩ := B.ex
  refine ⟨_, pe_andT pa pb, fun r w H σ ρ Q hr s gg => A r w H σ ρ _ hr s ?_⟩
  unfold dAndV at gg
  cases e1 : f ρ with
  | stuck => rw [e1] at gg; exact gg
  | exc x e' => rw [e1] at gg; exact fun w' H' cls da s' xo st => gg w' H' cls da s' xo (st.mono fun k h => h.l)
  | ok c ρ1 =>
    rw [e1] at gg
    intro w1 H1 v1 t1 s1 o1 h1 st1
    have gg : GoodE X W (T ++ T2) .tmp r w H σ Q (match truD c.2 with | some b => bif b then g ρ1 else .ok c ρ1 | none => .stuck) := gg
    have st1' : Stp (kpE (T ++ T2) r) w H w1 H1 := st1.mono fun k h => h.l
    cases e2 : truD c.2 with
    | none => rw [e2] at gg; exact gg.elim
    | some b =>
      rw [e2] at gg
      refine ⟨b, truD_ok h1 e2, ?_⟩
      cases b with
      | true =>
        refine iteT (B r (cutO w1 r) H1 σ ρ1 Q hr (s1.cut hr) ?_)
        exact GoodE.up gg (st1'.trans (Stp.cut fun k h => h.1))
      | false => exact iteF (gg w1 H1 v1 t1 s1 o1 h1 st1')
theorem de_or {T T2 : List Nat} {a b : Expr} {rest : List Expr} {f g : Rho → Res Cel} {pos : Pos} (A : DE X W T .tmp a f) (B : DE X W T2 .tmp (.BoolOp .Or (b :: rest) pos) g) : DE X W (T ++ T2) .tmp (.BoolOp .Or (a :: b :: rest) pos) (dOrV f g) := by
  obtain ⟨ta, pa, A⟩ := A.ex
  obtain ⟨tb, pb, B⟩ := B.ex
  refine ⟨_, pe_orT pa pb, fun r w H σ ρ Q hr s gg => A r w H σ ρ _ hr s ?_⟩
  unfold dOrV at gg
  cases e1 : f ρ with
  | stuck => rw [e1] at gg; exact gg
  | exc x e' => rw [e1] at gg; exact fun w' H' cls da s' xo st => gg w' H' cls da s' xo (st.mono fun k h => h.l)
  | ok c ρ1 =>
    rw [e1] at gg
    intro w1 H1 v1 t1 s1 o1 h1 st1
    have gg : GoodE X W (T ++ T2) .tmp r w H σ Q (match truD c.2 with | some b => bif b then .ok c ρ1 else g ρ1 | none => .stuck) := gg
    have st1' : Stp (kpE (T ++ T2) r) w H w1 H1 := st1.mono fun k h => h.l
    cases e2 : truD c.2 with
    | none => rw [e2] at gg; exact gg.elim
    | some b =>
      rw [e2] at gg
      refine ⟨b, truD_ok h1 e2, ?_⟩
      cases b with
      | false =>
        refine iteF (B r (cutO w1 r) H1 σ ρ1 Q hr (s1.cut hr) ?_)
        exact GoodE.up gg (st1'.trans (Stp.cut fun k h => h.1))
      | true => exact iteT (gg w1 H1 v1 t1 s1 o1 h1 st1')
def dIf (c : Rho → Res Bool) (f g : Rho → Res Cel) : Rho → Res Cel := fun ρ => (c ρ).bind fun b ρ1 => bif b then f ρ1 else g ρ1
theorem de_if {T T1 T2 : List Nat} {c a b : Expr} {fc : Rho → Res Bool} {f g : Rho → Res Cel} {pos : Pos} (C : DT X W T c fc) (A : DE X W T1 .tmp a f) (B : DE X W T2 .tmp b g) : DE X W (T ++ (T1 ++ T2)) .tmp (.IfExp c a b pos) (dIf fc f g) := by
  obtain ⟨tc, pc, C⟩ := C.ex
  obtain ⟨ta, pa, A⟩ := A.ex
  obtain ⟨tb, pb, B⟩ := B.ex
  refine ⟨_, pe_ifExp pc pa pb, fun r w H σ ρ Q hr s gg => C r w H σ ρ _ hr s ?_⟩
  unfold dIf at gg
  cases e1 : fc ρ with
  | stuck => rw [e1] at gg; exact gg
  | exc x e' => rw [e1] at gg; exact fun w' H' cls da s' xo st => gg w' H' cls da s' xo (st.mono fun k h => h.l)
  | ok c ρ1 =>
    rw [e1] at gg
    intro w1 H1 s1 st1
    have st1' : Stp (kpE (T ++ (T1 ++ T2)) r) w H w1 H1 := st1.mono fun k h => h.l
    have gg := GoodE.up gg st1'
    cases c with
    | true =>
      refine iteT (A r w1 H1 σ ρ1 Q hr s1 ?_)
      have gg : GoodE X W (T1 ++ T2) .tmp r w1 H1 σ Q (f ρ1) := gg
      cases e2 : f ρ1 with
      | stuck => rw [e2] at gg; exact gg
      | ok c e' => rw [e2] at gg; exact fun w' H' v t s' o h st' => gg w' H' v t s' o h (st'.mono fun k h => h.l)
      | exc x e' => rw [e2] at gg; exact fun w' H' cls da s' xo st' => gg w' H' cls da s' xo (st'.mono fun k h => h.l)
    | false =>
      refine iteF (B r w1 H1 σ ρ1 Q hr s1 ?_)
      have gg : GoodE X W (T1 ++ T2) .tmp r w1 H1 σ Q (g ρ1) := gg
      cases e2 : g ρ1 with
      | stuck => rw [e2] at gg; exact gg
      | ok c e' => rw [e2] at gg; exact fun w' H' v t s' o h st' => gg w' H' v t s' o h (st'.mono fun k h => h.rt)
      | exc x e' => rw [e2] at gg; exact fun w' H' cls da s' xo st' => gg w' H' cls da s' xo (st'.mono fun k h => h.rt)
/-- - e of an int -/
def dNeg (f : Rho → Res Cel) : Rho → Res Cel := fun ρ => (f ρ).bind fun c ρ1 => match c.2 with
  | .int i => .ok (.own 0, .int (-i)) ρ1
  | _ => .stuck
theorem de_neg {T : List Nat} {S : Src} {e : Expr} {f : Rho → Res Cel} {pos : Pos} (A : DE X W T S e f) : DE X W T .tmp (.UnaryOp .USub e pos) (dNeg f) := by
  obtain ⟨t, pe, A⟩ := A.ex
  refine ⟨_, pe_un un_neg pe, fun r w H σ ρ Q hr s g => A r w H σ ρ _ hr s ?_⟩
  unfold dNeg at g
  cases e1 : f ρ with
  | stuck => rw [e1] at g; exact g
  | exc x e' => rw [e1] at g; exact g
  | ok c ρ1 =>
    obtain ⟨m, d⟩ := c
    rw [e1] at g
    intro w' H' v t s' o h st
    cases d with
    | int i => exact ⟨i, h, g (cutO w' r) H' _ [r] ((s'.cut hr).up (Nat.le_succ _)) rfl rfl (st.trans (Stp.cut fun k h => h.1))⟩
    | _ => exact g.elim
/-! ### chains of comparisons -/
def dChain (g g' : D → D → Option Bool) (f1 f2 f3 : Rho → Res Cel) : Rho → Res Bool := fun ρ => (f1 ρ).bind fun c1 ρ1 => (f2 ρ1).bind fun c2 ρ2 => match g c1.2 c2.2 with
  | some true => (f3 ρ2).bind fun c3 ρ3 => (match g' c2.2 c3.2 with
    | some b => .ok b ρ3
    | none => .stuck)
  | some false => .ok false ρ2
  | none => .stuck
theorem chain_core {T1 T2 T3 : List Nat} {S1 S2 S3 : Src} {f1 f2 f3 : Rho → Res Cel} {rr rr' : R2} {g g' : D → D → Option Bool} {ta tb tc : TE} (hg : CmpOk X.K rr g) (hg' : CmpOk X.K rr' g')
    (hT : ∀ i ∈ T2, i < X.N.length) (hS : S1.lt X.N.length) (off : S1.off T2 = true) (hT' : ∀ i ∈ T3, i < X.N.length) (hS' : S2.lt X.N.length) (off' : S2.off T3 = true)
    (A : ∀ r w H σ ρ Q, X.N.length < r → Sat X.K X.N.length r w H σ ρ → GoodE X W T1 S1 r w H σ Q (f1 ρ) → ta σ H Q) (B : ∀ r w H σ ρ Q, X.N.length < r → Sat X.K X.N.length r w H σ ρ → GoodE X W T2 S2 r w H σ Q (f2 ρ) → tb σ H Q)
    (C : ∀ r w H σ ρ Q, X.N.length < r → Sat X.K X.N.length r w H σ ρ → GoodE X W T3 S3 r w H σ Q (f3 ρ) → tc σ H Q)
    {r : Nat} {w : Om} {H : Hp} {σ : St} {ρ : Rho} {Q : Bool → Hp → Prop} {Qv : VK} (hQ : ∀ b H', Q b H' → Qv (.bl b) H') (hr : X.N.length < r) (s : Sat X.K X.N.length r w H σ ρ) (gg : GoodT X W (T1 ++ (T2 ++ T3)) r w H σ Q (dChain g g' f1 f2 f3 ρ)) :
    tChain rr rr' ta tb tc σ H Qv := by
  unfold dChain at gg
  refine A r w H σ ρ _ hr s ?_
  cases e1 : f1 ρ with
  | stuck => rw [e1] at gg; exact gg
  | exc x e' => rw [e1] at gg; exact fun w' H' cls da s' xo st => gg w' H' cls da s' xo (st.mono fun k h => h.l)
  | ok c1 ρ1 =>
    rw [e1] at gg
    intro w1 H1 v1 t1 s1 o1 h1 st1
    have st1' : Stp (kpE (T1 ++ (T2 ++ T3)) r) w H w1 H1 := st1.mono fun k h => h.l
    refine B (r + 1) w1 H1 σ ρ1 _ (by omega) s1 ?_
    have gg : GoodT X W (T1 ++ (T2 ++ T3)) r w H σ Q ((f2 ρ1).bind fun c2 ρ2 => match g c1.2 c2.2 with | some true => (f3 ρ2).bind fun c3 ρ3 => (match g' c2.2 c3.2 with | some b => .ok b ρ3 | none => .stuck) | some false => .ok false ρ2 | none => .stuck) := gg
    cases e2 : f2 ρ1 with
    | stuck => rw [e2] at gg; exact gg
    | exc x e' =>
      rw [e2] at gg
      intro w' H' cls da s' xo st
      exact excUp hr (Nat.le_succ _) gg st1' (fun i hi => List.mem_append_right _ (List.mem_append_left _ hi)) s' xo st
    | ok c2 ρ2 =>
      rw [e2] at gg
      intro w2 H2 v2 t2 s2 o2 h2 st2
      obtain ⟨k', p, e, hk⟩ := Src.kept o1 off (Nat.lt_succ_self r) hr (Src.lt_of hS) hT
      subst e
      have h1' := h1.stp s1.dom st2 (kpE.zero (by omega)) hk
      have st2' : Stp (kpE (T1 ++ (T2 ++ T3)) r) w H w2 H2 := st1'.trans (st2.mono fun k h => h.rt.l.up (Nat.le_succ _))
      have gg : GoodT X W (T1 ++ (T2 ++ T3)) r w H σ Q (match g c1.2 c2.2 with | some true => (f3 ρ2).bind fun c3 ρ3 => (match g' c2.2 c3.2 with | some b => .ok b ρ3 | none => .stuck) | some false => .ok false ρ2 | none => .stuck) := gg
      cases eg : g c1.2 c2.2 with
      | none => rw [eg] at gg; exact gg.elim
      | some b =>
        rw [eg] at gg
        refine hg w2 H2 _ _ _ _ _ t2 v1 v2 b _ h1' h2 eg ⟨b, rfl, ?_⟩
        cases b with
        | false => exact iteF (hQ false H2 (gg (cutO w2 r) H2 (s2.cut hr) (st2'.trans (Stp.cut fun k h => h.1))))
        | true =>
          refine iteT (C (r + 2) w2 H2 σ ρ2 _ (by omega) s2 ?_)
          have gg : GoodT X W (T1 ++ (T2 ++ T3)) r w H σ Q ((f3 ρ2).bind fun c3 ρ3 => (match g' c2.2 c3.2 with | some b => .ok b ρ3 | none => .stuck)) := gg
          cases e3 : f3 ρ2 with
          | stuck => rw [e3] at gg; exact gg
          | exc x e' =>
            rw [e3] at gg
            intro w' H' cls da s' xo st
            exact excUp hr (by omega) gg st2' (fun i hi => List.mem_append_right _ (List.mem_append_right _ hi)) s' xo st
          | ok c3 ρ3 =>
            rw [e3] at gg
            intro w3 H3 v3 t3 s3 o3 h3 st3
            have hk2 : ∃ k p, t2 = k :: p ∧ kpE T3 (r + 2) k := by
              have := Src.kept (r' := r + 2) o2 off' (by omega) (by omega) (Src.lt_of hS') hT'
              exact this
            obtain ⟨k2, p2, e', hk2⟩ := hk2
            subst e'
            have h2' := h2.stp s2.dom st3 (kpE.zero (by omega)) hk2
            have gg : GoodT X W (T1 ++ (T2 ++ T3)) r w H σ Q (match g' c2.2 c3.2 with | some b => .ok b ρ3 | none => .stuck) := gg
            cases eg' : g' c2.2 c3.2 with
            | none => rw [eg'] at gg; exact gg.elim
            | some b =>
              rw [eg'] at gg
              exact hg' w3 H3 _ _ _ _ _ t3 v2 v3 b _ h2' h3 eg' (hQ b H3 (gg (cutO w3 r) H3 (s3.cut hr) ((st2'.trans (st3.mono fun k h => h.rt.rt.up (by omega))).trans (Stp.cut fun k h => h.1))))
theorem dt_chain {T1 T2 T3 : List Nat} {S1 S2 S3 : Src} {a b c : Expr} {f1 f2 f3 : Rho → Res Cel} {op op' : CmpOp} {rr rr' : R2} {g g' : D → D → Option Bool} {pos : Pos} (ho : OpR X (compareOp op) rr) (hg : CmpOk X.K rr g) (ho' : OpR X (compareOp op') rr') (hg' : CmpOk X.K rr' g')
    (A : DE X W T1 S1 a f1) (B : DE X W T2 S2 b f2) (C : DE X W T3 S3 c f3) (hm : lastMarks [op, op'] [b, c] = false := by with_unfolding_all rfl)
    (hT : ∀ i ∈ T2, i < X.N.length := by exact lt_all rfl) (hS : S1.lt X.N.length := by first | exact trivial | exact ltS rfl) (off : S1.off T2 = true := by rfl)
    (hT' : ∀ i ∈ T3, i < X.N.length := by exact lt_all rfl) (hS' : S2.lt X.N.length := by first | exact trivial | exact ltS rfl) (off' : S2.off T3 = true := by rfl) : DT X W (T1 ++ (T2 ++ T3)) (.Compare a [op, op'] [b, c] pos) (dChain g g' f1 f2 f3) := by
  obtain ⟨ta, pa, A⟩ := A.ex
  obtain ⟨tb, pb, B⟩ := B.ex
  obtain ⟨tc, pc, C⟩ := C.ex
  exact ⟨_, pt_chain ho ho' pa pb pc hm, fun r w H σ ρ Q hr s gg => chain_core hg hg' hT hS off hT' hS' off' A B C (fun b H' q => ⟨b, rfl, q⟩) hr s gg⟩
theorem de_chain {T1 T2 T3 : List Nat} {S1 S2 S3 : Src} {a b c : Expr} {f1 f2 f3 : Rho → Res Cel} {op op' : CmpOp} {rr rr' : R2} {g g' : D → D → Option Bool} {pos : Pos} (ho : OpR X (compareOp op) rr) (hg : CmpOk X.K rr g) (ho' : OpR X (compareOp op') rr') (hg' : CmpOk X.K rr' g')
    (A : DE X W T1 S1 a f1) (B : DE X W T2 S2 b f2) (C : DE X W T3 S3 c f3) (hm : lastMarks [op, op'] [b, c] = false := by with_unfolding_all rfl)
    (hT : ∀ i ∈ T2, i < X.N.length := by exact lt_all rfl) (hS : S1.lt X.N.length := by first | exact trivial | exact ltS rfl) (off : S1.off T2 = true := by rfl)
    (hT' : ∀ i ∈ T3, i < X.N.length := by exact lt_all rfl) (hS' : S2.lt X.N.length := by first | exact trivial | exact ltS rfl) (off' : S2.off T3 = true := by rfl) : DE X W (T1 ++ (T2 ++ T3)) .tmp (.Compare a [op, op'] [b, c] pos) (fun ρ => boolR (dChain g g' f1 f2 f3 ρ)) := by
  obtain ⟨ta, pa, A⟩ := A.ex
  obtain ⟨tb, pb, B⟩ := B.ex
  obtain ⟨tc, pc, C⟩ := C.ex
  refine ⟨_, pe_chain ho ho' pa pb pc hm, fun r w H σ ρ Q hr s gg => ?_⟩
  refine chain_core (Q := fun b H' => Q (.bl b) H') hg hg' hT hS off hT' hS' off' A B C (fun b H' q => q) hr s ?_
  cases e : dChain g g' f1 f2 f3 ρ with
  | stuck => rw [e] at gg; exact gg
  | exc x e' => rw [e] at gg; exact gg
  | ok b e' =>
    rw [e] at gg
    exact fun w' H' s' st => gg w' H' _ [r] (s'.up (Nat.le_succ _)) rfl rfl st
end
end DL

/-! DL part 7: places within structures. -/
namespace DL
open PySem L2
def setKV {κ : Type} (kvs : List (κ × D)) (j : Nat) (d : D) : List (κ × D) := match kvs[j]? with
  | some (k, _) => kvs.set j (k, d)
  | none => kvs
/-- what stands at a path becomes n -/
def setAt : Tag → D → D → D
  | [], _, n => n
  | j :: p, .lst ds, n => match ds[j]? with
    | some d => .lst (ds.set j (setAt p d n))
    | none => .lst ds
  | j :: p, .tup ds, n => match ds[j]? with
    | some d => .tup (ds.set j (setAt p d n))
    | none => .tup ds
  | j :: p, .dK ds, n => match ds[j]? with
    | some (k, d) => .dK (ds.set j (k, setAt p d n))
    | none => .dK ds
  | j :: p, .dT ds, n => match ds[j]? with
    | some (k, d) => .dT (ds.set j (k, setAt p d n))
    | none => .dT ds
  | j :: p, .ins C ds, n => match ds[j]? with
    | some (k, d) => .ins C (ds.set j (k, setAt p d n))
    | none => .ins C ds
  | _ :: _, d, _ => d
/-- a structure, and what stands in it at a path -/
def RA (K : PySem.W.Frag) (w : Om) (H : Hp) : Tag → Md → Tag → D → V → Md → D → V → Prop
  | [], md, t, d, v, md', d', v' => md' = md ∧ d' = d ∧ v' = v ∧ Rp K w H md t d v
  | j :: p, md, t, .lst ds, v, md', d', v' => ∃ a vs d1 v1, v = .ref a ∧ Nd w md t a ∧ H a = some (.lst vs) ∧ RpL K w H md.sub t 0 ds vs ∧ ds[j]? = some d1 ∧ vs[j]? = some v1 ∧ RA K w H p md.sub (t ++ [j]) d1 v1 md' d' v'
  | j :: p, md, t, .tup ds, v, md', d', v' => ∃ a vs d1 v1, v = .ref a ∧ TupAt K H a vs ∧ RpL K w H md t 0 ds vs ∧ ds[j]? = some d1 ∧ vs[j]? = some v1 ∧ RA K w H p md (t ++ [j]) d1 v1 md' d' v'
  | j :: p, md, t, .dK ds, v, md', d', v' => ∃ a vs k d1 v1, v = .ref a ∧ Nd w md t a ∧ H a = some (.dK vs) ∧ RpK K w H md.sub t 0 ds vs ∧ ds[j]? = some (k, d1) ∧ vs[j]? = some (k, v1) ∧ RA K w H p md.sub (t ++ [j]) d1 v1 md' d' v'
  | j :: p, md, t, .dT ds, v, md', d', v' => ∃ a vs k d1 v1, v = .ref a ∧ Nd w md t a ∧ H a = some (.dT vs) ∧ RpT K w H md.sub t 0 ds vs ∧ ds[j]? = some (k, d1) ∧ vs[j]? = some (k, v1) ∧ RA K w H p md.sub (t ++ [j]) d1 v1 md' d' v'
  | j :: p, md, t, .ins C ds, v, md', d', v' => ∃ a dx vs k d1 v1, v = .ref a ∧ Nd w md t a ∧ H a = some (.ins C dx vs) ∧ RpF K w H md.sub t 0 ds vs ∧ ds[j]? = some (k, d1) ∧ vs[j]? = some (k, v1) ∧ RA K w H p md.sub (t ++ [j]) d1 v1 md' d' v'
  | _ :: _, _, _, _, _, _, _, _ => False
theorem tag_ne {t p : Tag} {j : Nat} : t ≠ t ++ j :: p := fun e => by
  have := congrArg List.length e
  simp at this
theorem tag_ne2 {t p q : Tag} {i j : Nat} (h : i ≠ j) : t ++ i :: q ≠ t ++ j :: p := fun e => by
  have := List.append_cancel_left e
  cases this
  exact h rfl
section
variable {K : PySem.W.Frag} {w w' : Om} {H H' : Hp} {r : Nat} {b : Addr} {o : HO} {tb : Tag}
theorem RpL.write' {dd : List D} {md : Md} {t : Tag} {v : List V} {i : Nat} (h : RpL K w H md t i dd v) (d : Dom w H r) (hb : w b = some tb) (h0 : ∀ p, tb ≠ 0 :: p) (ht : ∀ j p, i ≤ j → t ++ j :: p ≠ tb) : RpL K w (upd H b o) md t i dd v := by
  induction dd generalizing i v with
  | nil => exact h
  | cons d' ds ih =>
    obtain ⟨u, rr, e, h1, h2⟩ := h
    exact ⟨u, rr, e, h1.write d hb h0 (fun p => by rw [List.append_assoc]; exact ht i p (Nat.le_refl _)), ih h2 fun j p hj => ht j p (by omega)⟩
theorem RpL.modify (d : Dom w H r) (hb : w b = some tb) (h0 : ∀ p, tb ≠ 0 :: p) {md : Md} {t p : Tag} {j : Nat} (ht : tb = t ++ j :: p) : ∀ {ds : List D} {i k' : Nat} {vs : List V} {d1 : D} {v1 : V} {e : D}, j = i + k' → RpL K w H md t i ds vs → ds[k']? = some d1 → vs[k']? = some v1 → Rp K w (upd H b o) md (t ++ [j]) e v1 → RpL K w (upd H b o) md t i (ds.set k' e) vs
  | [], _, _, _, _, _, _, _, _, q, _, _ => by simp at q
  | dd :: ds, i, 0, vs, d1, v1, e, hj, ⟨v, rr, ev, h1, h2⟩, q, q2, h => by
    subst ev
    simp at q q2; subst q; subst q2
    have hj : j = i := hj
    subst hj
    exact ⟨v, rr, rfl, h, RpL.write' h2 d hb h0 fun j' p' hj' => by rw [ht]; exact tag_ne2 (by omega)⟩
  | dd :: ds, i, k' + 1, vs, d1, v1, e, hj, ⟨v, rr, ev, h1, h2⟩, q, q2, h => by
    subst ev
    exact ⟨v, rr, rfl, h1.write d hb h0 fun p' => by rw [ht, List.append_assoc]; exact tag_ne2 (by omega), RpL.modify d hb h0 ht (by omega) h2 (by simpa using q) (by simpa using q2) h⟩
theorem RpK.write {dd : List (Key × D)} {md : Md} {t : Tag} {v : List (Key × V)} {i : Nat} (h : RpK K w H md t i dd v) (d : Dom w H r) (hb : w b = some tb) (h0 : ∀ p, tb ≠ 0 :: p) (ht : ∀ j p, i ≤ j → t ++ j :: p ≠ tb) : RpK K w (upd H b o) md t i dd v := by
  induction dd generalizing i v with
  | nil => exact h
  | cons d' ds ih =>
    obtain ⟨k, d'⟩ := d'
    obtain ⟨u, rr, e, h1, h2⟩ := h
    exact ⟨u, rr, e, h1.write d hb h0 (fun p => by rw [List.append_assoc]; exact ht i p (Nat.le_refl _)), ih h2 fun j p hj => ht j p (by omega)⟩
theorem RpK.get {md : Md} {t : Tag} : ∀ {ds : List (Key × D)} {i j : Nat} {vs : List (Key × V)} {k d}, RpK K w H md t i ds vs → ds[j]? = some (k, d) → ∃ v, vs[j]? = some (k, v) ∧ Rp K w H md (t ++ [i + j]) d v
  | [], _, _, _, _, _, _, e => by simp at e
  | (k', d') :: ds, i, 0, _, k, d, ⟨v, r, e, h1, _⟩, q => by
    simp at q; obtain ⟨q1, q2⟩ := q; subst q1; subst q2
    exact ⟨v, by rw [e]; rfl, h1⟩
  | (k', d') :: ds, i, j + 1, _, k, d, ⟨v, r, e, _, h2⟩, q => by
    obtain ⟨u, h3, h4⟩ := RpK.get h2 (j := j) (by simpa using q)
    refine ⟨u, by rw [e]; simpa using h3, ?_⟩
    rw [show i + (j + 1) = i + 1 + j by omega]; exact h4
theorem RpK.modify (d : Dom w H r) (hb : w b = some tb) (h0 : ∀ p, tb ≠ 0 :: p) {md : Md} {t p : Tag} {j : Nat} (ht : tb = t ++ j :: p) : ∀ {ds : List (Key × D)} {i k' : Nat} {vs : List (Key × V)} {k} {d1 : D} {v1 : V} {e : D}, j = i + k' → RpK K w H md t i ds vs → ds[k']? = some (k, d1) → vs[k']? = some (k, v1) → Rp K w (upd H b o) md (t ++ [j]) e v1 → RpK K w (upd H b o) md t i (ds.set k' (k, e)) vs
  | [], _, _, _, _, _, _, _, _, _, q, _, _ => by simp at q
  | (kk, dd) :: ds, i, 0, vs, k, d1, v1, e, hj, ⟨v, rr, ev, h1, h2⟩, q, q2, h => by
    subst ev
    simp at q q2; obtain ⟨⟨e1, e2⟩, _, e3⟩ := And.intro q q2; subst e1; subst e2; subst e3
    have hj : j = i := hj
    subst hj
    exact ⟨v, rr, rfl, h, RpK.write h2 d hb h0 fun j' p' hj' => by rw [ht]; exact tag_ne2 (by omega)⟩
  | (kk, dd) :: ds, i, k' + 1, vs, k, d1, v1, e, hj, ⟨v, rr, ev, h1, h2⟩, q, q2, h => by
    subst ev
    exact ⟨v, rr, rfl, h1.write d hb h0 fun p' => by rw [ht, List.append_assoc]; exact tag_ne2 (by omega), RpK.modify d hb h0 ht (by omega) h2 (by simpa using q) (by simpa using q2) h⟩
theorem RpT.write {dd : List (List Key × D)} {md : Md} {t : Tag} {v : List (List Key × V)} {i : Nat} (h : RpT K w H md t i dd v) (d : Dom w H r) (hb : w b = some tb) (h0 : ∀ p, tb ≠ 0 :: p) (ht : ∀ j p, i ≤ j → t ++ j :: p ≠ tb) : RpT K w (upd H b o) md t i dd v := by
  induction dd generalizing i v with
  | nil => exact h
  | cons d' ds ih =>
    obtain ⟨k, d'⟩ := d'
    obtain ⟨u, rr, e, h1, h2⟩ := h
    exact ⟨u, rr, e, h1.write d hb h0 (fun p => by rw [List.append_assoc]; exact ht i p (Nat.le_refl _)), ih h2 fun j p hj => ht j p (by omega)⟩
theorem RpT.get {md : Md} {t : Tag} : ∀ {ds : List (List Key × D)} {i j : Nat} {vs : List (List Key × V)} {k d}, RpT K w H md t i ds vs → ds[j]? = some (k, d) → ∃ v, vs[j]? = some (k, v) ∧ Rp K w H md (t ++ [i + j]) d v
  | [], _, _, _, _, _, _, e => by simp at e
  | (k', d') :: ds, i, 0, _, k, d, ⟨v, r, e, h1, _⟩, q => by
    simp at q; obtain ⟨q1, q2⟩ := q; subst q1; subst q2
    exact ⟨v, by rw [e]; rfl, h1⟩
  | (k', d') :: ds, i, j + 1, _, k, d, ⟨v, r, e, _, h2⟩, q => by
    obtain ⟨u, h3, h4⟩ := RpT.get h2 (j := j) (by simpa using q)
    refine ⟨u, by rw [e]; simpa using h3, ?_⟩
    rw [show i + (j + 1) = i + 1 + j by omega]; exact h4
theorem RpT.modify (d : Dom w H r) (hb : w b = some tb) (h0 : ∀ p, tb ≠ 0 :: p) {md : Md} {t p : Tag} {j : Nat} (ht : tb = t ++ j :: p) : ∀ {ds : List (List Key × D)} {i k' : Nat} {vs : List (List Key × V)} {k} {d1 : D} {v1 : V} {e : D}, j = i + k' → RpT K w H md t i ds vs → ds[k']? = some (k, d1) → vs[k']? = some (k, v1) → Rp K w (upd H b o) md (t ++ [j]) e v1 → RpT K w (upd H b o) md t i (ds.set k' (k, e)) vs
  | [], _, _, _, _, _, _, _, _, _, q, _, _ => by simp at q
  | (kk, dd) :: ds, i, 0, vs, k, d1, v1, e, hj, ⟨v, rr, ev, h1, h2⟩, q, q2, h => by
    subst ev
    simp at q q2; obtain ⟨⟨e1, e2⟩, _, e3⟩ := And.intro q q2; subst e1; subst e2; subst e3
    have hj : j = i := hj
    subst hj
    exact ⟨v, rr, rfl, h, RpT.write h2 d hb h0 fun j' p' hj' => by rw [ht]; exact tag_ne2 (by omega)⟩
  | (kk, dd) :: ds, i, k' + 1, vs, k, d1, v1, e, hj, ⟨v, rr, ev, h1, h2⟩, q, q2, h => by
    subst ev
    exact ⟨v, rr, rfl, h1.write d hb h0 fun p' => by rw [ht, List.append_assoc]; exact tag_ne2 (by omega), RpT.modify d hb h0 ht (by omega) h2 (by simpa using q) (by simpa using q2) h⟩
theorem RpF.write {dd : List (Str × D)} {md : Md} {t : Tag} {v : List (Str × V)} {i : Nat} (h : RpF K w H md t i dd v) (d : Dom w H r) (hb : w b = some tb) (h0 : ∀ p, tb ≠ 0 :: p) (ht : ∀ j p, i ≤ j → t ++ j :: p ≠ tb) : RpF K w (upd H b o) md t i dd v := by
  induction dd generalizing i v with
  | nil => exact h
  | cons d' ds ih =>
    obtain ⟨k, d'⟩ := d'
    obtain ⟨u, rr, e, h1, h2⟩ := h
    exact ⟨u, rr, e, h1.write d hb h0 (fun p => by rw [List.append_assoc]; exact ht i p (Nat.le_refl _)), ih h2 fun j p hj => ht j p (by omega)⟩
theorem RpF.get {md : Md} {t : Tag} : ∀ {ds : List (Str × D)} {i j : Nat} {vs : List (Str × V)} {k d}, RpF K w H md t i ds vs → ds[j]? = some (k, d) → ∃ v, vs[j]? = some (k, v) ∧ Rp K w H md (t ++ [i + j]) d v
  | [], _, _, _, _, _, _, e => by simp at e
  | (k', d') :: ds, i, 0, _, k, d, ⟨v, r, e, h1, _⟩, q => by
    simp at q; obtain ⟨q1, q2⟩ := q; subst q1; subst q2
    exact ⟨v, by rw [e]; rfl, h1⟩
  | (k', d') :: ds, i, j + 1, _, k, d, ⟨v, r, e, _, h2⟩, q => by
    obtain ⟨u, h3, h4⟩ := RpF.get h2 (j := j) (by simpa using q)
    refine ⟨u, by rw [e]; simpa using h3, ?_⟩
    rw [show i + (j + 1) = i + 1 + j by omega]; exact h4
theorem RpF.modify (d : Dom w H r) (hb : w b = some tb) (h0 : ∀ p, tb ≠ 0 :: p) {md : Md} {t p : Tag} {j : Nat} (ht : tb = t ++ j :: p) : ∀ {ds : List (Str × D)} {i k' : Nat} {vs : List (Str × V)} {k} {d1 : D} {v1 : V} {e : D}, j = i + k' → RpF K w H md t i ds vs → ds[k']? = some (k, d1) → vs[k']? = some (k, v1) → Rp K w (upd H b o) md (t ++ [j]) e v1 → RpF K w (upd H b o) md t i (ds.set k' (k, e)) vs
  | [], _, _, _, _, _, _, _, _, _, q, _, _ => by simp at q
  | (kk, dd) :: ds, i, 0, vs, k, d1, v1, e, hj, ⟨v, rr, ev, h1, h2⟩, q, q2, h => by
    subst ev
    simp at q q2; obtain ⟨⟨e1, e2⟩, _, e3⟩ := And.intro q q2; subst e1; subst e2; subst e3
    have hj : j = i := hj
    subst hj
    exact ⟨v, rr, rfl, h, RpF.write h2 d hb h0 fun j' p' hj' => by rw [ht]; exact tag_ne2 (by omega)⟩
  | (kk, dd) :: ds, i, k' + 1, vs, k, d1, v1, e, hj, ⟨v, rr, ev, h1, h2⟩, q, q2, h => by
    subst ev
    exact ⟨v, rr, rfl, h1.write d hb h0 fun p' => by rw [ht, List.append_assoc]; exact tag_ne2 (by omega), RpF.modify d hb h0 ht (by omega) h2 (by simpa using q) (by simpa using q2) h⟩
theorem nd_ne (hb : w b = some tb) (h0 : ∀ p, tb ≠ 0 :: p) {md : Md} {t : Tag} {a : Addr} (n : Nd w md t a) (ht : t ≠ tb) : a ≠ b := fun z => by
  subst z
  cases md with
  | lent =>
    rcases n with n | ⟨p, n⟩
    · rw [hb] at n; cases n
    · rw [hb] at n; cases n; exact h0 p rfl
  | all =>
    have n' : w a = some t := n
    rw [hb] at n'
    exact ht (Option.some.inj n').symm
  | own n' =>
    cases n' with
    | zero =>
      have n' : w a = none := n
      rw [hb] at n'; cases n'
    | succ n' =>
      have n' : w a = some t := n
      rw [hb] at n'
      exact ht (Option.some.inj n').symm
theorem tup_ne (d : Dom w H r) (hb : w b = some tb) {a : Addr} {xs : List V} (h : TupAt K H a xs) : TupAt K (upd H b o) a xs := by
  have mb := (d b tb hb).1
  have n : ∀ v, H a = some v → ¬ Mut (some v) → a ≠ b := fun v e q z => by
    rw [z] at e
    rw [e] at mb
    exact q mb
  rcases h with h | h
  · exact .inl (by rw [upd_ne (n _ h fun z => z)]; exact h)
  · exact .inr h
theorem RA.map {G : Md → Tag → Md → Tag → Prop} (M : Mp K w H w' H' G) : ∀ (p : Tag) {md : Md} {t : Tag} {d : D} {v : V} {md' : Md} {d' : D} {v' : V}, G md t md t → RA K w H p md t d v md' d' v' → RA K w' H' p md t d v md' d' v'
  | [], _, _, d, _, _, _, _, g, ⟨e1, e2, e3, h⟩ => ⟨e1, e2, e3, Rp.map M d g h⟩
  | j :: p, _, _, .lst ds, _, _, _, _, g, ⟨a, vs, d1, v1, e, nd, o, r, h1, h2, h⟩ => let q := M.nd a (.lst vs) g trivial nd o; ⟨a, vs, d1, v1, e, q.1, q.2, RpL.map M ds (M.sub g) r, h1, h2, RA.map M p (M.ix j (M.sub g)) h⟩
  | j :: p, _, _, .tup ds, _, _, _, _, g, ⟨a, vs, d1, v1, e, s, r, h1, h2, h⟩ => ⟨a, vs, d1, v1, e, M.tup a vs s, RpL.map M ds g r, h1, h2, RA.map M p (M.ix j g) h⟩
  | j :: p, _, _, .dK ds, _, _, _, _, g, ⟨a, vs, k, d1, v1, e, nd, o, r, h1, h2, h⟩ => let q := M.nd a (.dK vs) g trivial nd o; ⟨a, vs, k, d1, v1, e, q.1, q.2, RpK.map M ds (M.sub g) r, h1, h2, RA.map M p (M.ix j (M.sub g)) h⟩
  | j :: p, _, _, .dT ds, _, _, _, _, g, ⟨a, vs, k, d1, v1, e, nd, o, r, h1, h2, h⟩ => let q := M.nd a (.dT vs) g trivial nd o; ⟨a, vs, k, d1, v1, e, q.1, q.2, RpT.map M ds (M.sub g) r, h1, h2, RA.map M p (M.ix j (M.sub g)) h⟩
  | j :: p, _, _, .ins C ds, _, _, _, _, g, ⟨a, dx, vs, k, d1, v1, e, nd, o, r, h1, h2, h⟩ => let q := M.nd a (.ins C dx vs) g trivial nd o; ⟨a, dx, vs, k, d1, v1, e, q.1, q.2, RpF.map M ds (M.sub g) r, h1, h2, RA.map M p (M.ix j (M.sub g)) h⟩
  | _ :: _, _, _, .non, _, _, _, _, _, h => h.elim
  | _ :: _, _, _, .bl _, _, _, _, _, _, h => h.elim
  | _ :: _, _, _, .int _, _, _, _, _, _, h => h.elim
  | _ :: _, _, _, .str _, _, _, _, _, _, h => h.elim
  | _ :: _, _, _, .frz _, _, _, _, _, _, h => h.elim
theorem RA.rp : ∀ (p : Tag) {md : Md} {t : Tag} {d : D} {v : V} {md' : Md} {d' : D} {v' : V}, RA K w H p md t d v md' d' v' → Rp K w H md' (t ++ p) d' v'
  | [], _, t, d, _, _, _, _, ⟨e1, e2, e3, h⟩ => by rw [List.append_nil]; subst e1; subst e2; subst e3; exact h
  | j :: p, _, t, .lst ds, _, _, _, _, ⟨a, vs, d1, v1, e, nd, o, r, h1, h2, h⟩ => by
    have q := RA.rp p h
    rw [List.append_assoc] at q
    exact q
  | j :: p, _, t, .tup ds, _, _, _, _, ⟨a, vs, d1, v1, e, o, r, h1, h2, h⟩ => by
    have q := RA.rp p h
    rw [List.append_assoc] at q
    exact q
  | j :: p, _, t, .dK ds, _, _, _, _, ⟨a, vs, k, d1, v1, e, nd, o, r, h1, h2, h⟩ => by
    have q := RA.rp p h
    rw [List.append_assoc] at q
    exact q
  | j :: p, _, t, .dT ds, _, _, _, _, ⟨a, vs, k, d1, v1, e, nd, o, r, h1, h2, h⟩ => by
    have q := RA.rp p h
    rw [List.append_assoc] at q
    exact q
  | j :: p, _, t, .ins C ds, _, _, _, _, ⟨a, dx, vs, k, d1, v1, e, nd, o, r, h1, h2, h⟩ => by
    have q := RA.rp p h
    rw [List.append_assoc] at q
    exact q
  | _ :: _, _, _, .non, _, _, _, _, h => h.elim
  | _ :: _, _, _, .bl _, _, _, _, _, h => h.elim
  | _ :: _, _, _, .int _, _, _, _, _, h => h.elim
  | _ :: _, _, _, .str _, _, _, _, _, h => h.elim
  | _ :: _, _, _, .frz _, _, _, _, _, h => h.elim
theorem RA.whole : ∀ (p : Tag) {md : Md} {t : Tag} {d : D} {v : V} {md' : Md} {d' : D} {v' : V}, RA K w H p md t d v md' d' v' → Rp K w H md t d v
  | [], _, t, d, _, _, _, _, ⟨e1, e2, e3, h⟩ => h
  | j :: p, _, t, .lst ds, _, _, _, _, ⟨a, vs, d1, v1, e, nd, o, r, h1, h2, h⟩ => ⟨a, vs, e, nd, o, r⟩
  | j :: p, _, t, .tup ds, _, _, _, _, ⟨a, vs, d1, v1, e, o, r, h1, h2, h⟩ => ⟨a, vs, e, o, r⟩
  | j :: p, _, t, .dK ds, _, _, _, _, ⟨a, vs, k, d1, v1, e, nd, o, r, h1, h2, h⟩ => ⟨a, vs, e, nd, o, r⟩
  | j :: p, _, t, .dT ds, _, _, _, _, ⟨a, vs, k, d1, v1, e, nd, o, r, h1, h2, h⟩ => ⟨a, vs, e, nd, o, r⟩
  | j :: p, _, t, .ins C ds, _, _, _, _, ⟨a, dx, vs, k, d1, v1, e, nd, o, r, h1, h2, h⟩ => ⟨a, dx, vs, e, nd, o, r⟩
  | _ :: _, _, _, .non, _, _, _, _, h => h.elim
  | _ :: _, _, _, .bl _, _, _, _, _, h => h.elim
  | _ :: _, _, _, .int _, _, _, _, _, h => h.elim
  | _ :: _, _, _, .str _, _, _, _, _, h => h.elim
  | _ :: _, _, _, .frz _, _, _, _, _, h => h.elim
/-- what stands at the path is written -/
theorem RA.set (dm : Dom w H r) (hb : w b = some tb) (h0 : ∀ p, tb ≠ 0 :: p) : ∀ (p : Tag) {md : Md} {t : Tag} {d : D} {v : V} {md' : Md} {d' n : D} {v' : V}, tb = t ++ p → RA K w H p md t d v md' d' v' → Rp K w (upd H b o) md' (t ++ p) n v' → Rp K w (upd H b o) md t (setAt p d n) v
  | [], _, t, d, _, _, _, _, _, _, ⟨e1, e2, e3, h⟩, q => by rw [List.append_nil] at q; subst e1; subst e2; subst e3; exact q
  | j :: p, _, t, .lst ds, _, _, _, n, _, ht, ⟨a, vs, d1, v1, e, nd, o1, r1, h1, h2, h⟩, q => by
    have ih := RA.set dm hb h0 p (by rw [List.append_assoc]; exact ht) h (by rw [List.append_assoc]; exact q)
    have es : setAt (j :: p) (.lst ds) n = .lst (ds.set j (setAt p d1 n)) := by
      show (match ds[j]? with | some d => _ | none => _) = _
      rw [h1]
    rw [es]
    have ne := nd_ne hb h0 nd (by rw [ht]; exact tag_ne)
    exact ⟨a, vs, e, nd, (upd_ne ne).trans o1, RpL.modify dm hb h0 (p := p) ht (Nat.zero_add j).symm r1 h1 h2 ih⟩
  | j :: p, _, t, .tup ds, _, _, _, n, _, ht, ⟨a, vs, d1, v1, e, o1, r1, h1, h2, h⟩, q => by
    have ih := RA.set dm hb h0 p (by rw [List.append_assoc]; exact ht) h (by rw [List.append_assoc]; exact q)
    have es : setAt (j :: p) (.tup ds) n = .tup (ds.set j (setAt p d1 n)) := by
      show (match ds[j]? with | some d => _ | none => _) = _
      rw [h1]
    rw [es]
    exact ⟨a, vs, e, tup_ne dm hb o1, RpL.modify dm hb h0 (p := p) ht (Nat.zero_add j).symm r1 h1 h2 ih⟩
  | j :: p, _, t, .dK ds, _, _, _, n, _, ht, ⟨a, vs, k, d1, v1, e, nd, o1, r1, h1, h2, h⟩, q => by
    have ih := RA.set dm hb h0 p (by rw [List.append_assoc]; exact ht) h (by rw [List.append_assoc]; exact q)
    have es : setAt (j :: p) (.dK ds) n = .dK (ds.set j (k, setAt p d1 n)) := by
      show (match ds[j]? with | some (k, d) => _ | none => _) = _
      rw [h1]
    rw [es]
    have ne := nd_ne hb h0 nd (by rw [ht]; exact tag_ne)
    exact ⟨a, vs, e, nd, (upd_ne ne).trans o1, RpK.modify dm hb h0 (p := p) ht (Nat.zero_add j).symm r1 h1 h2 ih⟩
  | j :: p, _, t, .dT ds, _, _, _, n, _, ht, ⟨a, vs, k, d1, v1, e, nd, o1, r1, h1, h2, h⟩, q => by
    have ih := RA.set dm hb h0 p (by rw [List.append_assoc]; exact ht) h (by rw [List.append_assoc]; exact q)
    have es : setAt (j :: p) (.dT ds) n = .dT (ds.set j (k, setAt p d1 n)) := by
      show (match ds[j]? with | some (k, d) => _ | none => _) = _
      rw [h1]
    rw [es]
    have ne := nd_ne hb h0 nd (by rw [ht]; exact tag_ne)
    exact ⟨a, vs, e, nd, (upd_ne ne).trans o1, RpT.modify dm hb h0 (p := p) ht (Nat.zero_add j).symm r1 h1 h2 ih⟩
  | j :: p, _, t, .ins C ds, _, _, _, n, _, ht, ⟨a, dx, vs, k, d1, v1, e, nd, o1, r1, h1, h2, h⟩, q => by
    have ih := RA.set dm hb h0 p (by rw [List.append_assoc]; exact ht) h (by rw [List.append_assoc]; exact q)
    have es : setAt (j :: p) (.ins C ds) n = .ins C (ds.set j (k, setAt p d1 n)) := by
      show (match ds[j]? with | some (k, d) => _ | none => _) = _
      rw [h1]
    rw [es]
    have ne := nd_ne hb h0 nd (by rw [ht]; exact tag_ne)
    exact ⟨a, dx, vs, e, nd, (upd_ne ne).trans o1, RpF.modify dm hb h0 (p := p) ht (Nat.zero_add j).symm r1 h1 h2 ih⟩
  | _ :: _, _, _, .non, _, _, _, _, _, _, h, _ => h.elim
  | _ :: _, _, _, .bl _, _, _, _, _, _, _, h, _ => h.elim
  | _ :: _, _, _, .int _, _, _, _, _, _, _, h, _ => h.elim
  | _ :: _, _, _, .str _, _, _, _, _, _, _, h, _ => h.elim
  | _ :: _, _, _, .frz _, _, _, _, _, _, _, h, _ => h.elim
end
end DL

/-! DL part 8: places as expressions: names, subscripts, attributes. -/
namespace DL
open PySem L2
section
variable {K : PySem.W.Frag} {w w' : Om} {H H' : Hp}
theorem RA.trans : ∀ (p : Tag) {md : Md} {t : Tag} {d : D} {v : V} {md' : Md} {d' : D} {v' : V} {q : Tag} {md2 : Md} {d2 : D} {v2 : V}, RA K w H p md t d v md' d' v' → RA K w H q md' (t ++ p) d' v' md2 d2 v2 → RA K w H (p ++ q) md t d v md2 d2 v2
  | [], _, t, d, _, _, _, _, q, _, _, _, ⟨e1, e2, e3, h⟩, z => by
    rw [List.append_nil] at z; subst e1; subst e2; subst e3; exact z
  | j :: p, _, t, .lst ds, _, _, _, _, q, _, _, _, ⟨a, vs, d1, v1, e, nd, o, r, h1, h2, h⟩, z => ⟨a, vs, d1, v1, e, nd, o, r, h1, h2, RA.trans p h (by rw [List.append_assoc]; exact z)⟩
  | j :: p, _, t, .tup ds, _, _, _, _, q, _, _, _, ⟨a, vs, d1, v1, e, o, r, h1, h2, h⟩, z => ⟨a, vs, d1, v1, e, o, r, h1, h2, RA.trans p h (by rw [List.append_assoc]; exact z)⟩
  | j :: p, _, t, .dK ds, _, _, _, _, q, _, _, _, ⟨a, vs, k, d1, v1, e, nd, o, r, h1, h2, h⟩, z => ⟨a, vs, k, d1, v1, e, nd, o, r, h1, h2, RA.trans p h (by rw [List.append_assoc]; exact z)⟩
  | j :: p, _, t, .dT ds, _, _, _, _, q, _, _, _, ⟨a, vs, k, d1, v1, e, nd, o, r, h1, h2, h⟩, z => ⟨a, vs, k, d1, v1, e, nd, o, r, h1, h2, RA.trans p h (by rw [List.append_assoc]; exact z)⟩
  | j :: p, _, t, .ins C ds, _, _, _, _, q, _, _, _, ⟨a, dx, vs, k, d1, v1, e, nd, o, r, h1, h2, h⟩, z => ⟨a, dx, vs, k, d1, v1, e, nd, o, r, h1, h2, RA.trans p h (by rw [List.append_assoc]; exact z)⟩
  | _ :: _, _, _, .non, _, _, _, _, _, _, _, _, h, _ => h.elim
  | _ :: _, _, _, .bl _, _, _, _, _, _, _, _, _, h, _ => h.elim
  | _ :: _, _, _, .int _, _, _, _, _, _, _, _, _, h, _ => h.elim
  | _ :: _, _, _, .str _, _, _, _, _, _, _, _, _, h, _ => h.elim
  | _ :: _, _, _, .frz _, _, _, _, _, _, _, _, _, h, _ => h.elim
  | _ :: _, _, _, .adr _, _, _, _, _, _, _, _, _, h, _ => h.elim
end
/-! ### items -/
def keyOf : D → Option Key
  | .int i => some (.inl i)
  | .str x => some (.inr x)
  | _ => none
def keysOf : List D → Option (List Key)
  | [] => some []
  | d :: ds => match keyOf d, keysOf ds with
    | some k, some ks => some (k :: ks)
    | _, _ => none
/-- the place of a key -/
def posK {κ : Type} [DecidableEq κ] (kvs : List (κ × D)) (k : κ) : Option Nat := kvs.findIdx? fun p => decide (p.1 = k)
def itK {κ : Type} [DecidableEq κ] (kvs : List (κ × D)) (k : κ) : Option (Nat × D) := (posK kvs k).bind fun j => (kvs[j]?).map fun p => (j, p.2)
/-- the item that a subscript means, its place -/
def gIx (c1 c2 : Cel) : Option (Nat × Cel) := match c1.2, c2.2 with
  | .lst ds, .int i => (ixN ds.length i).bind fun j => (ds[j]?).map fun d => (j, (c1.1.sub, d))
  | .tup ds, .int i => (ixN ds.length i).bind fun j => (ds[j]?).map fun d => (j, (c1.1, d))
  | .str z, .int i => if z.length ≤ sizeLine then (atI z.cps.toList i).map fun c => (0, (.own 0, .str ⟨#[c]⟩)) else none
  | .frz ns, .int i => (atI ns i).map fun n => (0, (.own 0, .int n))
  | .dK kvs, k => (keyOf k).bind fun k => (itK kvs k).map fun p => (p.1, (c1.1.sub, p.2))
  | .dT kvs, .tup ks => if ks.isEmpty = true then none else (keysOf ks).bind fun k => (itK kvs k).map fun p => (p.1, (c1.1.sub, p.2))
  | _, _ => none
def rIxA (K : PySem.W.Frag) : R2 := fun x y H Q => rIx K x y H Q ∨ ∃ a v, x = .ref a ∧ DGet H a y (some v) ∧ Q v H
theorem ix_dict {X : Cx} (hu : X.A.units + 1 < cLine) : IxR X (fun x y H Q => ∃ a v, x = .ref a ∧ DGet H a y (some v) ∧ Q v H) := by
  intro value slice pins s σ H x y v u Q I rx ry h hs
  obtain ⟨a, z, ex, g, q⟩ := h
  subst ex
  obtain rfl : v = Value.ref a := rx
  exact PyProof.Rows.tail_any (dict_typeIs I g) PySem.F.slot_dict_getitem.lookup (d_getItem hu I g ry fun w' s3 I3 rw' => ⟨z, H, I3, rw', q⟩) hs
theorem ix_A {X : Cx} (hu : X.A.units + 1 < cLine) : IxR X (rIxA X.K) := ix_seq.or (ix_dict hu)
section
variable {K : PySem.W.Frag} {w : Om} {H : Hp} {md : Md} {t : Tag}
theorem atI_of {α : Type} {xs : List α} {i : Int} {j : Nat} {v : α} (h : ixN xs.length i = some j) (e : xs[j]? = some v) : atI xs i = some v := by
  unfold atI; rw [h]; exact e
theorem posK_val {kvs : List (Key × D)} {ws : List (Key × V)} {i j : Nat} {k k2 : Key} {d : D} (h : RpK K w H md t i kvs ws) (e : posK kvs k = some j) (q : kvs[j]? = some (k2, d)) : ∃ v, k2 = k ∧ ws[j]? = some (k, v) ∧ valV ws k = some v := by
  induction kvs generalizing i j ws with
  | nil => simp at q
  | cons p ps ih =>
    obtain ⟨k', d'⟩ := p
    obtain ⟨v', r, ev, h1, h2⟩ := h
    subst ev
    have e : (List.findIdx? (fun p => decide (p.1 = k)) ((k', d') :: ps)) = some j := e
    rw [List.findIdx?_cons] at e
    by_cases z : k' = k
    · subst z
      simp at e
      subst e
      simp at q
      obtain ⟨rfl, rfl⟩ := q
      exact ⟨v', rfl, rfl, valV_pos rfl⟩
    · rw [if_neg (by simpa using z)] at e
      cases e2 : List.findIdx? (fun p => decide (p.1 = k)) ps with
      | none => rw [e2] at e; cases e
      | some j' =>
        rw [e2] at e
        have e : some (j' + 1) = some j := e
        cases e
        obtain ⟨v, a1, a2, a3⟩ := ih h2 e2 (by simpa using q)
        exact ⟨v, a1, by simpa using a2, by rw [valV_neg z]; exact a3⟩
theorem posT_val {kvs : List (List Key × D)} {ws : List (List Key × V)} {i j : Nat} {k k2 : List Key} {d : D} (h : RpT K w H md t i kvs ws) (e : posK kvs k = some j) (q : kvs[j]? = some (k2, d)) : ∃ v, k2 = k ∧ ws[j]? = some (k, v) ∧ valV ws k = some v := by
  induction kvs generalizing i j ws with
  | nil => simp at q
  | cons p ps ih =>
    obtain ⟨k', d'⟩ := p
    obtain ⟨v', r, ev, h1, h2⟩ := h
    subst ev
    have e : (List.findIdx? (fun p => decide (p.1 = k)) ((k', d') :: ps)) = some j := e
    rw [List.findIdx?_cons] at e
    by_cases z : k' = k
    · subst z
      simp at e
      subst e
      simp at q
      obtain ⟨rfl, rfl⟩ := q
      exact ⟨v', rfl, rfl, valV_pos rfl⟩
    · rw [if_neg (by simpa using z)] at e
      cases e2 : List.findIdx? (fun p => decide (p.1 = k)) ps with
      | none => rw [e2] at e; cases e
      | some j' =>
        rw [e2] at e
        have e : some (j' + 1) = some j := e
        cases e
        obtain ⟨v, a1, a2, a3⟩ := ih h2 e2 (by simpa using q)
        exact ⟨v, a1, by simpa using a2, by rw [valV_neg z]; exact a3⟩
theorem itK_some {κ : Type} [DecidableEq κ] {kvs : List (κ × D)} {k : κ} {p : Nat × D} (e : itK kvs k = some p) : posK kvs k = some p.1 ∧ ∃ k2, kvs[p.1]? = some (k2, p.2) := by
  unfold itK at e
  cases q : posK kvs k with
  | none => rw [q] at e; cases e
  | some j =>
    rw [q] at e
    have e : (kvs[j]?).map (fun p => (j, p.2)) = some p := e
    cases q2 : kvs[j]? with
    | none => rw [q2] at e; cases e
    | some z =>
      rw [q2] at e
      cases e
      exact ⟨rfl, z.1, q2⟩
theorem keyOf_kV {d : D} {k : Key} {v : V} (e : keyOf d = some k) (h : Rp K w H md t d v) : v = kV k := by
  cases d <;> first | (cases e; done) | skip
  all_goals (have h := (show _ = _ from h); subst h; cases e; rfl)
theorem keysOf_kV {ds : List D} {ks : List Key} {vs : List V} {i : Nat} (e : keysOf ds = some ks) (h : RpL K w H md t i ds vs) : vs = ks.map kV := by
  induction ds generalizing i vs ks with
  | nil => cases e; exact h
  | cons d ds ih =>
    obtain ⟨v, r, ev, h1, h2⟩ := h
    subst ev
    have e : (match keyOf d, keysOf ds with | some k, some ks => some (k :: ks) | _, _ => none) = some ks := e
    cases e1 : keyOf d with
    | none => rw [e1] at e; cases e
    | some k =>
      cases e2 : keysOf ds with
      | none => rw [e1, e2] at e; cases e
      | some ks' =>
        rw [e1, e2] at e
        cases e
        rw [ih e2 h2, keyOf_kV e1 h1]; rfl
/-- a subscript by values: the item with its place, or flat data -/
theorem ok_ix {c1 c2 c : Cel} {t2 : Tag} {v1 v2 : V} {j : Nat} {Q : VK} (h1 : Rp K w H c1.1 t c1.2 v1) (h2 : Rp K w H c2.1 t2 c2.2 v2) (e : gIx c1 c2 = some (j, c))
    (k : ∀ v, (RA K w H [j] c1.1 t c1.2 v1 c.1 c.2 v ∨ (imm c.2 = true ∧ Rp K w H (.own 0) [0] c.2 v)) → Q v H) : rIxA K v1 v2 H Q := by
  obtain ⟨m1, d1⟩ := c1
  obtain ⟨m2, d2⟩ := c2
  unfold gIx at e
  split at e
  · rename_i ds i e1 e2
    dsimp only at e1 e2 h1 h2 e
    subst e1; subst e2
    cases q : ixN ds.length i with
    | none => rw [q] at e; cases e
    | some j' =>
      rw [q] at e
      have e : (ds[j']?).map (fun d => (j', (m1.sub, d))) = some (j, c) := e
      cases q2 : ds[j']? with
      | none => rw [q2] at e; cases e
      | some d =>
        rw [q2] at e
        cases e
        obtain ⟨a, vs, ea, nd, ob, r⟩ := h1
        obtain ⟨v, q3, q4⟩ := r.get q2
        have q4 : Rp K w H m1.sub (t ++ [0 + j]) d v := q4
        rw [Nat.zero_add] at q4
        exact .inl (.inl ⟨a, vs, i, v, ea, h2, SqL.of ob, atI_of (by rw [r.length]; exact q) q3, k v (.inl ⟨a, vs, d, v, ea, nd, ob, r, q2, q3, rfl, rfl, rfl, q4⟩)⟩)
  · rename_i ds i e1 e2
    dsimp only at e1 e2 h1 h2 e
    subst e1; subst e2
    cases q : ixN ds.length i with
    | none => rw [q] at e; cases e
    | some j' =>
      rw [q] at e
      have e : (ds[j']?).map (fun d => (j', (m1, d))) = some (j, c) := e
      cases q2 : ds[j']? with
      | none => rw [q2] at e; cases e
      | some d =>
        rw [q2] at e
        cases e
        obtain ⟨a, vs, ea, ob, r⟩ := h1
        obtain ⟨v, q3, q4⟩ := r.get q2
        have q4 : Rp K w H m1 (t ++ [0 + j]) d v := q4
        rw [Nat.zero_add] at q4
        exact .inl (.inr (.inl ⟨a, vs, i, v, ea, h2, ob.sq, atI_of (by rw [r.length]; exact q) q3, k v (.inl ⟨a, vs, d, v, ea, ob, r, q2, q3, rfl, rfl, rfl, q4⟩)⟩))
  · rename_i z i e1 e2
    dsimp only at e1 e2 h1 h2 e
    subst e1; subst e2
    split at e
    · rename_i hz
      cases q : atI z.cps.toList i with
      | none => rw [q] at e; cases e
      | some x =>
        rw [q] at e
        cases e
        exact .inl (.inr (.inr ⟨z, i, x, h1, h2, hz, q, k _ (.inr ⟨rfl, rfl⟩)⟩))
    · cases e
  · rename_i ns i e1 e2
    dsimp only at e1 e2 h1 h2 e
    subst e1; subst e2
    cases q : atI ns i with
    | none => rw [q] at e; cases e
    | some x =>
      rw [q] at e
      cases e
      obtain ⟨a, ea, ob⟩ := h1
      refine .inl (.inl ⟨a, _, i, .int x, ea, h2, ob.sq, ?_, k _ (.inr ⟨rfl, rfl⟩)⟩)
      unfold atI at q ⊢
      rw [List.length_map]
      cases q1 : ixN ns.length i with
      | none => rw [q1] at q; cases q
      | some j =>
        rw [q1] at q
        have q : ns[j]? = some x := q
        show (ns.map V.int)[j]? = some (V.int x)
        rw [List.getElem?_map, q]; rfl
  · rename_i kvs e1
    dsimp only at e1 h1 h2 e
    subst e1
    cases q : keyOf d2 with
    | none => rw [q] at e; cases e
    | some key =>
      rw [q] at e
      have e : (itK kvs key).map (fun p => (p.1, (m1.sub, p.2))) = some (j, c) := e
      cases q2 : itK kvs key with
      | none => rw [q2] at e; cases e
      | some p =>
        rw [q2] at e
        cases e
        obtain ⟨q3, k2, q4⟩ := itK_some q2
        obtain ⟨a, ws, ea, nd, ob, r⟩ := h1
        obtain ⟨v, z1, z2, z3⟩ := posK_val r q3 q4
        subst z1
        obtain ⟨v', y1, y2⟩ := r.get q4
        rw [z2] at y1
        cases y1
        rw [Nat.zero_add] at y2
        refine .inr ⟨a, v, ea, ?_, k v (.inl ⟨a, ws, k2, p.2, v, ea, nd, ob, r, q4, z2, rfl, rfl, rfl, y2⟩)⟩
        rw [keyOf_kV q h2, ← z3]
        exact DGet.k ob
  · rename_i kvs ks e1 e2
    dsimp only at e1 e2 h1 h2 e
    subst e1; subst e2
    split at e
    · cases e
    rename_i hne
    cases q : keysOf ks with
    | none => rw [q] at e; cases e
    | some key =>
      rw [q] at e
      have e : (itK kvs key).map (fun p => (p.1, (m1.sub, p.2))) = some (j, c) := e
      cases q2 : itK kvs key with
      | none => rw [q2] at e; cases e
      | some p =>
        rw [q2] at e
        cases e
        obtain ⟨q3, k2, q4⟩ := itK_some q2
        obtain ⟨a, ws, ea, nd, ob, r⟩ := h1
        obtain ⟨v, z1, z2, z3⟩ := posT_val r q3 q4
        subst z1
        obtain ⟨v', y1, y2⟩ := r.get q4
        rw [z2] at y1
        cases y1
        rw [Nat.zero_add] at y2
        obtain ⟨b, us, eb, ob2, r2⟩ := h2
        have ek := keysOf_kV q r2
        rcases ob2 with ob2 | ⟨eu, kt⟩
        · refine .inr ⟨a, v, ea, ?_, k v (.inl ⟨a, ws, k2, p.2, v, ea, nd, ob, r, q4, z2, rfl, rfl, rfl, y2⟩)⟩
          rw [eb, ← z3]
          exact DGet.t ob (by rw [← ek]; exact ob2)
        · rw [eu] at r2
          have : ks = [] := List.length_eq_zero_iff.mp (by rw [← r2.length]; rfl)
          rw [this] at hne
          exact (hne rfl).elim
  · cases e
end
end DL

/-! DL part 9: places, subscripts, slices. -/
namespace DL
open PySem L2
def PlaceOk (K : PySem.W.Frag) (w : Om) (H : Hp) (ρ : Rho) (σ : St) (i : Nat) (c : Cel) (p : Tag) (v : V) : Prop :=
  (∃ c0 v0, ρ[i]? = some (some c0) ∧ σ[i]? = some (some v0) ∧ RA K w H p c0.1 [i + 1] c0.2 v0 c.1 c.2 v) ∨ (imm c.2 = true ∧ Rp K w H (.own 0) [0] c.2 v)
section
variable {K : PySem.W.Frag} {w w' : Om} {H H' : Hp} {ρ ρ' : Rho} {σ : St} {i r r' N : Nat} {c : Cel} {p : Tag} {v : V} {kp : Nat → Prop}
theorem PlaceOk.stp (h : PlaceOk K w H ρ σ i c p v) (dm : Dom w H r) (s : Stp kp w H w' H') (k0 : kp 0) (hi : kp (i + 1)) (e : ρ'[i]? = ρ[i]?) : PlaceOk K w' H' ρ' σ i c p v := by
  rcases h with ⟨c0, v0, e1, e2, h⟩ | ⟨h1, h2⟩
  · exact .inl ⟨c0, v0, e.trans e1, e2, RA.map (s.mp dm k0) p ⟨rfl, rfl, i + 1, [], rfl, hi⟩ h⟩
  · exact .inr ⟨h1, h2.stpI h1 dm s⟩
theorem PlaceOk.rp (h : PlaceOk K w H ρ σ i c p v) : ∃ q, Rp K w H c.1 ((i + 1) :: q) c.2 v := by
  rcases h with ⟨c0, v0, e1, e2, h⟩ | ⟨h1, h2⟩
  · exact ⟨p, RA.rp p h⟩
  · exact ⟨[], Rp.imm ⟨fun _ _ x => x, fun _ _ _ x => x⟩ _ h1 h2⟩
def keepAt (i : Nat) (ρ1 ρ2 : Rho) : Rho := match ρ1[i]? with
  | some x => ρ2.set i x
  | none => ρ2
theorem Sat.put (s : Sat K N r w H σ ρ) {x : Option Cel} (h : ∀ c, x = some c → ∃ v, σ[i]? = some (some v) ∧ Rp K w H c.1 [i + 1] c.2 v) : Sat K N r w H σ (ρ.set i x) :=
  ⟨s.ls, by rw [List.length_set]; exact s.lr, s.dom, fun j c e => by
    by_cases hj : i = j
    · subst hj
      by_cases hl : i < ρ.length
      · rw [List.getElem?_set_self hl] at e
        exact h c (Option.some.inj e)
      · rw [List.getElem?_eq_none (by rw [List.length_set]; omega)] at e; cases e
    · rw [List.getElem?_set_ne hj] at e
      exact s.slot j c e⟩
theorem Sat.keep (s1 : Sat K N r w H σ ρ) (s2 : Sat K N r' w' H' σ ρ') (st : Stp kp w H w' H') (k0 : kp 0) (hi : kp (i + 1)) : Sat K N r' w' H' σ (keepAt i ρ ρ') := by
  unfold keepAt
  cases e : ρ[i]? with
  | none => exact s2
  | some x =>
    refine s2.put fun c ec => ?_
    subst ec
    obtain ⟨v, h1, h2⟩ := s1.slot i c e
    exact ⟨v, h1, h2.stp s1.dom st k0 hi⟩
theorem keepAt_get (h : i < ρ'.length) (h2 : i < ρ.length) : (keepAt i ρ ρ')[i]? = ρ[i]? := by
  unfold keepAt
  rw [List.getElem?_eq_getElem h2]
  exact List.getElem?_set_self h
end
theorem immL_get : ∀ {ds : List D} {j : Nat} {d : D}, immL ds = true → ds[j]? = some d → imm d = true
  | [], _, _, _, e => by simp at e
  | d :: ds, 0, _, h, e => by
    have h : (imm d && immL ds) = true := h
    rw [Bool.and_eq_true] at h
    simp at e; subst e; exact h.1
  | d :: ds, j + 1, _, h, e => by
    have h : (imm d && immL ds) = true := h
    rw [Bool.and_eq_true] at h
    exact immL_get h.2 (by simpa using e)
theorem RA_imm {K : PySem.W.Frag} {w : Om} {H : Hp} {j : Nat} {md : Md} {t : Tag} {v : V} {md' : Md} {d' : D} {v' : V} : ∀ {d : D}, imm d = true → RA K w H [j] md t d v md' d' v' → imm d' = true ∧ Rp K w H (.own 0) [0] d' v'
  | .tup ds, h, ⟨a, vs, d1, v1, e, o, r, h1, h2, e1, e2, e3, h3⟩ => by
    subst e2; subst e3
    have := immL_get h h1
    exact ⟨this, Rp.imm ⟨fun _ _ x => x, fun _ _ _ x => x⟩ _ this h3⟩
  | .lst _, h, _ => by cases h
  | .dK _, h, _ => by cases h
  | .dT _, h, _ => by cases h
  | .ins _ _, h, _ => by cases h
  | .non, _, z => z.elim
  | .bl _, _, z => z.elim
  | .int _, _, z => z.elim
  | .str _, _, z => z.elim
  | .frz _, _, z => z.elim
  | .adr _, _, z => z.elim
def GoodP (X : Cx) (W : WX) (T : List Nat) (i r : Nat) (w : Om) (H : Hp) (σ : St) (Q : VK) : Res (Cel × Tag) → Prop
  | .stuck => False
  | .ok c e' => ∀ w' H' v, Sat X.K X.N.length r w' H' σ e' → PlaceOk X.K w' H' e' σ i c.1 c.2 v → Stp (kpE T r) w H w' H' → Q v H'
  | .exc x e' => ∀ w' H' cls da, Sat X.K X.N.length r w' H' σ e' → XOk X w' H' x cls da → Stp (kpE T r) w H w' H' → W cls da σ H'
/-- an expression that means a place within slot i's structure -/
structure DP (X : Cx) (W : WX) (T : List Nat) (i : Nat) (e : Expr) (f : Rho → Res (Cel × Tag)) : Prop where
  lt : i < X.N.length
  ex : ∃ t : TE, PE X e t ∧ ∀ r w H σ ρ Q, X.N.length < r → Sat X.K X.N.length r w H σ ρ → GoodP X W T i r w H σ Q (f ρ) → t σ H Q
section
variable {X : Cx} {W : WX}
def dpVar (i : Nat) : Rho → Res (Cel × Tag) := fun ρ => match ρ[i]? with
  | some (some c) => .ok (c, []) ρ
  | _ => .stuck
theorem dp_var (i : Nat) {x : Str} {pos : Pos} (hl : i < X.N.length := by exact ltN rfl) (hN : X.N[i]? = some x := by rfl) (hv : Vis X.env.scope x := by first | exact Or.inl rfl | exact Or.inr (Or.inl rfl) | exact Or.inr (Or.inr rfl)) (hd : (x == ("__debug__" : Str)) = false := by decide)
    (hcd : (x == ("__classdict__" : Str)) = false := by decide) : DP X W [] i (.Name x pos) (dpVar i) := by
  refine ⟨hl, _, pe_var hN hv hd hcd, fun r w H σ ρ Q hr s g => ?_⟩
  unfold dpVar at g
  split at g
  · rename_i c e
    obtain ⟨v, h1, h2⟩ := s.slot i c e
    exact ⟨v, h1, g w H v s (.inl ⟨c, v, e, h1, rfl, rfl, rfl, h2⟩) Stp.refl⟩
  · exact g.elim
def dIxP (i : Nat) (f1 : Rho → Res (Cel × Tag)) (f2 : Rho → Res Cel) : Rho → Res (Cel × Tag) := fun ρ => (f1 ρ).bind fun cp ρ1 => (f2 ρ1).bind fun c2 ρ2 => match gIx cp.1 c2 with
  | some jc => .ok (jc.2, cp.2 ++ [jc.1]) (keepAt i ρ1 ρ2)
  | none => .stuck
theorem dp_ix {T1 T2 : List Nat} {i : Nat} {S2 : Src} {a b : Expr} {f1 : Rho → Res (Cel × Tag)} {f2 : Rho → Res Cel} {pos : Pos} (hu : X.A.units + 1 < cLine) (A : DP X W T1 i a f1) (B : DE X W T2 S2 b f2) (hs : PlainIx b := by exact fun _ _ => rfl)
    (off : T2.contains i = false := by rfl) : DP X W (T1 ++ T2) i (.Subscript a b pos) (dIxP i f1 f2) := by
  have hl := A.lt
  obtain ⟨ta, pa, A⟩ := A.ex
  obtain ⟨tb, pb, B⟩ := B.ex
  refine ⟨hl, _, pe_ix (ix_A hu) pa pb hs, fun r w H σ ρ Q hr s g => A r w H σ ρ _ hr s ?_⟩
  unfold dIxP at g
  cases e1 : f1 ρ with
  | stuck => rw [e1] at g; exact g
  | exc x e' => rw [e1] at g; exact fun w' H' cls da s' xo st => g w' H' cls da s' xo (st.mono fun k h => h.l)
  | ok cp ρ1 =>
    rw [e1] at g
    intro w1 H1 v1 s1 p1 st1
    have st1' : Stp (kpE (T1 ++ T2) r) w H w1 H1 := st1.mono fun k h => h.l
    refine B r w1 H1 σ ρ1 _ hr s1 ?_
    have g : GoodP X W (T1 ++ T2) i r w H σ Q ((f2 ρ1).bind fun c2 ρ2 => match gIx cp.1 c2 with | some jc => .ok (jc.2, cp.2 ++ [jc.1]) (keepAt i ρ1 ρ2) | none => .stuck) := g
    cases e2 : f2 ρ1 with
    | stuck => rw [e2] at g; exact g
    | exc x e' => rw [e2] at g; exact fun w' H' cls da s' xo st => g w' H' cls da s' xo (st1'.trans (st.mono fun k h => h.rt))
    | ok c2 ρ2 =>
      rw [e2] at g
      intro w2 H2 v2 t2 s2 o2 h2 st2
      have g : GoodP X W (T1 ++ T2) i r w H σ Q (match gIx cp.1 c2 with | some jc => .ok (jc.2, cp.2 ++ [jc.1]) (keepAt i ρ1 ρ2) | none => .stuck) := g
      have hi : kpE T2 r (i + 1) := ⟨by omega, fun j hj z => by
        have : j = i := by omega
        subst this
        have : T2.contains j = true := by simp [hj]
        rw [off] at this; cases this⟩
      have k0 : kpE T2 r 0 := kpE.zero (by omega)
      cases e3 : gIx cp.1 c2 with
      | none => rw [e3] at g; exact g.elim
      | some jc =>
        rw [e3] at g
        obtain ⟨j, c⟩ := jc
        have sk := s1.keep s2 st2 k0 hi
        have l1 : i < ρ1.length := by rw [s1.lr]; exact hl
        have l2 : i < ρ2.length := by rw [s2.lr]; exact hl
        have p2 := p1.stp (ρ' := keepAt i ρ1 ρ2) s1.dom st2 k0 hi (keepAt_get l2 l1)
        obtain ⟨q, h1⟩ := p2.rp
        have stc : Stp (kpE (T1 ++ T2) r) w2 H2 (cutO w2 r) H2 := Stp.cut fun k h => h.1
        have fin : ∀ v, PlaceOk X.K w2 H2 (keepAt i ρ1 ρ2) σ i c (cp.2 ++ [j]) v → Q v H2 := fun v pl =>
          g (cutO w2 r) H2 v (sk.cut hr) (pl.stp s2.dom (kp := fun k => k < r) (Stp.cut fun _ h => h) (by show 0 < r; omega) (by show i + 1 < r; omega) rfl) ((st1'.trans (st2.mono fun k h => h.rt)).trans stc)
        rcases p2 with ⟨c0, v0, e4, e5, h⟩ | ⟨hi1, hi2⟩
        · refine ok_ix (RA.rp _ h) h2 e3 fun v z => fin v ?_
          rcases z with z | z
          · exact .inl ⟨c0, v0, e4, e5, RA.trans _ h z⟩
          · exact .inr z
        · refine ok_ix h1 h2 e3 fun v z => fin v ?_
          rcases z with z | z
          · exact .inr (RA_imm hi1 z)
          · exact .inr z
/-- what stands at a place, read -/
def dPath (f : Rho → Res (Cel × Tag)) : Rho → Res Cel := fun ρ => (f ρ).bind fun cp ρ1 => .ok cp.1 ρ1
theorem de_path {T : List Nat} {i : Nat} {e : Expr} {f : Rho → Res (Cel × Tag)} (A : DP X W T i e f) : DE X W T (.path i) e (dPath f) := by
  obtain ⟨t, pe, A⟩ := A.ex
  refine ⟨t, pe, fun r w H σ ρ Q hr s g => A r w H σ ρ Q hr s ?_⟩
  unfold dPath at g
  cases e1 : f ρ with
  | stuck => rw [e1] at g; exact g
  | exc x e' => rw [e1] at g; exact g
  | ok c ρ1 =>
    rw [e1] at g
    intro w' H' v s' p st
    obtain ⟨q, h⟩ := p.rp
    exact g w' H' v _ (s'.up (Nat.le_succ _)) ⟨q, rfl⟩ h st
/-- a subscript of a value -/
def dIx (f1 f2 : Rho → Res Cel) : Rho → Res Cel := fun ρ => (f1 ρ).bind fun c1 ρ1 => (f2 ρ1).bind fun c2 ρ2 => match gIx c1 c2 with
  | some jc => ofO (asVal jc.2) ρ2
  | none => .stuck
theorem de_ix {T1 T2 : List Nat} {S1 S2 : Src} {a b : Expr} {f1 f2 : Rho → Res Cel} {pos : Pos} (hu : X.A.units + 1 < cLine) (A : DE X W T1 S1 a f1) (B : DE X W T2 S2 b f2) (hs : PlainIx b := by exact fun _ _ => rfl)
    (hT : ∀ i ∈ T2, i < X.N.length := by exact lt_all rfl) (hS : S1.lt X.N.length := by first | exact trivial | exact ltS rfl) (off : S1.off T2 = true := by rfl) : DE X W (T1 ++ T2) .tmp (.Subscript a b pos) (dIx f1 f2) := by
  obtain ⟨ta, pa, A⟩ := A.ex
  obtain ⟨tb, pb, B⟩ := B.ex
  refine ⟨_, pe_ix (ix_A hu) pa pb hs, fun r w H σ ρ Q hr s gg => ?_⟩
  refine two (β := Cel) (G := GoodE X W (T1 ++ T2) .tmp r w H σ Q) hr hT hS off A B s (fun z => z) (fun x e' z => z) gg fun c1 c2 ρ2 w2 H2 v1 v2 t1 t2 gg s2 h1 h2 st => ?_
  cases e : gIx c1 c2 with
  | none => rw [e] at gg; exact gg.elim
  | some jc =>
    rw [e] at gg
    obtain ⟨j, c⟩ := jc
    have gg : GoodE X W (T1 ++ T2) .tmp r w H σ Q (ofO (asVal c) ρ2) := gg
    cases e2 : asVal c with
    | none => rw [e2] at gg; exact gg.elim
    | some c' =>
      rw [e2] at gg
      refine ok_ix h1 h2 e fun v z => ?_
      have q : ∃ t, Rp X.K w2 H2 c.1 t c.2 v := by
        rcases z with z | z
        · exact ⟨_, RA.rp _ z⟩
        · exact ⟨[0], Rp.imm ⟨fun _ _ x => x, fun _ _ _ x => x⟩ _ z.1 z.2⟩
      obtain ⟨t, q⟩ := q
      have q' : Rp X.K w2 H2 c'.1 [r + 2] c'.2 v := asVal_ok e2 q
      exact opEnd hr (Nat.le_add_right _ _) gg s2 st w2 H2 v (s2.dom.sub (Nat.le_succ _)) Stp.refl q'
/-! ### slices -/
def GoodO (X : Cx) (W : WX) (T : List Nat) (r : Nat) (w : Om) (H : Hp) (σ : St) (Q : Option Int → Hp → Prop) : Res (Option Int) → Prop
  | .stuck => False
  | .ok c e' => ∀ w' H', Sat X.K X.N.length r w' H' σ e' → Stp (kpE T r) w H w' H' → Q c H'
  | .exc x e' => ∀ w' H' cls da, Sat X.K X.N.length r w' H' σ e' → XOk X w' H' x cls da → Stp (kpE T r) w H w' H' → W cls da σ H'
structure DO (X : Cx) (W : WX) (T : List Nat) (e : Option Expr) (f : Rho → Res (Option Int)) : Prop where
  ex : ∃ t : TO, PO X e t ∧ ∀ r w H σ ρ Q, X.N.length < r → Sat X.K X.N.length r w H σ ρ → GoodO X W T r w H σ Q (f ρ) → t σ H Q
def dONone : Rho → Res (Option Int) := fun ρ => .ok none ρ
theorem do_none : DO X W [] none dONone := ⟨_, po_none, fun r w H σ ρ Q hr s g => g w H s Stp.refl⟩
def dOSome (f : Rho → Res Cel) : Rho → Res (Option Int) := fun ρ => (f ρ).bind fun c ρ1 => match c.2 with
  | .int i => .ok (some i) ρ1
  | _ => .stuck
theorem do_some {T : List Nat} {S : Src} {e : Expr} {f : Rho → Res Cel} (A : DE X W T S e f) : DO X W T (some e) (dOSome f) := by
  obtain ⟨t, pe, A⟩ := A.ex
  refine ⟨_, po_some pe, fun r w H σ ρ Q hr s g => A r w H σ ρ _ hr s ?_⟩
  unfold dOSome at g
  cases e1 : f ρ with
  | stuck => rw [e1] at g; exact g
  | exc x e' => rw [e1] at g; exact g
  | ok c ρ1 =>
    obtain ⟨m, d⟩ := c
    rw [e1] at g
    intro w' H' v t s' o h st
    cases d with
    | int i => exact ⟨i, h, g (cutO w' r) H' (s'.cut hr) (st.trans (Stp.cut fun k h => h.1))⟩
    | _ => exact g.elim
def cutL {α : Type} (xs : List α) (lo hi : Option Int) : List α := (xs.drop (HT.sIx xs.length 0 lo)).take (HT.sIx xs.length xs.length hi - HT.sIx xs.length 0 lo)
theorem RpL.take {K : PySem.W.Frag} {w : Om} {H : Hp} {md : Md} {t : Tag} : ∀ (n : Nat) {ds : List D} {i : Nat} {vs : List V}, RpL K w H md t i ds vs → RpL K w H md t i (ds.take n) (vs.take n)
  | 0, _, _, _, _ => by rw [List.take_zero, List.take_zero]; exact (rfl : ([] : List V) = [])
  | n + 1, [], _, _, h => by
    rw [show _ = _ from h]; exact (rfl : ([] : List V) = [])
  | n + 1, d :: ds, i, _, ⟨v, r, e, h1, h2⟩ => by
    subst e
    exact ⟨v, r.take n, rfl, h1, RpL.take n h2⟩
theorem RpL.drop {K : PySem.W.Frag} {w : Om} {H : Hp} {md : Md} {t : Tag} : ∀ (n : Nat) {ds : List D} {i : Nat} {vs : List V}, RpL K w H md t i ds vs → RpL K w H md t (i + n) (ds.drop n) (vs.drop n)
  | 0, _, _, _, h => h
  | n + 1, [], _, _, h => by
    rw [show _ = _ from h]; exact (rfl : ([] : List V) = [])
  | n + 1, d :: ds, i, _, ⟨v, r, e, h1, h2⟩ => by
    subst e
    rw [show i + (n + 1) = i + 1 + n by omega]
    exact RpL.drop n h2
theorem RpL.cutL {K : PySem.W.Frag} {w : Om} {H : Hp} {t : Tag} {ds : List D} {vs : List V} {i : Nat} {t' : Tag} (lo hi : Option Int) (h : RpL K w H (.own 0) t i ds vs) : RpL K w H (.own 0) t' 0 (cutL ds lo hi) (cutV vs lo hi) := by
  unfold DL.cutL cutV
  rw [h.length]
  exact RpL.retagF (show Md.flat (.own 0) from trivial) (ds := ds) (vs := vs) (RpL.take _ (RpL.drop _ h))
def gSl (c : Cel) (lo hi : Option Int) : Option Cel := match c.2 with
  | .lst ds => if flat0 c.1 ds = true then some (.own 1, .lst (cutL ds lo hi)) else none
  | .str z => if z.length ≤ sizeLine then some (.own 0, .str (cutS z lo hi)) else none
  | .tup ds => if flatT c.1 ds = true then some (.own 0, .tup (cutL ds lo hi)) else none
  | _ => none
def rSlAll (K : PySem.W.Frag) : V → Option Int → Option Int → Hp → VK → Prop := fun x lo hi H Q => rSlL K x lo hi H Q ∨ rSlS x lo hi H Q ∨ rSlA K x lo hi H Q
theorem sl_all : SlR X (rSlAll X.K) := sl_list.or (sl_str.or sl_tupA)
theorem cutL_whole {α : Type} {xs : List α} {lo hi : Option Int} (h : HT.sIx xs.length 0 lo = 0 ∧ HT.sIx xs.length xs.length hi = xs.length) : cutL xs lo hi = xs := by
  unfold cutL; rw [h.1, h.2, List.drop_zero, Nat.sub_zero, List.take_length]
theorem ok_sl {K : PySem.W.Frag} {r : Nat} {w : Om} {H : Hp} {c1 c : Cel} {t1 : Tag} {v1 : V} {lo hi : Option Int} {Q : VK} (hr : 0 < r) (d : Dom w H r) (h1 : Rp K w H c1.1 t1 c1.2 v1) (e : gSl c1 lo hi = some c)
    (k : ∀ w' H' v, Dom w' H' (r + 1) → Stp (fun k => k < r) w H w' H' → Rp K w' H' c.1 [r] c.2 v → Q v H') : rSlAll K v1 lo hi H Q := by
  obtain ⟨m1, d1⟩ := c1
  unfold gSl at e
  split at e
  · rename_i ds e1
    dsimp only at e1 h1
    subst e1
    split at e
    · rename_i hf
      cases e
      obtain ⟨a, vs, ea, nd, ob, r1⟩ := h1
      exact .inl ⟨a, vs, ea, SqL.of ob, newList hr d (t' := [r]) (i := 0) (RpL.cutL lo hi (flat0_ok (t' := [r]) (i' := 0) hf r1)) k⟩
    · cases e
  · rename_i z e1
    dsimp only at e1 h1
    subst e1
    split at e
    · rename_i hz
      cases e
      exact .inr (.inl ⟨z, h1, hz, sameHeap (K := K) (d := .str (cutS z lo hi)) (t := [r]) d rfl k⟩)
    · cases e
  · rename_i ds e1
    dsimp only at e1 h1
    subst e1
    split at e
    · rename_i hf
      cases e
      obtain ⟨a, vs, ea, ob, r1⟩ := h1
      have q := flatT_ok (t' := [r]) (i' := 0) hf r1
      refine .inr (.inr ⟨a, vs, ea, ob.sq, fun hw => ?_, fun hw => newTup hr d (t' := [r]) (i := 0) (RpL.cutL lo hi q) k⟩)
      rw [r1.length] at hw
      rw [cutL_whole hw] at k
      exact sameHeap (K := K) (d := .tup ds) (t := [r]) d ⟨a, vs, rfl, ob, q⟩ k
    · cases e
  · cases e
def dSl (f : Rho → Res Cel) (fl fh : Rho → Res (Option Int)) : Rho → Res Cel := fun ρ => (f ρ).bind fun c ρ1 => (fl ρ1).bind fun lo ρ2 => (fh ρ2).bind fun hi ρ3 => ofO (gSl c lo hi) ρ3
theorem de_slice {T T1 T2 : List Nat} {S : Src} {e : Expr} {lo hi : Option Expr} {f : Rho → Res Cel} {fl fh : Rho → Res (Option Int)} {p2 pos : Pos} (A : DE X W T S e f) (B : DO X W T1 lo fl) (C : DO X W T2 hi fh)
    (hT : ∀ i ∈ T1 ++ T2, i < X.N.length := by exact lt_all rfl) (hS : S.lt X.N.length := by first | exact trivial | exact ltS rfl) (off : S.off (T1 ++ T2) = true := by rfl) :
    DE X W (T ++ (T1 ++ T2)) .tmp (.Subscript e (.Slice lo hi none p2) pos) (dSl f fl fh) := by
  obtain ⟨ta, pa, A⟩ := A.ex
  obtain ⟨tb, pb, B⟩ := B.ex
  obtain ⟨tc, pc, C⟩ := C.ex
  refine ⟨_, pe_slice sl_all pa pb pc, fun r w H σ ρ Q hr s g => A r w H σ ρ _ hr s ?_⟩
  unfold dSl at g
  cases e1 : f ρ with
  | stuck => rw [e1] at g; exact g
  | exc x e' => rw [e1] at g; exact fun w' H' cls da s' xo st => g w' H' cls da s' xo (st.mono fun k h => h.l)
  | ok c ρ1 =>
    rw [e1] at g
    intro w1 H1 v1 t1 s1 o1 h1 st1
    have st1' : Stp (kpE (T ++ (T1 ++ T2)) r) w H w1 H1 := st1.mono fun k h => h.l
    refine B (r + 1) w1 H1 σ ρ1 _ (by omega) s1 ?_
    have g : GoodE X W (T ++ (T1 ++ T2)) .tmp r w H σ Q ((fl ρ1).bind fun lo ρ2 => (fh ρ2).bind fun hi ρ3 => ofO (gSl c lo hi) ρ3) := g
    cases e2 : fl ρ1 with
    | stuck => rw [e2] at g; exact g
    | exc x e' =>
      rw [e2] at g
      intro w' H' cls da s' xo st
      exact excUp hr (Nat.le_succ _) g st1' (fun i hi => List.mem_append_right _ (List.mem_append_left _ hi)) s' xo st
    | ok lo' ρ2 =>
      rw [e2] at g
      intro w2 H2 s2 st2
      have st2' : Stp (kpE (T ++ (T1 ++ T2)) r) w H w2 H2 := st1'.trans (st2.mono fun k h => h.rt.l.up (Nat.le_succ _))
      refine C (r + 1) w2 H2 σ ρ2 _ (by omega) s2 ?_
      have g : GoodE X W (T ++ (T1 ++ T2)) .tmp r w H σ Q ((fh ρ2).bind fun hi ρ3 => ofO (gSl c lo' hi) ρ3) := g
      cases e3 : fh ρ2 with
      | stuck => rw [e3] at g; exact g
      | exc x e' =>
        rw [e3] at g
        intro w' H' cls da s' xo st
        exact excUp hr (Nat.le_succ _) g st2' (fun i hi => List.mem_append_right _ (List.mem_append_right _ hi)) s' xo st
      | ok hi' ρ3 =>
        rw [e3] at g
        intro w3 H3 s3 st3
        have g : GoodE X W (T ++ (T1 ++ T2)) .tmp r w H σ Q (ofO (gSl c lo' hi') ρ3) := g
        obtain ⟨k', p, e, hk⟩ := Src.kept o1 off (Nat.lt_succ_self r) hr (Src.lt_of hS) hT
        subst e
        have h1' := (h1.stp s1.dom st2 (kpE.zero (by omega)) hk.l).stp s2.dom st3 (kpE.zero (by omega)) hk.rt
        cases eg : gSl c lo' hi' with
        | none => rw [eg] at g; exact g.elim
        | some c' =>
          rw [eg] at g
          exact ok_sl (r := r + 1) (by omega) s3.dom h1' eg (opEnd hr (Nat.le_succ _) g s3 (st2'.trans (st3.mono fun k h => h.rt.rt.up (Nat.le_succ _))))
end
end DL

/-! DL part 10: arguments, displays, calls of built-ins, methods that change nothing. -/
namespace DL
open PySem L2
def ArgsOk (K : PySem.W.Frag) (w : Om) (H : Hp) (σ : St) : Nat → List Src → List Cel → List V → Prop
  | _, [], [], [] => True
  | r, S :: Ss, c :: cs, v :: vs => (∃ t, S.ok r σ v t ∧ Rp K w H c.1 t c.2 v) ∧ ArgsOk K w H σ (r + 1) Ss cs vs
  | _, _, _, _ => False
def ArgR (K : PySem.W.Frag) (w : Om) (H : Hp) : List Cel → List V → Prop
  | [], [] => True
  | c :: cs, v :: vs => (∃ t, Rp K w H c.1 t c.2 v) ∧ ArgR K w H cs vs
  | _, _ => False
theorem ArgsOk.argR {K : PySem.W.Frag} {w : Om} {H : Hp} {σ : St} : ∀ {r : Nat} {Ss : List Src} {cs : List Cel} {vs : List V}, ArgsOk K w H σ r Ss cs vs → ArgR K w H cs vs
  | _, [], [], [], _ => trivial
  | _, _ :: _, _ :: _, _ :: _, ⟨⟨t, _, h⟩, q⟩ => ⟨⟨t, h⟩, ArgsOk.argR q⟩
  | _, [], [], _ :: _, h => h.elim
  | _, [], _ :: _, _, h => h.elim
  | _, _ :: _, [], _, h => h.elim
  | _, _ :: _, _ :: _, [], h => h.elim
theorem ArgsOk.len {K : PySem.W.Frag} {w : Om} {H : Hp} {σ : St} : ∀ {r : Nat} {Ss : List Src} {cs : List Cel} {vs : List V}, ArgsOk K w H σ r Ss cs vs → cs.length = Ss.length ∧ vs.length = Ss.length
  | _, [], [], [], _ => ⟨rfl, rfl⟩
  | _, _ :: _, _ :: _, _ :: _, ⟨_, q⟩ => by
    have := ArgsOk.len q
    simp [this.1, this.2]
  | _, [], [], _ :: _, h => h.elim
  | _, [], _ :: _, _, h => h.elim
  | _, _ :: _, [], _, h => h.elim
  | _, _ :: _, _ :: _, [], h => h.elim
def GoodA (X : Cx) (W : WX) (T : List Nat) (Ss : List Src) (r : Nat) (w : Om) (H : Hp) (σ : St) (Q : List V → Hp → Prop) : Res (List Cel) → Prop
  | .stuck => False
  | .ok cs e' => ∀ w' H' vs, Sat X.K X.N.length (r + Ss.length) w' H' σ e' → ArgsOk X.K w' H' σ r Ss cs vs → Stp (kpE T r) w H w' H' → Q vs H'
  | .exc x e' => ∀ w' H' cls da, Sat X.K X.N.length r w' H' σ e' → XOk X w' H' x cls da → Stp (kpE T r) w H w' H' → W cls da σ H'
structure DA (X : Cx) (W : WX) (T : List Nat) (Ss : List Src) (es : List Expr) (f : Rho → Res (List Cel)) : Prop where
  tl : ∀ i ∈ T, i < X.N.length
  ex : ∃ t : TA, PA X es t ∧ ∀ r w H σ ρ Q, X.N.length < r → Sat X.K X.N.length r w H σ ρ → GoodA X W T Ss r w H σ Q (f ρ) → t σ H Q
section
variable {X : Cx} {W : WX}
def dNil : Rho → Res (List Cel) := fun ρ => .ok [] ρ
theorem da_nil : DA X W [] [] [] dNil := ⟨fun _ h => (nomatch h), _, pa_nil, fun r w H σ ρ Q hr s g => g w H [] s trivial Stp.refl⟩
def dCons (f : Rho → Res Cel) (g : Rho → Res (List Cel)) : Rho → Res (List Cel) := fun ρ => (f ρ).bind fun c ρ1 => (g ρ1).bind fun cs ρ2 => .ok (c :: cs) ρ2
theorem da_cons {T1 T2 : List Nat} {S : Src} {Ss : List Src} {e : Expr} {es : List Expr} {f : Rho → Res Cel} {g : Rho → Res (List Cel)} (A : DE X W T1 S e f) (B : DA X W T2 Ss es g) (hs : starEach (e :: es) X.env = (false, eval e X.env) :: starEach es X.env := by rfl)
    (hT : ∀ i ∈ T1, i < X.N.length := by exact lt_all rfl) (hS : S.lt X.N.length := by first | exact trivial | exact ltS rfl) (off : S.off T2 = true := by rfl) : DA X W (T1 ++ T2) (S :: Ss) (e :: es) (dCons f g) := by
  have tl := B.tl
  obtain ⟨ta, pa, A⟩ := A.ex
  obtain ⟨tb, pb, B⟩ := B.ex
  refine ⟨fun i hi => (List.mem_append.mp hi).elim (hT i) (tl i), _, pa_cons pa pb hs, fun r w H σ ρ Q hr s gg => A r w H σ ρ _ hr s ?_⟩
  unfold dCons at gg
  cases e1 : f ρ with
  | stuck => rw [e1] at gg; exact gg
  | exc x e' => rw [e1] at gg; exact fun w' H' cls da s' xo st => gg w' H' cls da s' xo (st.mono fun k h => h.l)
  | ok c ρ1 =>
    rw [e1] at gg
    intro w1 H1 v1 t1 s1 o1 h1 st1
    have st1' : Stp (kpE (T1 ++ T2) r) w H w1 H1 := st1.mono fun k h => h.l
    refine B (r + 1) w1 H1 σ ρ1 _ (by omega) s1 ?_
    have gg : GoodA X W (T1 ++ T2) (S :: Ss) r w H σ Q ((g ρ1).bind fun cs ρ2 => .ok (c :: cs) ρ2) := gg
    cases e2 : g ρ1 with
    | stuck => rw [e2] at gg; exact gg
    | exc x e' =>
      rw [e2] at gg
      intro w' H' cls da s' xo st
      exact excUp hr (Nat.le_succ _) gg st1' (fun i hi => List.mem_append_right _ hi) s' xo st
    | ok cs ρ2 =>
      rw [e2] at gg
      intro w2 H2 vs s2 a2 st2
      obtain ⟨k', p, e, hk⟩ := Src.kept o1 off (Nat.lt_succ_self r) hr (Src.lt_of hS) tl
      subst e
      refine gg w2 H2 (v1 :: vs) (by rw [List.length_cons, show r + (Ss.length + 1) = r + 1 + Ss.length by omega]; exact s2) ⟨⟨_, o1, h1.stp s1.dom st2 (kpE.zero (by omega)) hk⟩, a2⟩ (st1'.trans (st2.mono fun k h => h.rt.up (Nat.le_succ _)))
def dConsL (i : Nat) (g : Rho → Res (List Cel)) : Rho → Res (List Cel) := fun ρ => match ρ[i]? with
  | some (some _) => (g ρ).bind fun cs ρ2 => (match ρ2[i]? with
    | some (some c) => .ok (c :: cs) ρ2
    | _ => .stuck)
  | _ => .stuck
/-- a name whose structure the later arguments change -/
theorem da_late (i : Nat) {T2 : List Nat} {Ss : List Src} {x : Str} {pos : Pos} {es : List Expr} {g : Rho → Res (List Cel)} (B : DA X W T2 Ss es g) (hN : X.N[i]? = some x := by rfl) (hv : Vis X.env.scope x := by first | exact Or.inl rfl | exact Or.inr (Or.inl rfl) | exact Or.inr (Or.inr rfl)) (hd : (x == ("__debug__" : Str)) = false := by decide)
    (hcd : (x == ("__classdict__" : Str)) = false := by decide) (hs : starEach (.Name x pos :: es) X.env = (false, eval (.Name x pos) X.env) :: starEach es X.env := by rfl) : DA X W T2 (.slot i :: Ss) (.Name x pos :: es) (dConsL i g) := by
  have tl := B.tl
  obtain ⟨tb, pb, B⟩ := B.ex
  refine ⟨tl, _, pa_cons (pe_var hN hv hd hcd) pb hs, fun r w H σ ρ Q hr s gg => ?_⟩
  unfold dConsL at gg
  split at gg
  · rename_i c0 e0
    obtain ⟨v, h1, h2⟩ := s.slot i c0 e0
    refine ⟨v, h1, B (r + 1) w H σ ρ _ (by omega) (s.up (Nat.le_succ _)) ?_⟩
    cases e2 : g ρ with
    | stuck => rw [e2] at gg; exact gg
    | exc x e' =>
      rw [e2] at gg
      intro w' H' cls da s' xo st
      exact excUp hr (Nat.le_succ _) gg Stp.refl (fun i hi => hi) s' xo st
    | ok cs ρ2 =>
      rw [e2] at gg
      intro w2 H2 vs s2 a2 st2
      have gg : GoodA X W T2 (.slot i :: Ss) r w H σ Q (match ρ2[i]? with | some (some c) => .ok (c :: cs) ρ2 | _ => .stuck) := gg
      split at gg
      · rename_i c e
        obtain ⟨v', h3, h4⟩ := s2.slot i c e
        rw [h1] at h3
        cases h3
        exact gg w2 H2 (v :: vs) (by rw [List.length_cons, show r + (Ss.length + 1) = r + 1 + Ss.length by omega]; exact s2) ⟨⟨_, ⟨rfl, h1⟩, h4⟩, a2⟩ (st2.mono fun k h => h.up (Nat.le_succ _))
      · exact gg.elim
  · exact gg.elim
/-! ### calls of built-in functions and types -/
def CbOk (K : PySem.W.Frag) (rr : List V → Hp → VK → Prop) (g : List Cel → Option Cel) : Prop :=
  ∀ r w H cs vs c Q, 0 < r → Dom w H r → ArgR K w H cs vs → g cs = some c → (∀ w' H' v, Dom w' H' (r + 1) → Stp (fun k => k < r) w H w' H' → Rp K w' H' c.1 [r] c.2 v → Q v H') → rr vs H Q
def dCb (g : List Cel → Option Cel) (fa : Rho → Res (List Cel)) : Rho → Res Cel := fun ρ => (fa ρ).bind fun cs ρ1 => ofO (g cs) ρ1
theorem cb_core {T : List Nat} {Ss : List Src} {fa : Rho → Res (List Cel)} {rr : List V → Hp → VK → Prop} {g : List Cel → Option Cel} {t : TA} (hg : CbOk X.K rr g)
    (A : ∀ r w H σ ρ Q, X.N.length < r → Sat X.K X.N.length r w H σ ρ → GoodA X W T Ss r w H σ Q (fa ρ) → t σ H Q) {r : Nat} {w : Om} {H : Hp} {σ : St} {ρ : Rho} {Q : VK} (hr : X.N.length < r) (s : Sat X.K X.N.length r w H σ ρ)
    (gg : GoodE X W T .tmp r w H σ Q (dCb g fa ρ)) : t σ H fun vs H1 => rr vs H1 Q := by
  refine A r w H σ ρ _ hr s ?_
  unfold dCb at gg
  cases e1 : fa ρ with
  | stuck => rw [e1] at gg; exact gg
  | exc x e' => rw [e1] at gg; exact gg
  | ok cs ρ1 =>
    rw [e1] at gg
    intro w1 H1 vs s1 a1 st1
    have gg : GoodE X W T .tmp r w H σ Q (ofO (g cs) ρ1) := gg
    cases e2 : g cs with
    | none => rw [e2] at gg; exact gg.elim
    | some c =>
      rw [e2] at gg
      exact hg (r + Ss.length) w1 H1 cs vs c Q (by omega) s1.dom a1.argR e2 (opEnd hr (Nat.le_add_right _ _) gg s1 st1)
theorem de_callB {T : List Nat} {Ss : List Src} {x : Str} {p pos : Pos} {e : Expr} {es : List Expr} {fa : Rho → Res (List Cel)} {id : String} {rr : List V → Hp → VK → Prop} {g : List Cel → Option Cel} (hc : CallR X (.builtin id) rr) (hg : CbOk X.K rr g) (hgl : Gl X x) (hm : X.mg x = none)
    (hv : bootBuiltins x = some (.builtin id)) (A : DA X W T Ss (e :: es) fa) (hn : x ≠ "__name__" := by decide) (hdb : (x == ("__debug__" : Str)) = false := by decide) (he : starEach (e :: es) X.env = (false, eval e X.env) :: starEach es X.env := by rfl) (hpl : (backTo pos (starEach es X.env)).any (·.1) = false := by rfl) :
    DE X W T .tmp (.Call (.Name x p) (e :: es) [] pos) (dCb g fa) := by
  obtain ⟨ta, pa, A⟩ := A.ex
  exact ⟨_, pe_callB hc hgl hm hv pa hn hdb he hpl, fun r w H σ ρ Q hr s gg => cb_core hg A hr s gg⟩
theorem de_callTy {T : List Nat} {Ss : List Src} {x : Str} {p pos : Pos} {e : Expr} {es : List Expr} {fa : Rho → Res (List Cel)} {id : String} {rr : List V → Hp → VK → Prop} {g : List Cel → Option Cel} (hc : CallR X (.type id) rr) (hg : CbOk X.K rr g) (hgl : Gl X x) (hm : X.mg x = none)
    (hv : bootBuiltins x = some (.type id)) (A : DA X W T Ss (e :: es) fa) (hn : x ≠ "__name__" := by decide) (hdb : (x == ("__debug__" : Str)) = false := by decide) (he : starEach (e :: es) X.env = (false, eval e X.env) :: starEach es X.env := by rfl) (hpl : (backTo pos (starEach es X.env)).any (·.1) = false := by rfl) :
    DE X W T .tmp (.Call (.Name x p) (e :: es) [] pos) (dCb g fa) := by
  obtain ⟨ta, pa, A⟩ := A.ex
  exact ⟨_, pe_callTy hc hgl hm hv pa hn hdb he hpl, fun r w H σ ρ Q hr s gg => cb_core hg A hr s gg⟩
end
section
variable {K : PySem.W.Frag}
theorem argR1 {w : Om} {H : Hp} {c : Cel} {vs : List V} (h : ArgR K w H [c] vs) : ∃ v t, vs = [v] ∧ Rp K w H c.1 t c.2 v := by
  match vs, h with
  | [v], ⟨⟨t, h⟩, _⟩ => exact ⟨v, t, rfl, h⟩
theorem argR2 {w : Om} {H : Hp} {c c' : Cel} {vs : List V} (h : ArgR K w H [c, c'] vs) : ∃ v t v' t', vs = [v, v'] ∧ Rp K w H c.1 t c.2 v ∧ Rp K w H c'.1 t' c'.2 v' := by
  match vs, h with
  | [v, v'], ⟨⟨t, h⟩, ⟨t', h'⟩, _⟩ => exact ⟨v, t, v', t', rfl, h, h'⟩
/-- len -/
def gLen : List Cel → Option Cel
  | [c] => match c.2 with
    | .str z => if z.length ≤ sizeLine then some (.own 0, .int z.length) else none
    | .lst ds => some (.own 0, .int ds.length)
    | .tup ds => some (.own 0, .int ds.length)
    | .frz ns => some (.own 0, .int ns.length)
    | _ => none
  | _ => none
theorem ok_len : CbOk K (fun xs H Q => ∃ x n, xs = [x] ∧ LenV K x H n ∧ Q (.int n) H) gLen := by
  intro r w H cs vs c Q hr d a e k
  unfold gLen at e
  split at e
  · rename_i c1
    obtain ⟨v, t, rfl, h⟩ := argR1 a
    obtain ⟨m, d1⟩ := c1
    dsimp only at e h
    split at e
    · rename_i z
      split at e
      · rename_i hz
        cases e; cases (show _ = _ from h)
        exact ⟨_, _, rfl, ⟨hz, rfl⟩, sameHeap (K := K) (d := .int z.length) (t := [r]) d rfl k⟩
      · cases e
    · rename_i ds
      cases e
      obtain ⟨a, us, ea, _, ob, r1⟩ := h
      subst ea
      refine ⟨_, us.length, rfl, .inl ⟨us, SqL.of ob, rfl⟩, ?_⟩
      rw [r1.length]
      exact sameHeap (K := K) (d := .int ds.length) (t := [r]) d rfl k
    · rename_i ds
      cases e
      obtain ⟨a, us, ea, ob, r1⟩ := h
      subst ea
      refine ⟨_, us.length, rfl, .inr ⟨us, ob.sq, rfl⟩, ?_⟩
      rw [r1.length]
      exact sameHeap (K := K) (d := .int ds.length) (t := [r]) d rfl k
    · rename_i ns
      cases e
      obtain ⟨a, ea, ob⟩ := h
      subst ea
      refine ⟨_, _, rfl, .inl ⟨_, ob.sq, rfl⟩, ?_⟩
      rw [List.length_map]
      exact sameHeap (K := K) (d := .int ns.length) (t := [r]) d rfl k
    · cases e
  · cases e
/-- a call of ints with an int -/
def gInt1 (f : Int → D) : List Cel → Option Cel
  | [c] => match c.2 with
    | .int i => some (.own 0, f i)
    | _ => none
  | _ => none
def gAbs := gInt1 fun i => .int (if i < 0 then -i else i)
theorem ok_abs : CbOk K (fun xs H Q => ∃ i, xs = [.int i] ∧ Q (.int (if i < 0 then -i else i)) H) gAbs := by
  intro r w H cs vs c Q hr d a e k
  unfold gAbs gInt1 at e
  split at e
  · rename_i c1
    obtain ⟨v, t, rfl, h⟩ := argR1 a
    obtain ⟨m, d1⟩ := c1
    dsimp only at e h
    split at e
    · rename_i i
      cases e; cases (show _ = _ from h)
      exact ⟨i, rfl, sameHeap (K := K) (d := .int (if i < 0 then -i else i)) (t := [r]) d rfl k⟩
    · cases e
  · cases e
def gIntC : List Cel → Option Cel
  | [c] => match c.2 with
    | .int i => some (.own 0, .int i)
    | .bl b => some (.own 0, .int (if b then 1 else 0))
    | _ => none
  | _ => none
theorem ok_intC : CbOk K (fun xs H Q => (∃ i, xs = [.int i] ∧ Q (.int i) H) ∨ ∃ k, xs = [.bl k] ∧ Q (.int (if k then 1 else 0)) H) gIntC := by
  intro r w H cs vs c Q hr d a e k
  unfold gIntC at e
  split at e
  · rename_i c1
    obtain ⟨v, t, rfl, h⟩ := argR1 a
    obtain ⟨m, d1⟩ := c1
    dsimp only at e h
    split at e
    · rename_i i
      cases e; cases (show _ = _ from h)
      exact .inl ⟨i, rfl, sameHeap (K := K) (d := .int i) (t := [r]) d rfl k⟩
    · rename_i b
      cases e; cases (show _ = _ from h)
      exact .inr ⟨b, rfl, sameHeap (K := K) (d := .int (if b then 1 else 0)) (t := [r]) d rfl k⟩
    · cases e
  · cases e
def gInt2 (f : Int → Int → Int) : List Cel → Option Cel
  | [c, c'] => match c.2, c'.2 with
    | .int i, .int j => some (.own 0, .int (f i j))
    | _, _ => none
  | _ => none
def gMin2 := gInt2 fun i j => if j < i then j else i
def gMax2 := gInt2 fun i j => if j > i then j else i
theorem ok_int2 {f : Int → Int → Int} : CbOk K (fun xs H Q => ∃ i j, xs = [.int i, .int j] ∧ Q (.int (f i j)) H) (gInt2 f) := by
  intro r w H cs vs c Q hr d a e k
  unfold gInt2 at e
  split at e
  · rename_i c1 c2
    obtain ⟨v, t, v', t', rfl, h, h'⟩ := argR2 a
    obtain ⟨m, d1⟩ := c1
    obtain ⟨m2, d2⟩ := c2
    dsimp only at e h h'
    split at e
    · rename_i i j
      cases e; cases (show _ = _ from h); cases (show _ = _ from h')
      exact ⟨i, j, rfl, sameHeap (K := K) (d := .int (f i j)) (t := [r]) d rfl k⟩
    · cases e
  · cases e
theorem ok_min2 : CbOk K (fun xs H Q => ∃ i j, xs = [.int i, .int j] ∧ Q (.int (if j < i then j else i)) H) gMin2 := ok_int2
theorem ok_max2 : CbOk K (fun xs H Q => ∃ i j, xs = [.int i, .int j] ∧ Q (.int (if j > i then j else i)) H) gMax2 := ok_int2
/-- list(x): a new list of the items -/
def gList : List Cel → Option Cel
  | [c] => match c.2 with
    | .lst ds => if flat0 c.1 ds = true then some (.own 1, .lst ds) else none
    | .tup ds => if flatT c.1 ds = true then some (.own 1, .lst ds) else none
    | _ => none
  | _ => none
theorem ok_list : CbOk K (fun xs H Q => ∃ p ys, xs = [.ref p] ∧ (SqL K H p ys ∨ SqT K H p ys) ∧ ∀ l, H l = none → Q (.ref l) (upd H l (.lst ys))) gList := by
  intro r w H cs vs c Q hr d a e k
  unfold gList at e
  split at e
  · rename_i c1
    obtain ⟨v, t, rfl, h⟩ := argR1 a
    obtain ⟨m, d1⟩ := c1
    dsimp only at e h
    split at e
    · rename_i ds
      split at e
      · rename_i hf
        cases e
        obtain ⟨ad, us, ea, _, ob, r1⟩ := h
        subst ea
        exact ⟨ad, us, rfl, .inl (SqL.of ob), newList hr d (flat0_ok (t' := [r]) (i' := 0) hf r1) k⟩
      · cases e
    · rename_i ds
      split at e
      · rename_i hf
        cases e
        obtain ⟨ad, us, ea, ob, r1⟩ := h
        subst ea
        exact ⟨ad, us, rfl, .inr ob.sq, newList hr d (flatT_ok (t' := [r]) (i' := 0) hf r1) k⟩
      · cases e
    · cases e
  · cases e
/-- tuple(x) -/
def gTuple : List Cel → Option Cel
  | [c] => match c.2 with
    | .lst ds => if flat0 c.1 ds = true then some (.own 0, .tup ds) else none
    | .tup ds => if flatT c.1 ds = true then some (.own 0, .tup ds) else none
    | _ => none
  | _ => none
theorem ok_tuple : CbOk K (fun xs H Q => ∃ p ys, xs = [.ref p] ∧ ((SqL K H p ys ∧ ∀ l, H l = none → Q (.ref l) (upd H l (.tup ys))) ∨ (SqT K H p ys ∧ Q (.ref p) H))) gTuple := by
  intro r w H cs vs c Q hr d a e k
  unfold gTuple at e
  split at e
  · rename_i c1
    obtain ⟨v, t, rfl, h⟩ := argR1 a
    obtain ⟨m, d1⟩ := c1
    dsimp only at e h
    split at e
    · rename_i ds
      split at e
      · rename_i hf
        cases e
        obtain ⟨ad, us, ea, _, ob, r1⟩ := h
        subst ea
        exact ⟨ad, us, rfl, .inl ⟨SqL.of ob, newTup hr d (flat0_ok (t' := [r]) (i' := 0) hf r1) k⟩⟩
      · cases e
    · rename_i ds
      split at e
      · rename_i hf
        cases e
        obtain ⟨ad, us, ea, ob, r1⟩ := h
        subst ea
        exact ⟨ad, us, rfl, .inr ⟨ob.sq, sameHeap (K := K) (d := .tup ds) (t := [r]) d ⟨ad, us, rfl, ob, flatT_ok hf r1⟩ k⟩⟩
      · cases e
    · cases e
  · cases e
end
/-! ### isinstance with a built-in class -/
def tyName : D → String
  | .non => "NoneType"
  | .bl _ => "bool"
  | .int _ => "int"
  | .str _ => "str"
  | .tup _ => "tuple"
  | .lst _ => "list"
  | .dK _ => "dict"
  | .dT _ => "dict"
  | _ => ""
def isiB (a b : String) : Bool := a == b || (a == "bool" && b == "int")
theorem isiB_ok : ∀ a ∈ ["NoneType", "bool", "int", "str", "tuple", "list", "dict"], ∀ b ∈ ["bool", "int", "str", "tuple", "list", "dict"], kitB a b = some (isiB a b) := by decide +kernel
def tyKnown (d : D) : Bool := tyName d != ""
theorem tyX_of {K : PySem.W.Frag} {w : Om} {H : Hp} {md : Md} {t : Tag} {d : D} {v : V} (h : Rp K w H md t d v) (n : tyKnown d = true) : TyX K H v (.type (tyName d)) ∧ tyName d ∈ ["NoneType", "bool", "int", "str", "tuple", "list", "dict"] := by
  cases d with
  | non => cases (show _ = _ from h); exact ⟨.base .non, by show _ ∈ ([_, _, _, _, _, _, _] : List String); simp [tyName]⟩
  | bl b => cases (show _ = _ from h); exact ⟨.base (.bl b), by show _ ∈ ([_, _, _, _, _, _, _] : List String); simp [tyName]⟩
  | int b => cases (show _ = _ from h); exact ⟨.base (.int b), by show _ ∈ ([_, _, _, _, _, _, _] : List String); simp [tyName]⟩
  | str b => cases (show _ = _ from h); exact ⟨.base (.str b), by show _ ∈ ([_, _, _, _, _, _, _] : List String); simp [tyName]⟩
  | tup ds =>
    obtain ⟨a, vs, e, ob, _⟩ := h
    subst e
    rcases ob with ob | ⟨_, o, _, _, e1, e2, _⟩
    · exact ⟨.base (.tup ob), by show _ ∈ ([_, _, _, _, _, _, _] : List String); simp [tyName]⟩
    · exact ⟨.kTuple e1 e2, by show _ ∈ ([_, _, _, _, _, _, _] : List String); simp [tyName]⟩
  | lst ds => obtain ⟨a, vs, e, _, ob, _⟩ := h; subst e; exact ⟨.base (.lst ob), by show _ ∈ ([_, _, _, _, _, _, _] : List String); simp [tyName]⟩
  | dK ds => obtain ⟨a, vs, e, _, ob, _⟩ := h; subst e; exact ⟨.base (.dK ob), by show _ ∈ ([_, _, _, _, _, _, _] : List String); simp [tyName]⟩
  | dT ds => obtain ⟨a, vs, e, _, ob, _⟩ := h; subst e; exact ⟨.base (.dT ob), by show _ ∈ ([_, _, _, _, _, _, _] : List String); simp [tyName]⟩
  | ins C fs => exact absurd n (by show ¬ (("" : String) != "") = true; decide)
  | frz ns => exact absurd n (by show ¬ (("" : String) != "") = true; decide)
  | adr ns => exact absurd n (by show ¬ (("" : String) != "") = true; decide)
section
variable {X : Cx} {W : WX}
def dIsi (T : String) (f : Rho → Res Cel) : Rho → Res Bool := fun ρ => (f ρ).bind fun c ρ1 => if tyKnown c.2 = true then .ok (isiB (tyName c.2) T) ρ1 else .stuck
/-- isinstance(e, T) -/
theorem de_isi {T : List Nat} {S : Src} {e : Expr} {f : Rho → Res Cel} {x ty : Str} {tn : String} {p p2 pos : Pos} (hgl : Gl X x) (hm : X.mg x = none) (hx : bootBuiltins x = some (.builtin "isinstance")) (hgt : Gl X ty) (hmt : X.mg ty = none) (hty : bootBuiltins ty = some (.type tn)) (hk : tn ∈ ["bool", "int", "str", "tuple", "list", "dict"])
    (A : DE X W T S e f) (hn : x ≠ "__name__" := by decide) (hdb : (x == ("__debug__" : Str)) = false := by decide) (hn2 : ty ≠ "__name__" := by decide) (hdb2 : (ty == ("__debug__" : Str)) = false := by decide)
    (he : starEach [e, .Name ty p2] X.env = (false, eval e X.env) :: starEach [.Name ty p2] X.env := by rfl) (he2 : starEach [.Name ty p2] X.env = (false, eval (.Name ty p2) X.env) :: starEach [] X.env := by rfl) (hpl : (backTo pos (starEach [.Name ty p2] X.env)).any (·.1) = false := by rfl) :
    DE X W T .tmp (.Call (.Name x p) [e, .Name ty p2] [] pos) (fun ρ => boolR (dIsi tn f ρ)) := by
  obtain ⟨ta, pa, A⟩ := A.ex
  refine ⟨_, pe_callB call_isi hgl hm hx (pa_cons pa (pa_cons (pe_bltn hgt hmt hty (v := .ty tn) rfl hn2 hdb2) pa_nil he2) he) hn hdb he hpl, fun r w H σ ρ Q hr s g => A r w H σ ρ _ hr s ?_⟩
  unfold dIsi boolR at g
  cases e1 : f ρ with
  | stuck => rw [e1] at g; exact g
  | exc x e' => rw [e1] at g; exact g
  | ok c ρ1 =>
    rw [e1] at g
    intro w' H' v t s' o h st
    have g : GoodE X W T .tmp r w H σ Q ((if tyKnown c.2 = true then Res.ok (isiB (tyName c.2) tn) ρ1 else .stuck).bind fun b ρ => .ok (.own 0, .bl b) ρ) := g
    by_cases hq : tyKnown c.2 = true
    · rw [if_pos hq] at g
      obtain ⟨z, zm⟩ := tyX_of h hq
      exact ⟨v, .ty tn, .type (tyName c.2), .type tn, isiB (tyName c.2) tn, rfl, .ty tn, z, kit_ty (isiB_ok _ zm _ hk), g (cutO w' r) H' _ [r] ((s'.cut hr).up (Nat.le_succ _)) rfl rfl (st.trans (Stp.cut fun k h => h.1))⟩
    · rw [if_neg hq] at g; exact g.elim
end
end DL

/-! DL part 11: displays, methods. -/
namespace DL
open PySem L2
def Src.isTmp : Src → Bool
  | .tmp => true
  | _ => false
/-- the mode of a display of these cells: those with lists are all held alike -/
def dispMd (cs : List Cel) : Option Md := match cs.filter (fun c => !imm c.2) with
  | [] => some .all
  | c :: r => if r.all (fun c' => decide (c'.1 = c.1)) = true then some c.1 else none
theorem dispMd_ok {cs : List Cel} {m : Md} (h : dispMd cs = some m) : ∀ c ∈ cs, imm c.2 = true ∨ c.1 = m := fun c hc => by
  unfold dispMd at h
  by_cases hi : imm c.2 = true
  · exact .inl hi
  · have hm : c ∈ cs.filter (fun c => !imm c.2) := List.mem_filter.mpr ⟨hc, by simpa using hi⟩
    split at h
    · rename_i e; rw [e] at hm; cases hm
    · rename_i c0 r e
      rw [e] at hm
      split at h
      · rename_i ha
        cases h
        rcases List.mem_cons.mp hm with q | q
        · exact .inr (by rw [q])
        · exact .inr (of_decide_eq_true (List.all_eq_true.mp ha c q))
      · cases h
def dispF (r n : Nat) : Tag → Option Tag
  | [] => none
  | k :: p => if k < r then some (k :: p) else if k < r + n then some (r :: (k - r) :: p) else none
section
variable {K : PySem.W.Frag} {w : Om} {H : Hp} {r n : Nat} {σ : St}
theorem dispF_lt {k : Nat} {p : Tag} (h : k < r) : dispF r n (k :: p) = some (k :: p) := if_pos h
theorem dispF_mid {k : Nat} {p : Tag} (h : r ≤ k) (h2 : k < r + n) : dispF r n (k :: p) = some (r :: (k - r) :: p) := by
  show (if k < r then _ else if k < r + n then _ else _) = _
  rw [if_neg (by omega), if_pos h2]
theorem dispF_cases {t t' : Tag} (e : dispF r n t = some t') : (∃ k p, t = k :: p ∧ k < r ∧ t' = t) ∨ ∃ k p, t = k :: p ∧ r ≤ k ∧ t' = r :: (k - r) :: p := by
  cases t with
  | nil => cases e
  | cons k p =>
    have e : (if k < r then some (k :: p) else if k < r + n then some (r :: (k - r) :: p) else none) = some t' := e
    by_cases z : k < r
    · rw [if_pos z] at e; cases e; exact .inl ⟨k, p, rfl, z, rfl⟩
    · rw [if_neg z] at e
      by_cases y : k < r + n
      · rw [if_pos y] at e; cases e; exact .inr ⟨k, p, rfl, by omega, rfl⟩
      · rw [if_neg y] at e; cases e
theorem disp_rp (hr : 0 < r) {m : Md} : ∀ {Ss : List Src} {cs : List Cel} {vs : List V} {j : Nat}, Ss.all Src.isTmp = true → (∀ c ∈ cs, imm c.2 = true ∨ c.1 = m) → j + cs.length ≤ n → ArgsOk K w H σ (r + j) Ss cs vs → RpL K (bindO w (dispF r n)) H m [r] j (cs.map (·.2)) vs
  | [], [], [], _, _, _, _, _ => (rfl : ([] : List V) = [])
  | S :: Ss, c :: cs, v :: vs, j, hs, hm, hn, ⟨⟨t, ot, h⟩, q⟩ => by
    have hs : (S.isTmp && Ss.all Src.isTmp) = true := hs
    rw [Bool.and_eq_true] at hs
    have hn' : j + (cs.length + 1) ≤ n := hn
    refine ⟨v, vs, rfl, ?_, disp_rp hr hs.2 (fun c hc => hm c (List.mem_cons_of_mem _ hc)) (by omega) (by rw [show r + (j + 1) = r + j + 1 by omega]; exact q)⟩
    have et : t = [r + j] := by
      cases S with
      | tmp => exact ot
      | slot i => exact absurd hs.1 Bool.false_ne_true
      | path i => exact absurd hs.1 Bool.false_ne_true
    subst et
    rcases hm c List.mem_cons_self with z | z
    · exact Rp.imm ⟨fun _ _ x => x, fun _ _ _ x => x⟩ _ z h
    · rw [z] at h
      refine Rp.move (fun p => .inr ⟨p, dispF_lt hr⟩) (fun p => ?_) h
      show dispF r n ((r + j) :: p) = some (r :: j :: p)
      rw [dispF_mid (Nat.le_add_right _ _) (by omega), show r + j - r = j by omega]
  | [], [], _ :: _, _, _, _, _, h => h.elim
  | [], _ :: _, _, _, _, _, _, h => h.elim
  | _ :: _, [], _, _, _, _, _, h => h.elim
  | _ :: _, _ :: _, [], _, _, _, _, h => h.elim
theorem disp_stp : Stp (fun k => k < r) w H (bindO w (dispF r n)) H := Stp.bindO (fun k p hk => dispF_lt hk) fun t k p hk e => by
  rcases dispF_cases e with ⟨k', p', e1, _, e2⟩ | ⟨k', p', e1, l, e2⟩
  · exact e2.symm
  · cases e2; exact absurd hk (Nat.lt_irrefl _)
theorem disp_dom {r' : Nat} (d : Dom w H r') : Dom (bindO w (dispF r n)) H (r + 1) := fun a t e => by
  cases q : w a with
  | none => rw [bindO_none q] at e; cases e
  | some t' =>
    rw [bindO_some q] at e
    obtain ⟨m, k, p, rfl, l⟩ := d a t' q
    refine ⟨m, ?_⟩
    rcases dispF_cases e with ⟨k', p', e1, l', e2⟩ | ⟨k', p', e1, l', e2⟩
    · exact ⟨k', p', by rw [e2, e1], by omega⟩
    · exact ⟨r, _, e2, Nat.lt_succ_self _⟩
end
/-- a new object changes no structure that stands -/
theorem Mp.alloc {K : PySem.W.Frag} {w : Om} {H : Hp} {p : Addr} {o : HO} {tn : Option Tag} (hp : H p = none) : Mp K w H (setO w p tn) (upd H p o) (fun md t md' t' => md' = md ∧ t' = t) where
  tup := fun a xs h => by
    rcases h with h | h
    · exact .inl (by rw [upd_ne (ne_of_none h hp)]; exact h)
    · exact .inr h
  fz := fun a o u h => by rw [upd_ne (ne_of_none h hp)]; exact h
  ix := fun {md t md' t'} i h => by obtain ⟨rfl, rfl⟩ := h; exact ⟨rfl, rfl⟩
  sub := fun {md t md' t'} h => by obtain ⟨rfl, rfl⟩ := h; exact ⟨rfl, rfl⟩
  nd := fun {md t md' t'} a o h m n ob => by
    obtain ⟨rfl, rfl⟩ := h
    have na := ne_of_none ob hp
    refine ⟨?_, (upd_ne na).trans ob⟩
    have e : setO w p tn a = w a := setO_ne na
    cases md' with
    | lent => show (_ = none ∨ ∃ p, _ = some (0 :: p)); rw [e]; exact n
    | all => show _ = some t'; rw [e]; exact n
    | own k => cases k with
      | zero => show _ = none; rw [e]; exact n
      | succ k => show _ = some t'; rw [e]; exact n
section
variable {X : Cx} {W : WX}
def dTup (fa : Rho → Res (List Cel)) : Rho → Res Cel := fun ρ => (fa ρ).bind fun cs ρ1 => match dispMd cs with
  | some m => if cs.length ≤ 1000 then .ok (m, .tup (cs.map (·.2))) ρ1 else .stuck
  | none => .stuck
theorem de_tup {T : List Nat} {Ss : List Src} {es : List Expr} {fa : Rho → Res (List Cel)} {x1 : Nat} {pos : Pos} (A : DA X W T Ss es fa) (hs : Ss.all Src.isTmp = true := by rfl) : DE X W T .tmp (.Tuple es x1 pos) (dTup fa) := by
  obtain ⟨ta, pa, A⟩ := A.ex
  refine ⟨_, pe_tup pa, fun r w H σ ρ Q hr s g => A r w H σ ρ _ hr s ?_⟩
  unfold dTup at g
  cases e1 : fa ρ with
  | stuck => rw [e1] at g; exact g
  | exc x e' => rw [e1] at g; exact g
  | ok cs ρ1 =>
    rw [e1] at g
    intro w1 H1 vs s1 a1 st1
    have g : GoodE X W T .tmp r w H σ Q (match dispMd cs with | some m => if cs.length ≤ 1000 then .ok (m, .tup (cs.map (·.2))) ρ1 else .stuck | none => .stuck) := g
    cases e2 : dispMd cs with
    | none => rw [e2] at g; exact g.elim
    | some m =>
      rw [e2] at g
      have g : GoodE X W T .tmp r w H σ Q (if cs.length ≤ 1000 then .ok (m, .tup (cs.map (·.2))) ρ1 else .stuck) := g
      by_cases hl : cs.length ≤ 1000
      · rw [if_pos hl] at g
        have ll := a1.len
        refine ⟨Nat.le_of_lt (small1000 (by omega)), fun p hp => ?_⟩
        have rp := disp_rp (n := cs.length) (j := 0) (K := X.K) (by omega) hs (dispMd_ok e2) (by omega) a1
        have st2 : Stp (fun k => k < r) w1 H1 (bindO w1 (dispF r cs.length)) H1 := disp_stp
        have d2 : Dom (bindO w1 (dispF r cs.length)) H1 (r + 1) := disp_dom s1.dom
        have hw : bindO w1 (dispF r cs.length) p = none := d2.fresh hp
        have st3 : Stp (fun k => k < r + 1) (bindO w1 (dispF r cs.length)) H1 (setO (bindO w1 (dispF r cs.length)) p none) (upd H1 p (.tup vs)) := Stp.new hp fun k p' e => by cases e
        have d3 := d2.new (o := .tup vs) hp (t := none) fun t' e => by cases e
        have st23 := st2.trans (st3.mono fun k h => Nat.lt_succ_of_lt h)
        refine g _ _ (.ref p) [r] (s1.stp st23 (fun k hk => by omega) d3) rfl ⟨p, vs, rfl, .inl upd_same, ?_⟩ (st1.trans (st23.mono fun k h => h.1))
        exact RpL.stp rp d2 st3 (by omega) (Nat.lt_succ_self r)
      · rw [if_neg hl] at g; exact g.elim
/-- a list of written items -/
def dLst (fa : Rho → Res (List Cel)) : Rho → Res Cel := fun ρ => (fa ρ).bind fun cs ρ1 => match dispMd cs with
  | some .all => if cs.length ≤ 1000 then .ok (.all, .lst (cs.map (·.2))) ρ1 else .stuck
  | some (.own n) => if cs.length ≤ 1000 then .ok (.own (n + 1), .lst (cs.map (·.2))) ρ1 else .stuck
  | _ => .stuck
theorem de_lst {T : List Nat} {Ss : List Src} {es : List Expr} {fa : Rho → Res (List Cel)} {pos : Pos} (A : DA X W T Ss es fa) (hs : Ss.all Src.isTmp = true := by rfl) : DE X W T .tmp (.List es pos) (dLst fa) := by
  obtain ⟨ta, pa, A⟩ := A.ex
  refine ⟨_, pe_lst pa, fun r w H σ ρ Q hr s g => A r w H σ ρ _ hr s ?_⟩
  unfold dLst at g
  cases e1 : fa ρ with
  | stuck => rw [e1] at g; exact g
  | exc x e' => rw [e1] at g; exact g
  | ok cs ρ1 =>
    rw [e1] at g
    intro w1 H1 vs s1 a1 st1
    have go : ∀ m m' : Md, dispMd cs = some m → m'.sub = m → (∀ (w : Om) (t : Tag) (a : Addr), w a = some t → Nd w m' t a) → cs.length ≤ 1000 → GoodE X W T .tmp r w H σ Q (.ok (m', .lst (cs.map (·.2))) ρ1) → vs.length ≤ sizeLine ∧ ∀ p, H1 p = none → Q (.ref p) (upd H1 p (.lst vs)) := by
      intro m m' e2 hm hnd hl g
      have ll := a1.len
      refine ⟨Nat.le_of_lt (small1000 (by omega)), fun p hp => ?_⟩
      have rp := disp_rp (n := cs.length) (j := 0) (K := X.K) (by omega) hs (dispMd_ok e2) (by omega) a1
      have st2 : Stp (fun k => k < r) w1 H1 (bindO w1 (dispF r cs.length)) H1 := disp_stp
      have d2 : Dom (bindO w1 (dispF r cs.length)) H1 (r + 1) := disp_dom s1.dom
      have st3 : Stp (fun k => k < r) (bindO w1 (dispF r cs.length)) H1 (setO (bindO w1 (dispF r cs.length)) p (some [r])) (upd H1 p (.lst vs)) := Stp.new hp fun k p' e => by
        cases e; exact Nat.lt_irrefl _
      have d3 := d2.new (o := .lst vs) hp (t := some [r]) fun t' e => by
        cases e; exact ⟨trivial, r, [], rfl, Nat.lt_succ_self _⟩
      have st23 := st2.trans st3
      refine g _ _ (.ref p) [r] (s1.stp st23 (fun k hk => by omega) d3) rfl ⟨p, vs, rfl, hnd _ _ _ setO_same, upd_same, ?_⟩ (st1.trans (st23.mono fun k h => h.1))
      rw [hm]
      exact RpL.map (Mp.alloc hp) _ ⟨rfl, rfl⟩ rp
    have g : GoodE X W T .tmp r w H σ Q (match dispMd cs with | some .all => if cs.length ≤ 1000 then .ok (.all, .lst (cs.map (·.2))) ρ1 else .stuck | some (.own n) => if cs.length ≤ 1000 then .ok (.own (n + 1), .lst (cs.map (·.2))) ρ1 else .stuck | _ => .stuck) := g
    cases e2 : dispMd cs with
    | none => rw [e2] at g; exact g.elim
    | some m =>
      rw [e2] at g
      cases m with
      | lent => exact g.elim
      | all =>
        have g : GoodE X W T .tmp r w H σ Q (if cs.length ≤ 1000 then .ok (.all, .lst (cs.map (·.2))) ρ1 else .stuck) := g
        by_cases hl : cs.length ≤ 1000
        · rw [if_pos hl] at g
          exact go .all .all e2 rfl (fun _ _ _ h => h) hl g
        · rw [if_neg hl] at g; exact g.elim
      | own n =>
        have g : GoodE X W T .tmp r w H σ Q (if cs.length ≤ 1000 then .ok (.own (n + 1), .lst (cs.map (·.2))) ρ1 else .stuck) := g
        by_cases hl : cs.length ≤ 1000
        · rw [if_pos hl] at g
          exact go (.own n) (.own (n + 1)) e2 rfl (fun _ _ _ h => h) hl g
        · rw [if_neg hl] at g; exact g.elim
end
end DL

/-! DL part 12: lists changed at their places. -/
namespace DL
open PySem L2
section
variable {K : PySem.W.Frag} {N r : Nat} {w : Om} {H : Hp} {σ : St} {ρ : Rho}
/-- what stands in slot i at p becomes d, held as md (m: as it was held) -/
def putAt (i : Nat) (p : Tag) (m md : Md) (d : D) (ρ1 ρ2 : Rho) : Option Rho := match ρ1[i]? with
  | some (some c0) => match p with
    | [] => some (ρ2.set i (some (md, d)))
    | _ :: _ => if md = m then some (ρ2.set i (some (c0.1, setAt p c0.2 d))) else none
  | _ => none
theorem slot_tag {i : Nat} {p q : Tag} : (i + 1) :: p ≠ 0 :: q := fun e => by cases e
theorem write_core {i : Nat} {p : Tag} {b : Addr} {o : HO} {c0 : Cel} {v0 : V} {m md : Md} {d d' : D} {ρ' : Rho} {T : List Nat} (s : Sat K N r w H σ ρ) (hN : N < r) (hi : i < N) (hT : i ∈ T) (hv : σ[i]? = some (some v0)) (ra : RA K w H p c0.1 [i + 1] c0.2 v0 m d (.ref b)) (hb : w b = some ((i + 1) :: p)) (mo : Mut (some o))
    (hn : Rp K w (upd H b o) md ((i + 1) :: p) d' (.ref b)) {ρ1 : Rho} (e1 : ρ1[i]? = some (some c0)) (ep : putAt i p m md d' ρ1 ρ = some ρ') : Sat K N r w (upd H b o) σ ρ' ∧ Stp (kpE T r) w H w (upd H b o) := by
  have st : Stp (kpE T r) w H w (upd H b o) := Stp.write hb fun h => h.2 i hT rfl
  refine ⟨?_, st⟩
  have hw : ∀ x : Option Cel, (∀ c, x = some c → ∃ v, σ[i]? = some (some v) ∧ Rp K w (upd H b o) c.1 [i + 1] c.2 v) → Sat K N r w (upd H b o) σ (ρ.set i x) := fun x hx =>
    ⟨s.ls, by rw [List.length_set]; exact s.lr, s.dom.write mo, fun j c e => by
      by_cases hj : i = j
      · subst hj
        rw [List.getElem?_set_self (by rw [s.lr]; exact hi)] at e
        exact hx c (Option.some.inj e)
      · rw [List.getElem?_set_ne hj] at e
        obtain ⟨v, h1, h2⟩ := s.slot j c e
        refine ⟨v, h1, h2.write s.dom hb (fun _ => slot_tag) fun q z => hj ?_⟩
        cases z; rfl⟩
  unfold putAt at ep
  rw [e1] at ep
  cases p with
  | nil =>
    have ep : some (ρ.set i (some (md, d'))) = some ρ' := ep
    cases ep
    obtain ⟨_, _, e3, _⟩ := ra
    exact hw _ fun c e => by cases e; exact ⟨v0, hv, by rw [← e3]; exact hn⟩
  | cons j p =>
    have ep : (if md = m then some (ρ.set i (some (c0.1, setAt (j :: p) c0.2 d'))) else none) = some ρ' := ep
    by_cases z : md = m
    · rw [if_pos z] at ep
      cases ep
      subst z
      exact hw _ fun c e => by
        cases e
        exact ⟨v0, hv, RA.set s.dom hb (fun _ => slot_tag) (j :: p) rfl ra hn⟩
    · rw [if_neg z] at ep; cases ep
/-- held so that it may be written -/
def Md.mut : Md → Bool
  | .all => true
  | .own (_ + 1) => true
  | _ => false
theorem Nd.mut {md : Md} {t : Tag} {a : Addr} (h : md.mut = true) (n : Nd w md t a) : w a = some t := by
  cases md with
  | lent => cases h
  | all => exact n
  | own k => cases k with
    | zero => cases h
    | succ k => exact n
theorem Nd.of_mut {md : Md} {t : Tag} {a : Addr} (h : md.mut = true) (n : w a = some t) : Nd w md t a := by
  cases md with
  | lent => cases h
  | all => exact n
  | own k => cases k with
    | zero => cases h
    | succ k => exact n
theorem not_imm_lst {ds : List D} : ¬ imm (.lst ds) = true := by simp [imm]
end
/-- how a list is held that gets one more item: c is the item -/
def appMd (md : Md) (ds : List D) (c : Cel) : Option Md := if md.mut = true then (if imm c.2 = true then some md else match md, c.1 with
    | .all, .all => some .all
    | .own 1, .own 0 => some (.own 1)
    | .all, .own 0 => if immL ds = true then some (.own 1) else none
    | _, _ => none) else none
theorem appMd_cases {md md' : Md} {ds : List D} {c : Cel} (h : appMd md ds c = some md') : md.mut = true ∧ ((imm c.2 = true ∧ md' = md) ∨ (md' = .all ∧ md = .all ∧ c.1 = .all) ∨ (md' = .own 1 ∧ md = .own 1 ∧ c.1 = .own 0) ∨ (md' = .own 1 ∧ md = .all ∧ c.1 = .own 0 ∧ immL ds = true)) := by
  obtain ⟨cm, cd⟩ := c
  unfold appMd at h
  by_cases hm : md.mut = true
  · refine ⟨hm, ?_⟩
    rw [if_pos hm] at h
    dsimp only at h ⊢
    by_cases hc : imm cd = true
    · rw [if_pos hc] at h
      exact .inl ⟨hc, (Option.some.inj h).symm⟩
    · rw [if_neg hc] at h
      refine .inr ?_
      split at h
      · cases h; exact .inl ⟨rfl, rfl, rfl⟩
      · cases h; exact .inr (.inl ⟨rfl, rfl, rfl⟩)
      · by_cases hl : immL ds = true
        · rw [if_pos hl] at h; cases h; exact .inr (.inr ⟨rfl, rfl, rfl, hl⟩)
        · rw [if_neg hl] at h; cases h
      · cases h
  · rw [if_neg hm] at h; cases h
/-- the item moves to its place in the list -/
def moveF (r : Nat) (t : Tag) : Tag → Option Tag
  | [] => none
  | k :: p => if k < r then some (k :: p) else if k = r then some (t ++ p) else none
section
variable {K : PySem.W.Frag} {N r : Nat} {w : Om} {H : Hp} {σ : St} {ρ : Rho}
theorem moveF_lt {t : Tag} {k : Nat} {p : Tag} (h : k < r) : moveF r t (k :: p) = some (k :: p) := if_pos h
theorem moveF_eq {t p : Tag} : moveF r t (r :: p) = some (t ++ p) := by
  show (if r < r then _ else if r = r then _ else _) = _
  rw [if_neg (Nat.lt_irrefl _), if_pos rfl]
theorem moveF_cases {t t1 t2 : Tag} (e : moveF r t t1 = some t2) : (∃ k p, t1 = k :: p ∧ k < r ∧ t2 = t1) ∨ ∃ p, t1 = r :: p ∧ t2 = t ++ p := by
  cases t1 with
  | nil => cases e
  | cons k p =>
    have e : (if k < r then some (k :: p) else if k = r then some (t ++ p) else none) = some t2 := e
    by_cases z : k < r
    · rw [if_pos z] at e; cases e; exact .inl ⟨k, p, rfl, z, rfl⟩
    · rw [if_neg z] at e
      by_cases y : k = r
      · rw [if_pos y] at e; cases e; subst y; exact .inr ⟨p, rfl, rfl⟩
      · rw [if_neg y] at e; cases e
/-- the move as a step: all roots below r but i + 1 are kept -/
theorem moveF_stp {i : Nat} {q : Tag} {T : List Nat} (hT : i ∈ T) : Stp (kpE T r) w H (bindO w (moveF r ((i + 1) :: q))) H := Stp.bindO (fun k p hk => moveF_lt hk.1) fun t k p hk e => by
  rcases moveF_cases e with ⟨k', p', e1, _, e2⟩ | ⟨p', e1, e2⟩
  · exact e2.symm
  · cases e2; exact (hk.2 i hT rfl).elim
theorem moveF_dom {i : Nat} {q : Tag} {r' : Nat} (d : Dom w H r') (hi : i + 1 < r) : Dom (bindO w (moveF r ((i + 1) :: q))) H r := fun a t e => by
  cases z : w a with
  | none => rw [bindO_none z] at e; cases e
  | some t' =>
    rw [bindO_some z] at e
    obtain ⟨m, k, p, rfl, l⟩ := d a t' z
    refine ⟨m, ?_⟩
    rcases moveF_cases e with ⟨k', p', e1, l', e2⟩ | ⟨p', e1, e2⟩
    · exact ⟨k', p', by rw [e2, e1], l'⟩
    · exact ⟨i + 1, _, e2, hi⟩
/-- a structure of the slots under the move -/
theorem moveF_rp {i : Nat} {q : Tag} {d : D} {md : Md} {k : Nat} {p : Tag} {v : V} (h0 : 0 < r) (hk : k < r) (h : Rp K w H md (k :: p) d v) : Rp K (bindO w (moveF r ((i + 1) :: q))) H md (k :: p) d v :=
  Rp.move (fun p => .inr ⟨p, moveF_lt h0⟩) (fun p' => moveF_lt hk) h
theorem moveF_mp {i : Nat} {q : Tag} (h0 : 0 < r) : Mp K w H (bindO w (moveF r ((i + 1) :: q))) H (fun md t md' t' => md' = md ∧ t' = t ∧ ∃ k p, t = k :: p ∧ k < r) := by
  have M := Mp.move (K := K) (w := w) (H := H) (f := moveF r ((i + 1) :: q)) (fun p => .inr ⟨p, moveF_lt h0⟩)
  exact ⟨M.tup, M.fz, fun {md t md' t'} i h => by
    obtain ⟨rfl, rfl, k, p, rfl, hk⟩ := h
    exact ⟨rfl, rfl, k, p ++ [i], rfl, hk⟩, fun {md t md' t'} h => by
    obtain ⟨rfl, rfl, h⟩ := h
    exact ⟨rfl, rfl, h⟩, fun {md t md' t'} a o h m n ob => by
    obtain ⟨rfl, rfl, k, p, rfl, hk⟩ := h
    exact M.nd a o ⟨rfl, fun p' => moveF_lt hk⟩ m n ob⟩
theorem moveF_sat {i : Nat} {q : Tag} {r' : Nat} (s : Sat K N r' w H σ ρ) (hN : N < r) (hi : i < N) : Sat K N r (bindO w (moveF r ((i + 1) :: q))) H σ ρ :=
  ⟨s.ls, s.lr, moveF_dom s.dom (by omega), fun j c e => by
    obtain ⟨v, h1, h2⟩ := s.slot j c e
    have := s.lt e
    exact ⟨v, h1, moveF_rp (by omega) (by omega) h2⟩⟩
end
section
variable {X : Cx} {W : WX}
def appRes (i : Nat) (m : Md) (ds : List D) (p : Tag) (ρ1 : Rho) (c : Cel) (ρ2 : Rho) : Res Cel := match appMd m ds c with
  | some md => if ds.length < sizeLine then (match putAt i p m md (.lst (ds ++ [c.2])) ρ1 ρ2 with
    | some ρ3 => .ok (.own 0, .non) ρ3
    | none => .stuck) else .stuck
  | none => .stuck
def appGo (i : Nat) (fe : Rho → Res Cel) (cp : Cel × Tag) (ρ1 : Rho) : Res Cel := match cp.1.2 with
  | .lst ds => (fe ρ1).bind (appRes i cp.1.1 ds cp.2 ρ1)
  | _ => .stuck
def dApp (i : Nat) (fP : Rho → Res (Cel × Tag)) (fe : Rho → Res Cel) : Rho → Res Cel := fun ρ => (fP ρ).bind (appGo i fe)
/-- P.append(e) -/
theorem de_append {T1 T2 : List Nat} {i : Nat} {o e : Expr} {fP : Rho → Res (Cel × Tag)} {fe : Rho → Res Cel} {apos cpos : Pos} (A : DP X W T1 i o fP) (B : DE X W T2 .tmp e fe) (off : T2.contains i = false := by rfl)
    (hbase : attributeBase o "append" X.env (eval o X.env) = eval o X.env := by rfl)
    (hfew : ((backTo cpos (starEach [e] X.env)).all (fun x => !x.1) && (backToKw cpos (keywordEach [] X.env)).all (fun x => x.1.isSome)
      && decide ([e].length + ([] : List Keyword).length + (if ([] : List Keyword).isEmpty then 0 else 1) < 30)) = true := by rfl)
    (hline : (apos.endLine == cpos.line) = true := by rfl) (hs : starEach [e] X.env = (false, eval e X.env) :: starEach [] X.env := by rfl) (hplain : (backTo cpos (starEach [] X.env)).any (·.1) = false := by rfl) :
    DE X W (T1 ++ (T2 ++ [i])) .tmp (.Call (.Attribute o "append" apos) [e] [] cpos) (dApp i fP fe) := by
  have hi := A.lt
  obtain ⟨ta, pa, A⟩ := A.ex
  obtain ⟨tb, pb, B⟩ := B.ex
  refine ⟨_, pe_bm PySem.F.plainAttrs_list PySem.F.slot_list_append PySem.F.type_list_append mt_append pa (pa_cons pb pa_nil hs) hbase hfew hline hs hplain, fun r w H σ ρ Q hr s g => A r w H σ ρ _ hr s ?_⟩
  unfold dApp at g
  have mi : i ∈ T1 ++ (T2 ++ [i]) := List.mem_append_right _ (List.mem_append_right _ List.mem_cons_self)
  cases e1 : fP ρ with
  | stuck => rw [e1] at g; exact g
  | exc x e' => rw [e1] at g; exact fun w' H' cls da s' xo st => g w' H' cls da s' xo (st.mono fun k h => h.l)
  | ok cp ρ1 =>
    obtain ⟨⟨m, d⟩, p⟩ := cp
    rw [e1] at g
    intro w1 H1 v1 s1 p1 st1
    have st1' : Stp (kpE (T1 ++ (T2 ++ [i])) r) w H w1 H1 := st1.mono fun k h => h.l
    have g : GoodE X W (T1 ++ (T2 ++ [i])) .tmp r w H σ Q (appGo i fe ((m, d), p) ρ1) := g
    cases d with
    | lst ds =>
      have g : GoodE X W (T1 ++ (T2 ++ [i])) .tmp r w H σ Q ((fe ρ1).bind (appRes i m ds p ρ1)) := g
      have t0 : tyV X.K "list" v1 H1 := by
        obtain ⟨q, h⟩ := p1.rp
        obtain ⟨a, vs, ea, _, ob, _⟩ := h
        subst ea
        exact .inl ⟨rfl, vs, SqL.of ob⟩
      refine ⟨t0, B r w1 H1 σ ρ1 _ hr s1 ?_⟩
      cases e2 : fe ρ1 with
      | stuck => rw [e2] at g; exact g
      | exc x e' => rw [e2] at g; exact fun w' H' cls da s' xo st => g w' H' cls da s' xo (st1'.trans (st.mono fun k h => h.rt.l))
      | ok c ρ2 =>
        rw [e2] at g
        intro w2 H2 v2 t2 s2 o2 h2 st2
        have o2 : t2 = [r] := o2
        subst o2
        have hk : kpE T2 r (i + 1) := ⟨by omega, fun j hj z => by
          have : j = i := by omega
          subst this
          have : T2.contains j = true := by simp [hj]
          rw [off] at this; cases this⟩
        have g : GoodE X W (T1 ++ (T2 ++ [i])) .tmp r w H σ Q (appRes i m ds p ρ1 c ρ2) := g
        unfold appRes at g
        cases e3 : appMd m ds c with
        | none => rw [e3] at g; exact g.elim
        | some md =>
          rw [e3] at g
          have g : GoodE X W (T1 ++ (T2 ++ [i])) .tmp r w H σ Q (if ds.length < sizeLine then (match putAt i p m md (.lst (ds ++ [c.2])) ρ1 ρ2 with
            | some ρ3 => .ok (.own 0, .non) ρ3
            | none => .stuck) else .stuck) := g
          by_cases hz : ds.length < sizeLine
          · rw [if_pos hz] at g
            cases e4 : putAt i p m md (.lst (ds ++ [c.2])) ρ1 ρ2 with
            | none => rw [e4] at g; exact g.elim
            | some ρ3 =>
              rw [e4] at g
              rcases p1 with ⟨c0, v0, ec, ev, ra⟩ | ⟨z, _⟩
              · have ra2 := RA.map (st2.mp s1.dom (kpE.zero (by omega))) p ⟨rfl, rfl, i + 1, [], rfl, hk⟩ ra
                -- the move of the item
                have hmm : m.mut = true := (appMd_cases e3).1
                let q : Tag := p ++ [ds.length]
                let w3 := bindO w2 (moveF r ((i + 1) :: q))
                have s3 : Sat X.K X.N.length r w3 H2 σ ρ2 := moveF_sat s2 hr hi
                have st3 : Stp (kpE (T1 ++ (T2 ++ [i])) r) w2 H2 w3 H2 := moveF_stp mi
                have ra3 := RA.map (moveF_mp (i := i) (q := q) (r := r) (by omega)) p ⟨rfl, rfl, i + 1, [], rfl, by omega⟩ ra2
                have h3 : (imm c.2 = true → ∀ md t, Rp X.K w3 H2 md t c.2 v2) ∧ (Rp X.K w3 H2 c.1 ((i + 1) :: q) c.2 v2) := by
                  refine ⟨fun hi md t => Rp.imm ⟨fun _ _ x => x, fun _ _ _ x => x⟩ _ hi h2, ?_⟩
                  exact Rp.move (fun p => .inr ⟨p, moveF_lt (by omega)⟩) (fun p' => moveF_eq) h2
                obtain ⟨b, vs, eb, nd, ob, rl⟩ := RA.rp p ra3
                subst eb
                have hb : w3 b = some ((i + 1) :: p) := nd.mut hmm
                refine ⟨b, vs, v2, rfl, rfl, ob, by rw [rl.length]; exact hz, ?_⟩
                have hn : Rp X.K w3 (upd H2 b (.lst (vs ++ [v2]))) md ((i + 1) :: p) (.lst (ds ++ [c.2])) (.ref b) := by
                  have rl' : RpL X.K w3 (upd H2 b (.lst (vs ++ [v2]))) m.sub ((i + 1) :: p) 0 ds vs :=
                    RpL.write' rl s3.dom hb (fun _ => slot_tag) fun j p' _ => fun z => by
                      have := congrArg List.length z
                      simp at this
                  have item : ∀ md', Rp X.K w3 H2 md' ((i + 1) :: p ++ [ds.length]) c.2 v2 → Rp X.K w3 (upd H2 b (.lst (vs ++ [v2]))) md' ((i + 1) :: p ++ [ds.length]) c.2 v2 := fun md' h =>
                    h.write s3.dom hb (fun _ => slot_tag) fun p' z => by
                      have := congrArg List.length z
                      simp at this
                  have build : ∀ md0 : Md, md0.mut = true → RpL X.K w3 (upd H2 b (.lst (vs ++ [v2]))) md0.sub ((i + 1) :: p) 0 ds vs → Rp X.K w3 (upd H2 b (.lst (vs ++ [v2]))) md0.sub ((i + 1) :: p ++ [ds.length]) c.2 v2 → Rp X.K w3 (upd H2 b (.lst (vs ++ [v2]))) md0 ((i + 1) :: p) (.lst (ds ++ [c.2])) (.ref b) := fun md0 hm r1 r2 =>
                    ⟨b, vs ++ [v2], rfl, Nd.of_mut hm hb, upd_same, RpL.append r1 ⟨v2, [], rfl, by rw [Nat.zero_add]; exact r2, rfl⟩⟩
                  rcases (appMd_cases e3).2 with ⟨hc, em⟩ | ⟨em, em2, ec1⟩ | ⟨em, em2, ec1⟩ | ⟨em, em2, ec1, hl⟩
                  · subst em
                    exact build md hmm rl' (item _ (h3.1 hc _ _))
                  · subst em; subst em2
                    have := h3.2
                    rw [ec1] at this
                    exact build .all rfl rl' (item _ this)
                  · subst em; subst em2
                    have := h3.2
                    rw [ec1] at this
                    exact build (.own 1) rfl rl' (item _ this)
                  · subst em; subst em2
                    have := h3.2
                    rw [ec1] at this
                    exact build (.own 1) rfl (RpL.imm ⟨fun _ _ x => x, fun _ _ _ x => x⟩ _ hl rl') (item _ this)
                obtain ⟨s4, st4⟩ := write_core (T := T1 ++ (T2 ++ [i])) (o := .lst (vs ++ [v2])) s3 hr hi mi ev ra3 hb trivial hn ec e4
                exact g w3 _ .non [r] (s4.up (Nat.le_succ _)) rfl rfl (((st1'.trans (st2.mono fun k h => h.rt.l)).trans st3).trans st4)
              · exact (not_imm_lst z).elim
          · rw [if_neg hz] at g; exact g.elim
    | _ => exact g.elim
end
end DL

/-! DL part 13: statements. -/
namespace DL
open PySem L2
section
variable {K : PySem.W.Frag} {N r : Nat} {w : Om} {H : Hp} {σ : St} {ρ : Rho}
/-- a temporary's structure becomes slot i's; what stood there goes -/
def slotF (r i : Nat) : Tag → Option Tag
  | [] => none
  | k :: p => if k = i + 1 then none else if k < r then some (k :: p) else if k = r then some ((i + 1) :: p) else none
theorem slotF_keep {i k : Nat} {p : Tag} (h : k < r) (h2 : k ≠ i + 1) : slotF r i (k :: p) = some (k :: p) := by
  show (if k = i + 1 then _ else if k < r then _ else _) = _
  rw [if_neg h2, if_pos h]
theorem slotF_eq {i : Nat} {p : Tag} (h : i + 1 < r) : slotF r i (r :: p) = some ((i + 1) :: p) := by
  show (if r = i + 1 then _ else if r < r then _ else if r = r then _ else _) = _
  rw [if_neg (by omega), if_neg (Nat.lt_irrefl _), if_pos rfl]
theorem slotF_cases {i : Nat} {t t' : Tag} (e : slotF r i t = some t') : (∃ k p, t = k :: p ∧ k < r ∧ k ≠ i + 1 ∧ t' = t) ∨ ∃ p, t = r :: p ∧ t' = (i + 1) :: p := by
  cases t with
  | nil => cases e
  | cons k p =>
    have e : (if k = i + 1 then none else if k < r then some (k :: p) else if k = r then some ((i + 1) :: p) else none) = some t' := e
    by_cases z : k = i + 1
    · rw [if_pos z] at e; cases e
    · rw [if_neg z] at e
      by_cases y : k < r
      · rw [if_pos y] at e; cases e; exact .inl ⟨k, p, rfl, y, z, rfl⟩
      · rw [if_neg y] at e
        by_cases x : k = r
        · rw [if_pos x] at e; cases e; subst x; exact .inr ⟨p, rfl, rfl⟩
        · rw [if_neg x] at e; cases e
theorem slot_core {i r' : Nat} {T : List Nat} {c : Cel} {v : V} (s : Sat K N r' w H σ ρ) (hN : N < r) (hi : i < N) (hT : i ∈ T) (h : Rp K (bindO w (slotF r i)) H c.1 [i + 1] c.2 v) :
    Sat K N r (bindO w (slotF r i)) H (σ.set i (some v)) (ρ.set i (some c)) ∧ Stp (kpE T r) w H (bindO w (slotF r i)) H := by
  have st : Stp (kpE T r) w H (bindO w (slotF r i)) H := Stp.bindO (fun k p hk => slotF_keep hk.1 (hk.2 i hT)) fun t k p hk e => by
    rcases slotF_cases e with ⟨k', p', e1, _, _, e2⟩ | ⟨p', e1, e2⟩
    · exact e2.symm
    · cases e2; exact (hk.2 i hT rfl).elim
  refine ⟨⟨by rw [List.length_set]; exact s.ls, by rw [List.length_set]; exact s.lr, fun a t e => ?_, fun j c' e => ?_⟩, st⟩
  · cases z : w a with
    | none => rw [bindO_none z] at e; cases e
    | some t' =>
      rw [bindO_some z] at e
      obtain ⟨m, k, p, rfl, l⟩ := s.dom a t' z
      refine ⟨m, ?_⟩
      rcases slotF_cases e with ⟨k', p', e1, l', _, e2⟩ | ⟨p', e1, e2⟩
      · exact ⟨k', p', by rw [e2, e1], l'⟩
      · exact ⟨i + 1, p', e2, by omega⟩
  · by_cases hj : i = j
    · subst hj
      rw [List.getElem?_set_self (by rw [s.lr]; exact hi)] at e
      cases e
      exact ⟨v, List.getElem?_set_self (by rw [s.ls]; exact hi), h⟩
    · rw [List.getElem?_set_ne hj] at e
      obtain ⟨u, h1, h2⟩ := s.slot j c' e
      have := s.lt e
      exact ⟨u, by rw [List.getElem?_set_ne hj]; exact h1, Rp.move (fun p => .inr ⟨p, slotF_keep (by omega) (by omega)⟩) (fun p => slotF_keep (by omega) (by omega)) h2⟩
end
section
variable {X : Cx} {W : WX} {M : List Nat}
def dsSet (i : Nat) (f : Rho → Res Cel) : Rho → SR := fun ρ => match f ρ with
  | .ok c ρ1 => .nx (ρ1.set i (some c))
  | .exc x ρ1 => .exc x ρ1
  | .stuck => .stuck
theorem Fx.set {i : Nat} {σ : St} {x : Option V} (h : M.contains i = false) : Fx M σ (σ.set i x) := fun j hj => List.getElem?_set_ne fun z => by
  subst z
  have : M.contains i = true := by simp [hj]
  rw [h] at this; cases this
theorem ds_set (i : Nat) {x : Str} {e : Expr} {f : Rho → Res Cel} {T : List Nat} {pos pos' : Pos} (A : DE X W T .tmp e f) (hN : X.N.Nodup) (hi : X.N[i]? = some x := by rfl) (hl : i < X.N.length := by exact ltN rfl) (hx : Loc X.env.scope x := by first | exact Or.inl rfl | exact Or.inr rfl) (hM : M.contains i = false := by rfl)
    (hs : swapsWith e (some (.Name x pos')) pos.line X.env = pure false := by rfl) (hf : X.fn x = true ∨ X.env.scope.names.lookup x = some .local := by first | exact .inl rfl | exact .inr rfl | assumption) :
    DS X W M (i :: T) (.Assign [.Name x pos'] e pos) (dsSet i f) := by
  obtain ⟨t, pe, A⟩ := A.ex
  refine ⟨_, ps_set hN hi hx pe hs hf, fun r w H σ ρ D hr s g => A r w H σ ρ _ hr s ?_⟩
  unfold dsSet at g
  cases e1 : f ρ with
  | stuck => rw [e1] at g; exact g
  | exc x e' => rw [e1] at g; exact fun w' H' cls da s' xo st => g w' H' σ cls da s' xo (st.mono fun k h => ⟨h.1, fun j hj => h.2 j (List.mem_cons_of_mem _ hj)⟩) Fx.refl
  | ok c ρ1 =>
    rw [e1] at g
    intro w' H' v tg s' o h st
    have o : tg = [r] := o
    subst o
    have h' : Rp X.K (bindO w' (slotF r i)) H' c.1 [i + 1] c.2 v := Rp.move (fun p => .inr ⟨p, slotF_keep (by omega) (by omega)⟩) (fun p => slotF_eq (by omega)) h
    obtain ⟨s2, st2⟩ := slot_core (T := i :: T) s' hr hl List.mem_cons_self h'
    exact g _ H' _ s2 ((st.mono fun k h => ⟨h.1, fun j hj => h.2 j (List.mem_cons_of_mem _ hj)⟩).trans st2) (Fx.set hM)
def dsExpr (f : Rho → Res Cel) : Rho → SR := fun ρ => match f ρ with
  | .ok _ ρ1 => .nx ρ1
  | .exc x ρ1 => .exc x ρ1
  | .stuck => .stuck
theorem ds_expr {e : Expr} {f : Rho → Res Cel} {T : List Nat} {S : Src} {pos : Pos} (A : DE X W T S e f) (hs : swapsWith e none pos.line X.env = pure false := by rfl) : DS X W M T (.Expr e pos) (dsExpr f) := by
  obtain ⟨t, pe, A⟩ := A.ex
  refine ⟨_, ps_expr pe hs, fun r w H σ ρ D hr s g => A r w H σ ρ _ hr s ?_⟩
  unfold dsExpr at g
  cases e1 : f ρ with
  | stuck => rw [e1] at g; exact g
  | exc x e' => rw [e1] at g; exact fun w' H' cls da s' xo st => g w' H' σ cls da s' xo st Fx.refl
  | ok c ρ1 =>
    rw [e1] at g
    intro w' H' v tg s' o h st
    exact g (cutO w' r) H' σ (s'.cut hr) (st.trans (Stp.cut fun k h => h.1)) Fx.refl
def dsRet (f : Rho → Res Cel) : Rho → SR := fun ρ => match f ρ with
  | .ok c ρ1 => .rt c ρ1
  | .exc x ρ1 => .exc x ρ1
  | .stuck => .stuck
theorem ds_ret {e : Expr} {f : Rho → Res Cel} {T : List Nat} {pos : Pos} (A : DE X W T .tmp e f) : DS X W M T (.Return (some e) pos) (dsRet f) := by
  obtain ⟨t, pe, A⟩ := A.ex
  refine ⟨_, ps_ret pe, fun r w H σ ρ D hr s g => A r w H σ ρ _ hr s ?_⟩
  unfold dsRet at g
  cases e1 : f ρ with
  | stuck => rw [e1] at g; exact g
  | exc x e' => rw [e1] at g; exact fun w' H' cls da s' xo st => g w' H' σ cls da s' xo st Fx.refl
  | ok c ρ1 =>
    rw [e1] at g
    intro w' H' v tg s' o h st
    have o : tg = [r] := o
    subst o
    exact g w' H' σ v s' h st Fx.refl
theorem GoodS.weak {T T' : List Nat} {r : Nat} {w : Om} {H : Hp} {σ : St} {D : Ends} {z : SR} (h : ∀ i ∈ T, i ∈ T') (g : GoodS X W M T' r w H σ D z) : GoodS X W M T r w H σ D z := by
  have m : ∀ {k}, kpE T' r k → kpE T r k := fun q => ⟨q.1, fun i hi => q.2 i (h i hi)⟩
  cases z with
  | stuck => exact g
  | nx e => exact fun w' H' σ' s st => g w' H' σ' s (st.mono fun _ => m)
  | bk e => exact fun w' H' σ' s st => g w' H' σ' s (st.mono fun _ => m)
  | ct e => exact fun w' H' σ' s st => g w' H' σ' s (st.mono fun _ => m)
  | rt c e => exact fun w' H' σ' v s h st => g w' H' σ' v s h (st.mono fun _ => m)
  | exc x e => exact fun w' H' σ' cls da s xo st => g w' H' σ' cls da s xo (st.mono fun _ => m)
theorem GoodS.up {T : List Nat} {r : Nat} {w w1 : Om} {H H1 : Hp} {σ σ1 : St} {D : Ends} {z : SR} (g : GoodS X W M T r w H σ D z) (st : Stp (kpE T r) w H w1 H1) (fx : Fx M σ σ1) : GoodS X W M T r w1 H1 σ1 D z := by
  cases z with
  | stuck => exact g
  | nx e => exact fun w' H' σ' s st' f => g w' H' σ' s (st.trans st') (fx.trans f)
  | bk e => exact fun w' H' σ' s st' f => g w' H' σ' s (st.trans st') (fx.trans f)
  | ct e => exact fun w' H' σ' s st' f => g w' H' σ' s (st.trans st') (fx.trans f)
  | rt c e => exact fun w' H' σ' v s h st' f => g w' H' σ' v s h (st.trans st') (fx.trans f)
  | exc x e => exact fun w' H' σ' cls da s xo st' f => g w' H' σ' cls da s xo (st.trans st') (fx.trans f)
def dsIf (c : Rho → Res Bool) (f g : Rho → SR) : Rho → SR := fun ρ => match c ρ with
  | .ok b ρ1 => bif b then f ρ1 else g ρ1
  | .exc x ρ1 => .exc x ρ1
  | .stuck => .stuck
theorem ds_if {c : Expr} {a b : List Stmt} {fc : Rho → Res Bool} {f g : Rho → SR} {T T1 T2 : List Nat} {pos : Pos} (C : DT X W T c fc) (A : DSs X W M T1 a f) (B : DSs X W M T2 b g) : DS X W M (T ++ (T1 ++ T2)) (.If c a b pos) (dsIf fc f g) := by
  obtain ⟨tc, pc, C⟩ := C.ex
  obtain ⟨ta, pa, A⟩ := A.ex
  obtain ⟨tb, pb, B⟩ := B.ex
  refine ⟨_, ps_if pc pa pb, fun r w H σ ρ D hr s gg => C r w H σ ρ _ hr s ?_⟩
  unfold dsIf at gg
  cases e1 : fc ρ with
  | stuck => rw [e1] at gg; exact gg
  | exc x e' => rw [e1] at gg; exact fun w' H' cls da s' xo st => gg w' H' σ cls da s' xo (st.mono fun k h => h.l) Fx.refl
  | ok c ρ1 =>
    rw [e1] at gg
    intro w1 H1 s1 st1
    cases c with
    | true => exact iteT (A r w1 H1 σ ρ1 D hr s1 (GoodS.weak (fun i hi => List.mem_append_right _ (List.mem_append_left _ hi)) (GoodS.up gg (st1.mono fun k h => h.l) Fx.refl)))
    | false => exact iteF (B r w1 H1 σ ρ1 D hr s1 (GoodS.weak (fun i hi => List.mem_append_right _ (List.mem_append_right _ hi)) (GoodS.up gg (st1.mono fun k h => h.l) Fx.refl)))
def dsNx : Rho → SR := fun ρ => .nx ρ
theorem dss_nil : DSs X W M [] [] dsNx := ⟨_, pss_nil, fun r w H σ ρ D hr s g => g w H σ s Stp.refl Fx.refl⟩
theorem dss_one {st : Stmt} {f : Rho → SR} {T : List Nat} (A : DS X W M T st f) : DSs X W M T [st] f := let ⟨t, ps, A⟩ := A.ex; ⟨t, pss_one ps, A⟩
def dsSeq (f g : Rho → SR) : Rho → SR := fun ρ => match f ρ with
  | .nx ρ1 => g ρ1
  | z => z
theorem dss_cons {st : Stmt} {rest : List Stmt} {f g : Rho → SR} {T1 T2 : List Nat} (A : DS X W M T1 st f) (B : DSs X W M T2 rest g) : DSs X W M (T1 ++ T2) (st :: rest) (dsSeq f g) := by
  obtain ⟨ta, pa, A⟩ := A.ex
  obtain ⟨tb, pb, B⟩ := B.ex
  refine ⟨_, pss_cons pa pb, fun r w H σ ρ D hr s gg => A r w H σ ρ _ hr s ?_⟩
  unfold dsSeq at gg
  have wk : ∀ {z : SR} {D : Ends}, GoodS X W M (T1 ++ T2) r w H σ D z → GoodS X W M T1 r w H σ D z := fun g => GoodS.weak (fun i hi => List.mem_append_left _ hi) g
  cases e1 : f ρ with
  | stuck => rw [e1] at gg; exact gg
  | exc x e' => rw [e1] at gg; exact wk gg
  | rt c e' => rw [e1] at gg; exact wk gg
  | bk e' => rw [e1] at gg; exact wk gg
  | ct e' => rw [e1] at gg; exact wk gg
  | nx ρ1 =>
    rw [e1] at gg
    intro w1 H1 σ1 s1 st1 f1
    exact B r w1 H1 σ1 ρ1 D hr s1 (GoodS.weak (fun i hi => List.mem_append_right _ hi) (GoodS.up gg (st1.mono fun k h => h.l) f1))
def dsBk : Rho → SR := fun ρ => .bk ρ
def dsCt : Rho → SR := fun ρ => .ct ρ
theorem ds_break {pos : Pos} : DS X W M [] (.Break pos) dsBk := ⟨_, ps_break, fun r w H σ ρ D hr s g => g w H σ s Stp.refl Fx.refl⟩
theorem ds_continue {pos : Pos} : DS X W M [] (.Continue pos) dsCt := ⟨_, ps_continue, fun r w H σ ρ D hr s g => g w H σ s Stp.refl Fx.refl⟩
/-! ### targets -/
/-- an item by itself: flat data, or shared, or lent -/
def itCel (md : Md) (d : D) : Option Cel := asVal (md, d)
theorem asVal_flat {c c' : Cel} (e : asVal c = some c') : imm c'.2 = true ∨ c'.1.flat := by
  unfold asVal at e
  split at e
  · rename_i h; cases e; exact .inl h
  · split at e
    · rename_i q; cases e; exact .inr (by rw [q]; trivial)
    · rename_i q; cases e; exact .inr (by rw [q]; trivial)
    · cases e
def okFlat (c : Cel) : Prop := imm c.2 = true ∨ c.1.flat
theorem Rp.anyT {K : PySem.W.Frag} {w : Om} {H : Hp} {c : Cel} {t t' : Tag} {v : V} (f : okFlat c) (h : Rp K w H c.1 t c.2 v) : Rp K w H c.1 t' c.2 v := by
  rcases f with f | f
  · exact Rp.imm ⟨fun _ _ x => x, fun _ _ _ x => x⟩ _ f h
  · exact h.retagF f
structure DG (X : Cx) (M T : List Nat) (tg : Expr) (g : Cel → Rho → Option Rho) : Prop where
  ex : ∃ tG : TG, PG X tg tG ∧ ∀ r w H σ ρ ρ' c t v Q, X.N.length < r → Sat X.K X.N.length r w H σ ρ → okFlat c → Rp X.K w H c.1 t c.2 v → g c ρ = some ρ' →
    (∀ w' σ', Sat X.K X.N.length r w' H σ' ρ' → Stp (kpE T r) w H w' H → Fx M σ σ' → Q σ' H) → tG v σ H Q
def gtName (i : Nat) : Cel → Rho → Option Rho := fun c ρ => some (ρ.set i (some c))
theorem dg_name (i : Nat) {x : Str} {pos : Pos} (hN : X.N.Nodup) (hi : X.N[i]? = some x := by rfl) (hl : i < X.N.length := by exact ltN rfl) (hx : Loc X.env.scope x := by first | exact Or.inl rfl | exact Or.inr rfl) (hM : M.contains i = false := by rfl) (hf : X.fn x = true ∨ X.env.scope.names.lookup x = some .local := by first | exact .inl rfl | exact .inr rfl | assumption) :
    DG X M [i] (.Name x pos) (gtName i) := by
  refine ⟨_, pg_name hN hi hx hf, fun r w H σ ρ ρ' c t v Q hr s f h e k => ?_⟩
  cases e
  have h' : Rp X.K (bindO w (slotF r i)) H c.1 [i + 1] c.2 v := by
    have q : Rp X.K w H c.1 [0] c.2 v := Rp.anyT f h
    exact Rp.anyT f (Rp.move (t := [0]) (t' := [0]) (fun p => .inr ⟨p, slotF_keep (by omega) (by omega)⟩) (fun p => slotF_keep (by omega) (by omega)) q)
  obtain ⟨s2, st2⟩ := slot_core (T := [i]) s hr hl List.mem_cons_self h'
  exact k _ _ s2 st2 (Fx.set hM)
structure DGs (X : Cx) (M T : List Nat) (tgs : List Expr) (g : Md → List D → Rho → Option Rho) : Prop where
  ex : ∃ tG : TGs, PGs X tgs tG ∧ ∀ r w H σ ρ ρ' md ds t i vs Q, X.N.length < r → Sat X.K X.N.length r w H σ ρ → (immL ds = true ∨ md.flat) → RpL X.K w H md t i ds vs → g md ds ρ = some ρ' →
    (∀ w' σ', Sat X.K X.N.length r w' H σ' ρ' → Stp (kpE T r) w H w' H → Fx M σ σ' → Q σ' H) → tG vs σ H Q
def gtNil : Md → List D → Rho → Option Rho := fun _ ds ρ => match ds with
  | [] => some ρ
  | _ :: _ => none
def gtCons (g : Cel → Rho → Option Rho) (gs : Md → List D → Rho → Option Rho) : Md → List D → Rho → Option Rho := fun md ds ρ => match ds with
  | [] => none
  | d :: ds => (itCel md d).bind fun c => (g c ρ).bind fun ρ1 => gs md ds ρ1
theorem dgs_nil : DGs X M [] [] gtNil := ⟨_, pgs_nil, fun r w H σ ρ ρ' md ds t i vs Q hr s f h e k => by
  cases ds with
  | nil => cases e; exact ⟨h, k w σ s Stp.refl Fx.refl⟩
  | cons d ds => cases e⟩
theorem dgs_cons {T1 T2 : List Nat} {tg : Expr} {tgs : List Expr} {g : Cel → Rho → Option Rho} {gs : Md → List D → Rho → Option Rho} (A : DG X M T1 tg g) (B : DGs X M T2 tgs gs)
    (hs : (assignEach (tg :: tgs) X.env).map (·.2) = assign tg X.env :: (assignEach tgs X.env).map (·.2) := by rfl) : DGs X M (T1 ++ T2) (tg :: tgs) (gtCons g gs) := by
  obtain ⟨ta, pa, A⟩ := A.ex
  obtain ⟨tb, pb, B⟩ := B.ex
  refine ⟨_, pgs_cons pa pb hs, fun r w H σ ρ ρ' md ds t i vs Q hr s f h e k => ?_⟩
  cases ds with
  | nil => cases e
  | cons d ds =>
    obtain ⟨v, rr, ev, h1, h2⟩ := h
    subst ev
    have e : (itCel md d).bind (fun c => (g c ρ).bind fun ρ1 => gs md ds ρ1) = some ρ' := e
    cases e1 : itCel md d with
    | none => rw [e1] at e; cases e
    | some c =>
      rw [e1] at e
      have e : (g c ρ).bind (fun ρ1 => gs md ds ρ1) = some ρ' := e
      cases e2 : g c ρ with
      | none => rw [e2] at e; cases e
      | some ρ1 =>
        rw [e2] at e
        refine ⟨v, rr, rfl, A r w H σ ρ ρ1 c [0] v _ hr s (asVal_flat e1) (asVal_ok e1 h1) e2 fun w1 σ1 s1 st1 f1 => ?_⟩
        have f' : immL ds = true ∨ md.flat := by
          rcases f with f | f
          · have f : (imm d && immL ds) = true := f
            rw [Bool.and_eq_true] at f
            exact .inl f.2
          · exact .inr f
        have h2' : RpL X.K w1 H md [0] 0 ds rr := by
          rcases f' with f' | f'
          · exact RpL.imm ⟨fun _ _ x => st1.tup s.dom x, fun _ _ _ x => st1.fz s.dom x⟩ _ f' h2
          · exact RpL.retagF f' (ds := ds) (vs := rr) (RpL.stpF f' h2 s.dom st1 (kpE.zero (by omega)))
        exact B r w1 H σ1 ρ1 ρ' md ds [0] 0 rr Q hr s1 f' h2' e fun w2 σ2 s2 st2 f2 => k w2 σ2 s2 ((st1.mono fun k h => h.l).trans (st2.mono fun k h => h.rt)) (f1.trans f2)
def gtTup (n : Nat) (gs : Md → List D → Rho → Option Rho) : Cel → Rho → Option Rho := fun c ρ => match c.2 with
  | .tup ds => if ds.length = n then gs c.1 ds ρ else none
  | _ => none
theorem dg_tup {T : List Nat} {tgs : List Expr} {gs : Md → List D → Rho → Option Rho} {k n : Nat} {pos : Pos} (hc : X.calm = true) (A : DGs X M T tgs gs) (hn : (assignEach tgs X.env).length = n := by rfl) (hst : (assignEach tgs X.env).findIdx? (·.1) = none := by rfl) :
    DG X M T (.Tuple tgs k pos) (gtTup n gs) := by
  obtain ⟨ta, pa, A⟩ := A.ex
  refine ⟨_, pg_tup hc pa hn hst, fun r w H σ ρ ρ' c t v Q hr s f h e k => ?_⟩
  obtain ⟨m, d⟩ := c
  unfold gtTup at e
  dsimp only at e h f
  split at e
  · rename_i ds
    split at e
    · rename_i hl
      obtain ⟨a, vs, ea, ob, rl⟩ := h
      refine ⟨a, vs, ea, ob.sq, by rw [rl.length]; exact hl, A r w H σ ρ ρ' m ds t 0 vs Q hr s ?_ rl e k⟩
      rcases f with f | f
      · exact .inl f
      · exact .inr f
    · cases e
  · cases e
/-- target = e, e flat -/
def dsAsg (f : Rho → Res Cel) (g : Cel → Rho → Option Rho) : Rho → SR := fun ρ => match f ρ with
  | .ok c ρ1 => (match asVal c with
    | some c => (match g c ρ1 with
      | some ρ2 => .nx ρ2
      | none => .stuck)
    | none => .stuck)
  | .exc x ρ1 => .exc x ρ1
  | .stuck => .stuck
theorem ds_asg {tg e : Expr} {f : Rho → Res Cel} {g : Cel → Rho → Option Rho} {T1 T2 : List Nat} {S : Src} {pos : Pos} (A : DE X W T1 S e f) (B : DG X M T2 tg g) (hs : swapsWithSole [tg] e pos.line X.env = pure false := by rfl) (hw : swappedStores [tg] e X.env = pure none := by rfl)
    (h1 : (assignEach [tg] X.env).map (·.2) = [assign tg X.env] := by rfl) : DS X W M (T1 ++ T2) (.Assign [tg] e pos) (dsAsg f g) := by
  obtain ⟨ta, pa, A⟩ := A.ex
  obtain ⟨tb, pb, B⟩ := B.ex
  refine ⟨_, ps_asg pa pb hs hw h1, fun r w H σ ρ D hr s gg => A r w H σ ρ _ hr s ?_⟩
  unfold dsAsg at gg
  cases e1 : f ρ with
  | stuck => rw [e1] at gg; exact gg
  | exc x e' => rw [e1] at gg; exact fun w' H' cls da s' xo st => gg w' H' σ cls da s' xo (st.mono fun k h => h.l) Fx.refl
  | ok c ρ1 =>
    rw [e1] at gg
    intro w1 H1 v t s1 o h st
    have gg : GoodS X W M (T1 ++ T2) r w H σ D (match asVal c with | some c => (match g c ρ1 with | some ρ2 => .nx ρ2 | none => .stuck) | none => .stuck) := gg
    cases e2 : asVal c with
    | none => rw [e2] at gg; exact gg.elim
    | some c' =>
      rw [e2] at gg
      have gg : GoodS X W M (T1 ++ T2) r w H σ D (match g c' ρ1 with | some ρ2 => .nx ρ2 | none => .stuck) := gg
      cases e3 : g c' ρ1 with
      | none => rw [e3] at gg; exact gg.elim
      | some ρ2 =>
        rw [e3] at gg
        have q : Rp X.K w1 H1 c'.1 [0] c'.2 v := asVal_ok e2 h
        have stc : Stp (fun k => k < r) w1 H1 (cutO w1 r) H1 := Stp.cut fun _ h => h
        have q2 : Rp X.K (cutO w1 r) H1 c'.1 [0] c'.2 v := q.stp s1.dom stc (by show 0 < r; omega) (by show 0 < r; omega)
        exact B r (cutO w1 r) H1 σ ρ1 ρ2 c' [0] v _ hr (s1.cut hr) (asVal_flat e2) q2 e3 fun w2 σ2 s2 st2 f2 => gg w2 H1 σ2 s2 (((st.mono fun k h => h.l).trans (stc.mono fun k h => h.1)).trans (st2.mono fun k h => h.rt)) f2
end
end DL

/-! DL part 14: for. -/
namespace DL
open PySem L2
/-- the loop over these items, each held as md -/
def forD (md : Md) (g : Cel → Rho → Option Rho) (body : Rho → SR) : List D → Rho → SR
  | [], ρ => .nx ρ
  | d :: ds, ρ => match (itCel md d).bind fun c => g c ρ with
    | none => .stuck
    | some ρ1 => match body ρ1 with
      | .nx ρ2 => forD md g body ds ρ2
      | .ct ρ2 => forD md g body ds ρ2
      | .bk ρ2 => .nx ρ2
      | .rt c ρ2 => .rt c ρ2
      | .exc x ρ2 => .exc x ρ2
      | .stuck => .stuck
def strItems (z : Str) : List D := z.cps.toList.map fun c => .str ⟨#[c]⟩
def seqOf (c : Cel) : Option (Md × List D) := match c.2 with
  | .lst ds => some (c.1.sub, ds)
  | .tup ds => some (c.1, ds)
  | .str z => some (.own 0, strItems z)
  | .frz ns => some (.own 0, ns.map .int)
  | _ => none
section
variable {X : Cx} {W : WX} {M : List Nat}
theorem GoodS.inner {T : List Nat} {r : Nat} {w : Om} {H : Hp} {σ : St} {D : Ends} {z : SR} (hr : X.N.length < r) (g : GoodS X W M T r w H σ D z) : GoodS X W M T (r + 1) w H σ D z := by
  have c : ∀ w' H', Stp (kpE T r) w' H' (cutO w' r) H' := fun w' H' => Stp.cut fun k h => h.1
  have m : ∀ {w' H'}, Stp (kpE T (r + 1)) w H w' H' → Stp (kpE T r) w H w' H' := fun s => s.mono fun k h => h.up (Nat.le_succ _)
  cases z with
  | stuck => exact g
  | nx e => exact fun w' H' σ' s st f => g _ H' σ' (s.cut hr) ((m st).trans (c w' H')) f
  | bk e => exact fun w' H' σ' s st f => g _ H' σ' (s.cut hr) ((m st).trans (c w' H')) f
  | ct e => exact fun w' H' σ' s st f => g _ H' σ' (s.cut hr) ((m st).trans (c w' H')) f
  | rt cc e =>
    intro w' H' σ' v s h st f
    obtain ⟨w3, s3, h3, st3⟩ := settle hr (Nat.le_succ r) s h
    exact g w3 H' σ' v s3 h3 ((m st).trans (st3.mono fun k h => h.1)) f
  | exc x e => exact fun w' H' σ' cls da s xo st f => g _ H' σ' cls da (s.cut hr) (xo.stp s.dom (c w' H') (kpE.zero (by omega))) ((m st).trans (c w' H')) f
/-- a walk whose items are those of the data c, held at v -/
structure Walks (X : Cx) (J : It) (c : Cel) (v : V) (md : Md) (ds : List D) : Prop where
  go : ∀ i w H t, i < ds.length → Rp X.K w H c.1 t c.2 v → J.go i H
  stop : ∀ w H t, Rp X.K w H c.1 t c.2 v → J.stop ds.length H
  yld : ∀ i w H t x H', i < ds.length → Rp X.K w H c.1 t c.2 v → J.yld i H x H' → H' = H ∧ ∃ d t', ds[i]? = some d ∧ Rp X.K w H md t' d x
theorem for_core {Tg Tb T : List Nat} {S : Src} {g : Cel → Rho → Option Rho} {body : Rho → SR} {tG : TG} {tb : TS} {J : It} {c : Cel} {v : V} {md : Md} {ds : List D} (Wk : Walks X J c v md ds)
    (hTg : ∀ i ∈ Tg, i ∈ T) (hTb : ∀ i ∈ Tb, i ∈ T)
    (G : ∀ r w H σ ρ ρ' c t v Q, X.N.length < r → Sat X.K X.N.length r w H σ ρ → okFlat c → Rp X.K w H c.1 t c.2 v → g c ρ = some ρ' →
      (∀ w' σ', Sat X.K X.N.length r w' H σ' ρ' → Stp (kpE Tg r) w H w' H → Fx M σ σ' → Q σ' H) → tG v σ H Q)
    (B : ∀ r w H σ ρ D, X.N.length < r → Sat X.K X.N.length r w H σ ρ → GoodS X W M Tb r w H σ D (body ρ) → tb D σ H)
    {r : Nat} {w : Om} {H : Hp} {σ : St} {ρ : Rho} {D : Ends} {k : Nat} {p : Tag} (hr : X.N.length < r) (hk : kpE T r k) (s : Sat X.K X.N.length r w H σ ρ) (h : Rp X.K w H c.1 (k :: p) c.2 v) (gg : GoodS X W M T r w H σ D (forD md g body ds ρ)) :
    ∃ W' : Nat → Nat → St → Hp → Prop, (∃ m, W' 0 m σ H) ∧ ∀ i m σ H, W' i m σ H →
      (J.stop i H ∧ D.nx σ H) ∨ (J.go i H ∧ ∃ Nx : St → Hp → Prop, (∀ σ' H', Nx σ' H' → ∃ m', m' < m ∧ W' (i + 1) m' σ' H') ∧ ∀ x H', J.yld i H x H' → tG x σ H' fun σ2 H2 => tb { D with nx := Nx, ct := Nx, bk := D.nx } σ2 H2) := by
  let Pv : Nat → St → Hp → Prop := fun i σ H => ∃ w ρ, Sat X.K X.N.length r w H σ ρ ∧ Rp X.K w H c.1 (k :: p) c.2 v ∧ GoodS X W M T r w H σ D (forD md g body (ds.drop i) ρ)
  refine ⟨fun i m σ H => m = ds.length - i ∧ i ≤ ds.length ∧ Pv i σ H, ⟨ds.length, by simp, Nat.zero_le _, w, ρ, s, h, gg⟩, ?_⟩
  rintro i m σ H ⟨rfl, hi, w, ρ, s, h, gg⟩
  by_cases hlt : i < ds.length
  · refine .inr ⟨Wk.go i w H _ hlt h, Pv (i + 1), fun σ' H' q => ⟨ds.length - (i + 1), by omega, rfl, hlt, q⟩, fun x H' y => ?_⟩
    obtain ⟨eH, d, t', ed, hd⟩ := Wk.yld i w H _ x H' hlt h y
    subst eH
    have e0 : ds.drop i = d :: ds.drop (i + 1) := by
      rw [List.drop_eq_getElem_cons hlt]
      congr 1
      rw [List.getElem?_eq_getElem hlt] at ed
      exact Option.some.inj ed
    rw [e0] at gg
    have gg : GoodS X W M T r w H' σ D (match (itCel md d).bind fun c => g c ρ with
      | none => .stuck
      | some ρ1 => match body ρ1 with
        | .nx ρ2 => forD md g body (ds.drop (i + 1)) ρ2
        | .ct ρ2 => forD md g body (ds.drop (i + 1)) ρ2
        | .bk ρ2 => .nx ρ2
        | .rt c ρ2 => .rt c ρ2
        | .exc x ρ2 => .exc x ρ2
        | .stuck => .stuck) := gg
    cases e1 : itCel md d with
    | none => rw [e1] at gg; exact gg.elim
    | some ci =>
      rw [e1] at gg
      cases e2 : g ci ρ with
      | none =>
        have gg : GoodS X W M T r w H' σ D (match g ci ρ with | none => .stuck | some ρ1 => _) := gg
        rw [e2] at gg
        exact gg.elim
      | some ρ1 =>
        have gg : GoodS X W M T r w H' σ D (match g ci ρ with
          | none => .stuck
          | some ρ1 => match body ρ1 with
            | .nx ρ2 => forD md g body (ds.drop (i + 1)) ρ2
            | .ct ρ2 => forD md g body (ds.drop (i + 1)) ρ2
            | .bk ρ2 => .nx ρ2
            | .rt c ρ2 => .rt c ρ2
            | .exc x ρ2 => .exc x ρ2
            | .stuck => .stuck) := gg
        rw [e2] at gg
        refine G r w H' σ ρ ρ1 ci [0] x _ hr s (asVal_flat e1) (asVal_ok e1 hd) e2 fun w1 σ1 s1 st1 f1 => ?_
        have st1' : Stp (kpE T r) w H' w1 H' := st1.mono fun k h => ⟨h.1, fun i hi => h.2 i (hTg i hi)⟩
        have h1 := h.stp s.dom st1' (kpE.zero (by omega)) hk
        have gg := GoodS.up gg st1' f1
        refine B r w1 H' σ1 ρ1 _ hr s1 (GoodS.weak hTb ?_)
        have again : ∀ ρ2, GoodS X W M T r w1 H' σ1 D (forD md g body (ds.drop (i + 1)) ρ2) → ∀ w2 H2 σ2, Sat X.K X.N.length r w2 H2 σ2 ρ2 → Stp (kpE T r) w1 H' w2 H2 → Fx M σ1 σ2 → Pv (i + 1) σ2 H2 := fun ρ2 gg w2 H2 σ2 s2 st2 f2 =>
          ⟨w2, ρ2, s2, h1.stp s1.dom st2 (kpE.zero (by omega)) hk, GoodS.up gg st2 f2⟩
        have gg : GoodS X W M T r w1 H' σ1 D (match body ρ1 with
            | .nx ρ2 => forD md g body (ds.drop (i + 1)) ρ2
            | .ct ρ2 => forD md g body (ds.drop (i + 1)) ρ2
            | .bk ρ2 => .nx ρ2
            | .rt c ρ2 => .rt c ρ2
            | .exc x ρ2 => .exc x ρ2
            | .stuck => .stuck) := gg
        cases e3 : body ρ1 with
        | stuck => rw [e3] at gg; exact gg.elim
        | nx ρ2 => rw [e3] at gg; exact again ρ2 gg
        | ct ρ2 => rw [e3] at gg; exact again ρ2 gg
        | bk ρ2 => rw [e3] at gg; exact gg
        | rt c ρ2 => rw [e3] at gg; exact gg
        | exc x ρ2 => rw [e3] at gg; exact gg
  · have e : i = ds.length := by omega
    subst e
    rw [List.drop_length] at gg
    exact .inl ⟨Wk.stop w H _ h, gg w H σ s Stp.refl Fx.refl⟩
/-! ### the walks -/
theorem wk_list {a : Addr} {m : Md} {ds : List D} : Walks X (Itl X.K a) (m, .lst ds) (.ref a) m.sub ds where
  go := fun i w H t hi ⟨b, vs, e, _, ob, r⟩ => by
    cases e
    have hv : i < vs.length := by rw [r.length]; exact hi
    exact ⟨vs, vs[i], SqL.of ob, by simp [hv]⟩
  stop := fun w H t ⟨b, vs, e, _, ob, r⟩ => by
    cases e
    exact ⟨vs, SqL.of ob, Nat.le_of_eq r.length⟩
  yld := fun i w H t x H' hi ⟨b, vs, e, _, ob, r⟩ ⟨eH, y⟩ => by
    cases e
    obtain ⟨u, h1, h2⟩ := r.get (j := i) (d := ds[i]) (by simp [hi])
    have := y vs (SqL.of ob)
    rw [h1] at this
    cases this
    exact ⟨eH, ds[i], _, by simp [hi], h2⟩
theorem wk_frz {a : Addr} {m : Md} {ns : List Int} : Walks X (Itl X.K a) (m, .frz ns) (.ref a) (.own 0) (ns.map .int) where
  go := fun i w H t hi ⟨b, e, ob⟩ => by
    cases e
    rw [List.length_map] at hi
    exact ⟨_, .int ns[i], ob.sq, by simp [hi]⟩
  stop := fun w H t ⟨b, e, ob⟩ => by
    cases e
    exact ⟨_, ob.sq, by simp⟩
  yld := fun i w H t x H' hi ⟨b, e, ob⟩ ⟨eH, y⟩ => by
    cases e
    rw [List.length_map] at hi
    have := y _ (ob.sq)
    rw [List.getElem?_map, List.getElem?_eq_getElem hi] at this
    cases this
    exact ⟨eH, .int ns[i], [0], by simp [hi], rfl⟩
theorem wk_tup {a : Addr} {m : Md} {ds : List D} : Walks X (Itt X.K a) (m, .tup ds) (.ref a) m ds where
  go := fun i w H t hi ⟨b, vs, e, ob, r⟩ => by
    cases e
    have hv : i < vs.length := by rw [r.length]; exact hi
    exact ⟨vs, vs[i], ob.sq, by simp [hv]⟩
  stop := fun w H t ⟨b, vs, e, ob, r⟩ => by
    cases e
    exact ⟨vs, ob.sq, Nat.le_of_eq r.length⟩
  yld := fun i w H t x H' hi ⟨b, vs, e, ob, r⟩ ⟨eH, y⟩ => by
    cases e
    obtain ⟨u, h1, h2⟩ := r.get (j := i) (d := ds[i]) (by simp [hi])
    have := y vs ob.sq
    rw [h1] at this
    cases this
    exact ⟨eH, ds[i], _, by simp [hi], h2⟩
theorem wk_str {z : Str} {m : Md} {v : V} : Walks X (Its z) (m, .str z) v (.own 0) (strItems z) where
  go := fun i w H t hi _ => by
    unfold strItems at hi
    rw [List.length_map, Array.length_toList] at hi
    exact hi
  stop := fun w H t _ => by
    show z.cps.size ≤ _
    unfold strItems
    rw [List.length_map, Array.length_toList]
    exact Nat.le_refl _
  yld := fun i w H t x H' hi _ ⟨eH, c, hc, ex⟩ => by
    subst ex
    refine ⟨eH, .str ⟨#[c]⟩, [0], ?_, rfl⟩
    unfold strItems
    rw [List.getElem?_map, Array.getElem?_toList, hc]; rfl
theorem PI_or {tg e : Expr} {a b : TI} (h : PI X tg e a) (h' : PI X tg e b) : PI X tg e (fun σ H R => a σ H R ∨ b σ H R) :=
  ⟨fun pins s σ H R I q => q.elim (h.run pins s σ H R I) (h'.run pins s σ H R I)⟩
def dsFor (f : Rho → Res Cel) (g : Cel → Rho → Option Rho) (body : Rho → SR) : Rho → SR := fun ρ => match f ρ with
  | .ok c ρ1 => (match seqOf c with
    | some q => forD q.1 g body q.2 ρ1
    | none => .stuck)
  | .exc x ρ1 => .exc x ρ1
  | .stuck => .stuck
/-- for target in e, e a list, a tuple, a text -/
theorem ds_for {tg e : Expr} {bodyS : List Stmt} {f : Rho → Res Cel} {g : Cel → Rho → Option Rho} {body : Rho → SR} {T0 Tg Tb : List Nat} {S : Src} {pos : Pos} (hp : PassesOwn (model X.prog X.w) X.A X.env X.xe) (hc : X.calm = true) (A : DE X W T0 S e f) (G : DG X M Tg tg g) (B : DSs X W M Tb bodyS body)
    (hT : ∀ i ∈ T0 ++ (Tg ++ Tb), i < X.N.length := by exact lt_all rfl) (hS : S.lt X.N.length := by first | exact trivial | exact ltS rfl) (off : S.off (T0 ++ (Tg ++ Tb)) = true := by rfl) (hs : ∀ x, foldedSetIterable e X.env x = pure x := by intro _; rfl) :
    DS X W M (T0 ++ (Tg ++ Tb)) (.For tg e bodyS [] pos) (dsFor f g body) := by
  obtain ⟨ta, pa, A⟩ := A.ex
  obtain ⟨tG, pG, G⟩ := G.ex
  obtain ⟨tb, pb, B⟩ := B.ex
  refine ⟨_, ps_for hp hc (PI_or (pi_list pa) (PI_or (pi_tup pa) (pi_str pa))) pG pb hs, fun r w H σ ρ D hr s gg => ?_⟩
  unfold dsFor at gg
  have bad : ∀ {R : Cel → Rho → Prop} {Q : VK}, (∀ c ρ1, f ρ ≠ .ok c ρ1) → GoodE X W T0 S r w H σ Q (f ρ) := fun {R Q} hne => by
    cases e1 : f ρ with
    | stuck => rw [e1] at gg; exact gg
    | exc x e' => rw [e1] at gg; exact fun w' H' cls da s' xo st => gg w' H' σ cls da s' xo (st.mono fun k h => h.l) Fx.refl
    | ok c ρ1 => exact (hne c ρ1 e1).elim
  cases e1 : f ρ with
  | stuck => exact .inl (A r w H σ ρ _ hr s (bad (R := fun _ _ => True) fun c ρ1 z => by rw [e1] at z; cases z))
  | exc x e' => exact .inl (A r w H σ ρ _ hr s (bad (R := fun _ _ => True) fun c ρ1 z => by rw [e1] at z; cases z))
  | ok c ρ1 =>
    obtain ⟨m, d⟩ := c
    rw [e1] at gg
    have gg : GoodS X W M (T0 ++ (Tg ++ Tb)) r w H σ D (match seqOf (m, d) with | some q => forD q.1 g body q.2 ρ1 | none => .stuck) := gg
    have key : ∀ {md : Md} {ds : List DL.D} {J : It} {w1 : Om} {H1 : Hp} {v : V} {t : Tag}, seqOf (m, d) = some (md, ds) → Walks X J (m, d) v md ds → Sat X.K X.N.length (r + 1) w1 H1 σ ρ1 → S.ok r σ v t → Rp X.K w1 H1 m t d v → Stp (kpE T0 r) w H w1 H1 →
        ∃ W' : Nat → Nat → St → Hp → Prop, (∃ m, W' 0 m σ H1) ∧ ∀ i m σ H, W' i m σ H →
          (J.stop i H ∧ D.nx σ H) ∨ (J.go i H ∧ ∃ Nx : St → Hp → Prop, (∀ σ' H', Nx σ' H' → ∃ m', m' < m ∧ W' (i + 1) m' σ' H') ∧ ∀ x H', J.yld i H x H' → tG x σ H' fun σ2 H2 => tb { D with nx := Nx, ct := Nx, bk := D.nx } σ2 H2) := by
      intro md ds J w1 H1 v t es wk s1 o1 h1 st1
      rw [es] at gg
      have gg : GoodS X W M (T0 ++ (Tg ++ Tb)) r w H σ D (forD md g body ds ρ1) := gg
      obtain ⟨k', p, et, hk⟩ := Src.kept (T := T0 ++ (Tg ++ Tb)) o1 off (Nat.lt_succ_self r) hr (Src.lt_of hS) hT
      subst et
      exact for_core (S := S) (T := T0 ++ (Tg ++ Tb)) wk (fun i hi => List.mem_append_right _ (List.mem_append_left _ hi)) (fun i hi => List.mem_append_right _ (List.mem_append_right _ hi)) G B (by omega) hk s1 h1
        (GoodS.inner hr (GoodS.up gg (st1.mono fun k h => h.l) Fx.refl))
    cases d with
    | lst ds =>
      refine .inl (A r w H σ ρ _ hr s ?_)
      rw [e1]
      intro w1 H1 v t s1 o1 h1 st1
      obtain ⟨a, vs, ea, nd, ob, rl⟩ := id h1
      subst ea
      exact ⟨a, rfl, ⟨vs, SqL.of ob⟩, key rfl wk_list s1 o1 h1 st1⟩
    | frz ns =>
      refine .inl (A r w H σ ρ _ hr s ?_)
      rw [e1]
      intro w1 H1 v t s1 o1 h1 st1
      obtain ⟨a, ea, ob⟩ := id h1
      subst ea
      exact ⟨a, rfl, ⟨_, ob.sq⟩, key rfl wk_frz s1 o1 h1 st1⟩
    | tup ds =>
      refine .inr (.inl (A r w H σ ρ _ hr s ?_))
      rw [e1]
      intro w1 H1 v t s1 o1 h1 st1
      obtain ⟨a, vs, ea, ob, rl⟩ := id h1
      subst ea
      exact ⟨a, rfl, ⟨vs, ob.sq⟩, key rfl wk_tup s1 o1 h1 st1⟩
    | str z =>
      refine .inr (.inr (A r w H σ ρ _ hr s ?_))
      rw [e1]
      intro w1 H1 v t s1 o1 h1 st1
      exact ⟨z, h1, key rfl wk_str s1 o1 h1 st1⟩
    | _ => exact gg.elim
/-- for target in range(e), range(e, e') -/
def rngItems (lo hi : Int) : List D := (List.range (hi - lo).toNat).map fun k => .int (lo + (k : Nat))
def rngOk (i : Int) : Bool := decide (-(2 ^ 62) ≤ i) && decide (i < 2 ^ 62)
def rngOf : List Cel → Option (List D)
  | [c] => match c.2 with
    | .int j => if rngOk j = true then some (rngItems 0 j) else none
    | _ => none
  | [c, c'] => match c.2, c'.2 with
    | .int i, .int j => if (rngOk i && rngOk j) = true then some (rngItems i j) else none
    | _, _ => none
  | _ => none
def dsForR (f : Rho → Res (List Cel)) (g : Cel → Rho → Option Rho) (body : Rho → SR) : Rho → SR := fun ρ => match f ρ with
  | .ok cs ρ1 => (match rngOf cs with
    | some ds => forD (.own 0) g body ds ρ1
    | none => .stuck)
  | .exc x ρ1 => .exc x ρ1
  | .stuck => .stuck
theorem wk_rng {lo : Int} {n : Nat} {c : Cel} {v : V} : Walks X (Itr lo n) c v (.own 0) ((List.range n).map fun k => .int (lo + (k : Nat))) where
  go := fun i w H t hi _ => by
    rw [List.length_map, List.length_range] at hi; exact hi
  stop := fun w H t _ => by
    rw [List.length_map, List.length_range]; exact Nat.le_refl _
  yld := fun i w H t x H' hi _ ⟨eH, ex⟩ => by
    rw [List.length_map, List.length_range] at hi
    subst ex
    refine ⟨eH, .int (lo + i), [0], ?_, rfl⟩
    rw [List.getElem?_map, List.getElem?_range hi]; rfl
theorem rngOk_iff {i : Int} (h : rngOk i = true) : -(2 ^ 62) ≤ i ∧ i < 2 ^ 62 := by
  unfold rngOk at h
  rw [Bool.and_eq_true] at h
  exact ⟨of_decide_eq_true h.1, of_decide_eq_true h.2⟩
theorem for_rng_core {Tg Tb T0 : List Nat} {Ss : List Src} {g : Cel → Rho → Option Rho} {body : Rho → SR} {tG : TG} {tb : TS}
    (G : ∀ r w H σ ρ ρ' c t v Q, X.N.length < r → Sat X.K X.N.length r w H σ ρ → okFlat c → Rp X.K w H c.1 t c.2 v → g c ρ = some ρ' →
      (∀ w' σ', Sat X.K X.N.length r w' H σ' ρ' → Stp (kpE Tg r) w H w' H → Fx M σ σ' → Q σ' H) → tG v σ H Q)
    (B : ∀ r w H σ ρ D, X.N.length < r → Sat X.K X.N.length r w H σ ρ → GoodS X W M Tb r w H σ D (body ρ) → tb D σ H)
    {r n : Nat} {lo : Int} {w w1 : Om} {H H1 : Hp} {σ : St} {ρ1 : Rho} {D : Ends} (hr : X.N.length < r) (s1 : Sat X.K X.N.length (r + Ss.length) w1 H1 σ ρ1) (st1 : Stp (kpE T0 r) w H w1 H1)
    (gg : GoodS X W M (T0 ++ (Tg ++ Tb)) r w H σ D (forD (.own 0) g body ((List.range n).map fun k => .int (lo + (k : Nat))) ρ1)) :
    ∃ W' : Nat → Nat → St → Hp → Prop, (∃ m, W' 0 m σ H1) ∧ ∀ i m σ H, W' i m σ H →
          ((Itr lo n).stop i H ∧ D.nx σ H) ∨ ((Itr lo n).go i H ∧ ∃ Nx : St → Hp → Prop, (∀ σ' H', Nx σ' H' → ∃ m', m' < m ∧ W' (i + 1) m' σ' H') ∧ ∀ x H', (Itr lo n).yld i H x H' → tG x σ H' fun σ2 H2 => tb { D with nx := Nx, ct := Nx, bk := D.nx } σ2 H2) :=
  for_core (S := .tmp) (T := T0 ++ (Tg ++ Tb)) (c := (.own 0, .non)) (v := .non) (k := 0) (p := []) wk_rng (fun i hi => List.mem_append_right _ (List.mem_append_left _ hi)) (fun i hi => List.mem_append_right _ (List.mem_append_right _ hi)) G B hr (kpE.zero (by omega)) (s1.cut hr) rfl
    (GoodS.up gg ((st1.mono fun k h => h.l).trans (Stp.cut fun k h => h.1)) Fx.refl)
theorem ds_range1 {tg a : Expr} {bodyS : List Stmt} {f : Rho → Res (List Cel)} {g : Cel → Rho → Option Rho} {body : Rho → SR} {T0 Tg Tb : List Nat} {S : Src} {p pos pos2 : Pos} (hp : PassesOwn (model X.prog X.w) X.A X.env X.xe) (hc : X.calm = true) (hgl : Gl X "range") (hm : X.mg "range" = none)
    (A : DA X W T0 [S] [a] f) (G : DG X M Tg tg g) (B : DSs X W M Tb bodyS body) (hs : starEach [a] X.env = [(false, eval a X.env)] := by rfl) (hf : ∀ x, foldedSetIterable (.Call (.Name "range" p) [a] [] pos2) X.env x = pure x := by intro _; rfl) :
    DS X W M (T0 ++ (Tg ++ Tb)) (.For tg (.Call (.Name "range" p) [a] [] pos2) bodyS [] pos) (dsForR f g body) := by
  obtain ⟨ta, pa, A⟩ := A.ex
  obtain ⟨tG, pG, G⟩ := G.ex
  obtain ⟨tb, pb, B⟩ := B.ex
  refine ⟨_, ps_for hp hc (pi_range1 hgl hm pa hs) pG pb hf, fun r w H σ ρ D hr s gg => A r w H σ ρ _ hr s ?_⟩
  unfold dsForR at gg
  cases e1 : f ρ with
  | stuck => rw [e1] at gg; exact gg
  | exc x e' => rw [e1] at gg; exact fun w' H' cls da s' xo st => gg w' H' σ cls da s' xo (st.mono fun k h => h.l) Fx.refl
  | ok cs ρ1 =>
    rw [e1] at gg
    intro w1 H1 vs s1 a1 st1
    match cs, vs, a1 with
    | [c], [v], ⟨⟨t, _, h⟩, _⟩ =>
      obtain ⟨m, d⟩ := c
      cases d with
      | int j =>
        have gg : GoodS X W M (T0 ++ (Tg ++ Tb)) r w H σ D (match (if rngOk j = true then some (rngItems 0 j) else none) with | some ds => forD (.own 0) g body ds ρ1 | none => .stuck) := gg
        by_cases hj : rngOk j = true
        · rw [if_pos hj] at gg
          have gg : GoodS X W M (T0 ++ (Tg ++ Tb)) r w H σ D (forD (.own 0) g body (rngItems 0 j) ρ1) := gg
          unfold rngItems at gg
          rw [Int.sub_zero] at gg
          obtain ⟨h1, h2⟩ := rngOk_iff hj
          cases (show _ = _ from h)
          exact ⟨j, rfl, h1, h2, for_rng_core (Ss := [S]) G B hr s1 st1 gg⟩
        · rw [if_neg hj] at gg; exact gg.elim
      | _ => exact gg.elim
    | [], _, z => exact z.elim
    | _ :: _, [], z => exact z.elim
    | [_], _ :: _ :: _, z => exact z.2.elim
    | _ :: _ :: _, _ :: _, z => exact z.2.elim
theorem ds_range2 {tg a b : Expr} {bodyS : List Stmt} {f : Rho → Res (List Cel)} {g : Cel → Rho → Option Rho} {body : Rho → SR} {T0 Tg Tb : List Nat} {S S' : Src} {p pos pos2 : Pos} (hp : PassesOwn (model X.prog X.w) X.A X.env X.xe) (hc : X.calm = true) (hgl : Gl X "range") (hm : X.mg "range" = none)
    (A : DA X W T0 [S, S'] [a, b] f) (G : DG X M Tg tg g) (B : DSs X W M Tb bodyS body) (hs : starEach [a, b] X.env = [(false, eval a X.env), (false, eval b X.env)] := by rfl) (hs2 : starEach [b] X.env = [(false, eval b X.env)] := by rfl) (hf : ∀ x, foldedSetIterable (.Call (.Name "range" p) [a, b] [] pos2) X.env x = pure x := by intro _; rfl) :
    DS X W M (T0 ++ (Tg ++ Tb)) (.For tg (.Call (.Name "range" p) [a, b] [] pos2) bodyS [] pos) (dsForR f g body) := by
  obtain ⟨ta, pa, A⟩ := A.ex
  obtain ⟨tG, pG, G⟩ := G.ex
  obtain ⟨tb, pb, B⟩ := B.ex
  refine ⟨_, ps_for hp hc (pi_range2 hgl hm pa hs hs2) pG pb hf, fun r w H σ ρ D hr s gg => A r w H σ ρ _ hr s ?_⟩
  unfold dsForR at gg
  cases e1 : f ρ with
  | stuck => rw [e1] at gg; exact gg
  | exc x e' => rw [e1] at gg; exact fun w' H' cls da s' xo st => gg w' H' σ cls da s' xo (st.mono fun k h => h.l) Fx.refl
  | ok cs ρ1 =>
    rw [e1] at gg
    intro w1 H1 vs s1 a1 st1
    match cs, vs, a1 with
    | [c, c'], [v, v'], ⟨⟨t, _, h⟩, ⟨t', _, h'⟩, _⟩ =>
      obtain ⟨m, d⟩ := c
      obtain ⟨m', d'⟩ := c'
      cases d with
      | int i =>
        cases d' with
        | int j =>
          have gg : GoodS X W M (T0 ++ (Tg ++ Tb)) r w H σ D (match (if (rngOk i && rngOk j) = true then some (rngItems i j) else none) with | some ds => forD (.own 0) g body ds ρ1 | none => .stuck) := gg
          by_cases hj : (rngOk i && rngOk j) = true
          · rw [if_pos hj] at gg
            rw [Bool.and_eq_true] at hj
            obtain ⟨h1, h2⟩ := rngOk_iff hj.1
            obtain ⟨h3, h4⟩ := rngOk_iff hj.2
            cases (show _ = _ from h)
            cases (show _ = _ from h')
            exact ⟨i, j, rfl, ⟨h1, h2, h3, h4⟩, for_rng_core (Ss := [S, S']) G B hr s1 st1 gg⟩
          · rw [if_neg hj] at gg; exact gg.elim
        | _ => exact gg.elim
      | _ => exact gg.elim
    | [], _, z => exact z.elim
    | _ :: _, [], z => exact z.elim
    | [_], [_], z => exact z.2.elim
    | [_], _ :: _ :: _, z => exact z.2.elim
    | _ :: _ :: _, [_], z => exact z.2.elim
    | [_, _], _ :: _ :: _ :: _, z => exact z.2.2.elim
    | _ :: _ :: _ :: _, _ :: _ :: _, z => exact z.2.2.elim
end
end DL

/-! DL part 15: defs and their calls. -/
namespace DL
open PySem L2
/-- a returned cell: what is lent can't be given away -/
def retCel (c : Cel) : Option Cel := if imm c.2 = true then some (.own 0, c.2) else match c.1 with
  | .lent => none
  | _ => some c
/-- a def as a function of its parameters' cells -/
def dFun (N n : Nat) (body : Rho → SR) : Rho → Res Cel := fun ps => match body (ps ++ List.replicate (N - n) none) with
  | .nx e => .ok (.own 0, .non) (e.take n)
  | .rt c e => (match retCel c with
    | some c => .ok c (e.take n)
    | none => .stuck)
  | .exc x e => .exc x (e.take n)
  | _ => .stuck
def XOkM (K : PySem.W.Frag) (mg : Str → Option Value) (w : Om) (H : Hp) (x : Exn) (cls : Value) (da : Option Addr) : Prop :=
  mg x.cls = some cls ∧ (x.fs ≠ [] → ∃ d ws, da = some d ∧ H d = some (.xd ws) ∧ RpF K w H (.own 0) [0] 0 x.fs ws) ∧ (x.fs = [] → da = none)
/-- the parameters that are handed back -/
def Backs (K : PySem.W.Frag) (mj : List Nat) (w : Om) (H : Hp) (vs : List V) (ps : Rho) : Prop :=
  ∀ j ∈ mj, ∀ c, ps[j]? = some (some c) → ∃ u, vs[j]? = some u ∧ Rp K w H c.1 [j + 1] c.2 u
def GoodF (K : PySem.W.Frag) (mg : Str → Option Value) (n : Nat) (mj : List Nat) (w : Om) (H : Hp) (vs : List V) (Q : VK) (E : XK) : Res Cel → Prop
  | .stuck => False
  | .ok c ps' => ∀ w' H' v, Dom w' H' (n + 2) → Rp K w' H' c.1 [n + 1] c.2 v → Backs K mj w' H' vs ps' → Stp (fun k => k = 0) w H w' H' → Q v H'
  | .exc x ps' => ∀ w' H' cls da, Dom w' H' (n + 2) → XOkM K mg w' H' x cls da → Backs K mj w' H' vs ps' → Stp (fun k => k = 0) w H w' H' → E cls da H'
/-- a def's promise by its function on data -/
def spD (K : PySem.W.Frag) (mg : Str → Option Value) (n : Nat) (mj : List Nat) (F : Rho → Res Cel) : Sp := fun vs H Q E =>
  vs.length = n ∧ ∃ w ps, Sat K n (n + 1) w H (vs.map some) ps ∧ GoodF K mg n mj w H vs Q E (F ps)
def endF (r n : Nat) (mj : List Nat) : Tag → Option Tag
  | [] => none
  | k :: p => if k = 0 then some (k :: p) else if k = r then some ((n + 1) :: p) else if mj.contains (k - 1) = true then some (k :: p) else none
section
variable {r n : Nat} {mj : List Nat}
theorem endF_0 {p : Tag} : endF r n mj (0 :: p) = some (0 :: p) := by
  show (if (0 : Nat) = 0 then some (0 :: p) else if 0 = r then some ((n + 1) :: p) else if mj.contains (0 - 1) = true then some (0 :: p) else none) = _
  rw [if_pos rfl]
theorem endF_r {p : Tag} (h : r ≠ 0) : endF r n mj (r :: p) = some ((n + 1) :: p) := by
  show (if r = 0 then _ else if r = r then _ else _) = _
  rw [if_neg h, if_pos rfl]
theorem endF_m {j : Nat} {p : Tag} (h : j ∈ mj) (hr : j + 1 ≠ r) : endF r n mj ((j + 1) :: p) = some ((j + 1) :: p) := by
  show (if j + 1 = 0 then some ((j + 1) :: p) else if j + 1 = r then some ((n + 1) :: p) else if mj.contains (j + 1 - 1) = true then some ((j + 1) :: p) else none) = _
  rw [if_neg (by omega), if_neg hr, if_pos (by simpa using h)]
theorem endF_cases {t t' : Tag} (e : endF r n mj t = some t') : (∃ p, t = 0 :: p ∧ t' = t) ∨ (∃ p, t = r :: p ∧ t' = (n + 1) :: p) ∨ ∃ j p, j ∈ mj ∧ t = (j + 1) :: p ∧ t' = t := by
  cases t with
  | nil => cases e
  | cons k p =>
    have e : (if k = 0 then some (k :: p) else if k = r then some ((n + 1) :: p) else if mj.contains (k - 1) = true then some (k :: p) else none) = some t' := e
    by_cases z : k = 0
    · rw [if_pos z] at e; cases e; exact .inl ⟨p, by rw [z], rfl⟩
    · rw [if_neg z] at e
      by_cases y : k = r
      · rw [if_pos y] at e; cases e; exact .inr (.inl ⟨p, by rw [y], rfl⟩)
      · rw [if_neg y] at e
        by_cases x : mj.contains (k - 1) = true
        · rw [if_pos x] at e; cases e
          exact .inr (.inr ⟨k - 1, p, by simpa using x, by rw [show k - 1 + 1 = k by omega], rfl⟩)
        · rw [if_neg x] at e; cases e
end
theorem end_stp {r n : Nat} {mj : List Nat} {w : Om} {H : Hp} : Stp (fun k => k = 0) w H (bindO w (endF r n mj)) H := Stp.bindO (fun k p hk => by rw [hk]; exact endF_0) fun t k p hk e => by
  subst hk
  rcases endF_cases e with ⟨p', e1, e2⟩ | ⟨p', e1, e2⟩ | ⟨j, p', hj, e1, e2⟩
  · exact e2.symm
  · cases e2
  · rw [e1] at e2; cases e2
theorem end_dom {r n r' : Nat} {mj : List Nat} {w : Om} {H : Hp} (d : Dom w H r') (hm : ∀ j ∈ mj, j < n) : Dom (bindO w (endF r n mj)) H (n + 2) := fun a t e => by
  cases z : w a with
  | none => rw [bindO_none z] at e; cases e
  | some t' =>
    rw [bindO_some z] at e
    refine ⟨(d a t' z).1, ?_⟩
    rcases endF_cases e with ⟨p', e1, e2⟩ | ⟨p', e1, e2⟩ | ⟨j, p', hj, e1, e2⟩
    · exact ⟨0, p', by rw [e2, e1], by omega⟩
    · exact ⟨n + 1, p', e2, by omega⟩
    · have := hm j hj
      exact ⟨j + 1, p', by rw [e2, e1], by omega⟩
section
variable {K : PySem.W.Frag} {w : Om} {H : Hp}
/-- a move of a structure that isn't lent -/
theorem Rp.moveN {f : Tag → Option Tag} {d : D} {md : Md} {t t' : Tag} {v : V} (hl : md ≠ .lent ∨ DL.imm d = true) (hf : ∀ p, f (t ++ p) = some (t' ++ p)) (h : Rp K w H md t d v) : Rp K (bindO w f) H md t' d v := by
  rcases hl with hl | hl
  · have M : Mp K w H (bindO w f) H (fun md t md' t' => md ≠ .lent ∧ md' = md ∧ ∀ p, f (t ++ p) = some (t' ++ p)) := {
      tup := fun _ _ h => h
      fz := fun _ _ _ h => h
      ix := fun {md t md' t'} i h => ⟨h.1, h.2.1, fun p => by rw [List.append_assoc, List.append_assoc]; exact h.2.2 _⟩
      sub := fun {md t md' t'} h => by
        obtain ⟨h0, rfl, h⟩ := h
        refine ⟨?_, rfl, h⟩
        cases md' with
        | lent => exact (h0 rfl).elim
        | all => exact fun z => by cases z
        | own n => exact fun z => by cases z
      nd := fun {md t md' t'} a o h m n ob => by
        obtain ⟨h0, rfl, h⟩ := h
        have hh := h []
        rw [List.append_nil, List.append_nil] at hh
        refine ⟨?_, ob⟩
        cases md' with
        | lent => exact (h0 rfl).elim
        | all => exact (bindO_some n).trans hh
        | own k => cases k with
          | zero => exact bindO_none n
          | succ k => exact (bindO_some n).trans hh }
    exact Rp.map M d ⟨hl, rfl, hf⟩ h
  · exact Rp.imm ⟨fun _ _ x => x, fun _ _ _ x => x⟩ _ hl h
end
theorem retCel_ok {c c' : Cel} {K : PySem.W.Frag} {w : Om} {H : Hp} {t : Tag} {v : V} (e : retCel c = some c') (h : Rp K w H c.1 t c.2 v) : Rp K w H c'.1 t c'.2 v ∧ c'.2 = c.2 ∧ (c'.1 ≠ .lent ∨ imm c'.2 = true) := by
  unfold retCel at e
  split at e
  · rename_i hi
    cases e
    exact ⟨Rp.imm ⟨fun _ _ x => x, fun _ _ _ x => x⟩ _ hi h, rfl, .inr hi⟩
  · split at e
    · cases e
    · rename_i hn
      cases e
      exact ⟨h, rfl, .inl hn⟩
theorem startV_get {N : List Str} {vs : List V} {i : Nat} (h : i < vs.length) : (L2.start N vs)[i]? = some (some vs[i]) := by
  unfold L2.start
  rw [List.getElem?_append_left (by rw [List.length_map]; exact h), List.getElem?_map, List.getElem?_eq_getElem h]; rfl
section
variable {P : Program} {w : World} {K : PySem.W.Frag} {mg : Str → Option Value} {base : Heap}
theorem fun_okN {x qual : Str} {st : Stmt} {f : Addr} {fd : FuncData} {N ps : List Str} {k : Nat} {sp : Sp} (F : Fun K x qual st f fd) (S : FnScope N ps (defScope st)) (len : ∀ vs H Q E, sp vs H Q E → vs.length = ps.length)
    (hb : ∀ (cdv : Value) (A : Around) (outer : List Env) (s : Shared) (H : Hp) (vs : List V) (Q : VK) (E : XK), Room k (A.deeper (PyProof.Rows.envOfC qual (defScope st) s.heap.objs.size f cdv)) → sp vs H Q E →
      ∃ t, PSs (cxOf (L2N.CX P w) P w K mg base N qual (defScope st) f cdv A outer s H E) (defBody st) t ∧ t { nx := fun _ H' => Q .non H', rt := Q } (start N vs) H) : FnOk P w K mg base (L2N.CX P w) (k + 1) f fd ps sp := by
  obtain ⟨oc, od, kV, doc, pm, an, cdv, ct, osl, e1, lk, hcd⟩ := F.ex
  subst e1
  exact fn_of lk hcd S len fun A outer s H vs Q E hr hsp => hb cdv A outer s H vs Q E hr hsp
/-- a def of the text is its function on data -/
theorem fn_ok {x qual : Str} {st : Stmt} {f : Addr} {fd : FuncData} {N ps : List Str} {k n : Nat} {mj : List Nat} {body : Rho → SR} (F : Fun K x qual st f fd) (S : FnScope N ps (defScope st)) (hn : ps.length = n) (hm : ∀ j ∈ mj, j < n)
    (hb : ∀ (cdv : Value) (A : Around) (outer : List Env) (s : Shared) (H : Hp) (E : XK), Room k (A.deeper (PyProof.Rows.envOfC qual (defScope st) s.heap.objs.size f cdv)) →
      ∃ T, DSs (cxOf (L2N.CX P w) P w K mg base N qual (defScope st) f cdv A outer s H E) (fun cls d _ H => E cls d H) mj T (defBody st) body) :
    FnOk P w K mg base (L2N.CX P w) (k + 1) f fd ps (spD K mg n mj (dFun N.length n body)) := by
  refine fun_okN F S (fun vs H Q E h => h.1.trans hn.symm) fun cdv A outer s H vs Q E hr h => ?_
  obtain ⟨hl, w0, ps0, s0, g⟩ := h
  obtain ⟨T, hbT⟩ := hb cdv A outer s H E hr
  obtain ⟨t, pt, B⟩ := hbT.ex
  have hnN : n ≤ N.length := by
    have := congrArg List.length S.pre
    rw [List.length_take] at this
    omega
  refine ⟨t, pt, B (N.length + 1) w0 H (L2.start N vs) (ps0 ++ List.replicate (N.length - n) none) _ (Nat.lt_succ_self _) ?_ ?_⟩
  · refine ⟨?_, ?_, s0.dom.sub (by omega), fun i c e => ?_⟩
    · show (L2.start N vs).length = N.length
      unfold L2.start
      rw [List.length_append, List.length_map, List.length_replicate]; omega
    · show (ps0 ++ List.replicate (N.length - n) none).length = N.length
      rw [List.length_append, s0.lr, List.length_replicate]; omega
    · by_cases hi : i < n
      · rw [List.getElem?_append_left (by rw [s0.lr]; exact hi)] at e
        obtain ⟨v, h1, h2⟩ := s0.slot i c e
        refine ⟨v, ?_, h2⟩
        rw [startV_get (by omega)]
        rw [List.getElem?_map, List.getElem?_eq_getElem (by omega)] at h1
        exact congrArg some (Option.some.inj h1)
      · rw [List.getElem?_append_right (by rw [s0.lr]; omega), List.getElem?_replicate] at e
        split at e
        · cases e
        · cases e
  · unfold dFun at g
    have back : ∀ {w' : Om} {H' : Hp} {σ' : St} {e' : Rho} {r' : Nat}, Sat K N.length r' w' H' σ' e' → Fx mj (L2.start N vs) σ' → Backs K mj (bindO w' (endF (N.length + 1) n mj)) H' vs (e'.take n) := fun {w' H' σ' e' r'} s' fx j hj c ec => by
      have hjn := hm j hj
      have ec' : e'[j]? = some (some c) := by
        rw [List.getElem?_take] at ec
        rw [if_pos hjn] at ec
        exact ec
      obtain ⟨v, h1, h2⟩ := s'.slot j c ec'
      rw [fx j hj, startV_get (by omega)] at h1
      refine ⟨vs[j]'(by omega), List.getElem?_eq_getElem (by omega), ?_⟩
      have e3 : vs[j]'(by omega) = v := Option.some.inj (Option.some.inj h1)
      rw [e3]
      exact Rp.move (fun p => .inr ⟨p, endF_0⟩) (fun p => endF_m hj (by omega)) h2
    have st0 : ∀ {w' : Om} {H' : Hp}, Stp (kpE T (N.length + 1)) w0 H w' H' → Stp (fun k => k = 0) w0 H w' H' := fun z => z.mono fun k hk => by rw [hk]; exact kpE.zero (Nat.succ_pos _)
    cases e1 : body (ps0 ++ List.replicate (N.length - n) none) with
    | stuck => rw [e1] at g; exact g
    | bk e' => rw [e1] at g; exact g.elim
    | ct e' => rw [e1] at g; exact g.elim
    | nx e' =>
      rw [e1] at g
      intro w' H' σ' s' st fx
      exact g _ H' .non (end_dom s'.dom hm) rfl (back s' fx) ((st0 st).trans end_stp)
    | rt c e' =>
      rw [e1] at g
      intro w' H' σ' v s' h st fx
      have g : GoodF K mg n mj w0 H vs Q E (match retCel c with | some c => .ok c (e'.take n) | none => .stuck) := g
      cases e2 : retCel c with
      | none => rw [e2] at g; exact g.elim
      | some c' =>
        rw [e2] at g
        obtain ⟨h1, h2, h3⟩ := retCel_ok e2 h
        exact g _ H' v (end_dom s'.dom hm) (Rp.moveN h3 (fun p => endF_r (by omega)) h1) (back s' fx) ((st0 st).trans end_stp)
    | exc x e' =>
      rw [e1] at g
      intro w' H' σ' cls da s' xo st fx
      refine g _ H' cls da (end_dom s'.dom hm) ⟨xo.1, fun z => ?_, xo.2.2⟩ (back s' fx) ((st0 st).trans end_stp)
      obtain ⟨dd, ws, ed, hd, hf⟩ := xo.2.1 z
      exact ⟨dd, ws, ed, hd, hf.stp (kp := fun k => k = 0) s'.dom end_stp rfl⟩
/-- a def that may be called by its name -/
structure FnD (P : Program) (w : World) (K : PySem.W.Frag) (mg : Str → Option Value) (base : Heap) (x : Str) (k n : Nat) (mj : List Nat) (F : Rho → Res Cel) : Prop where
  ex : ∃ (f : Addr) (fd : FuncData) (ps : List Str), mg x = some (.ref f) ∧ PySem.W.keepIn K (.ref f) = true ∧ Binds K fd ps [] ∧ ps.length = n ∧ FnOk P w K mg base (L2N.CX P w) k f fd ps (spD K mg n mj F)
  nl : ∀ ps c ps', F ps = .ok c ps' → (c.1 ≠ .lent ∨ imm c.2 = true)
theorem FnD.mono {P : Program} {w : World} {K : PySem.W.Frag} {mg : Str → Option Value} {base : Heap} {x : Str} {j k n : Nat} {mj : List Nat} {F : Rho → Res Cel} (h : FnD P w K mg base x j n mj F) (hk : j ≤ k) : FnD P w K mg base x k n mj F :=
  ⟨let ⟨f, fd, ps, h1, h2, h3, h4, h5⟩ := h.ex; ⟨f, fd, ps, h1, h2, h3, h4, h5.mono hk⟩, h.nl⟩
theorem dFun_nl {N n : Nat} {body : Rho → SR} (ps : Rho) (c : Cel) (ps' : Rho) (h : dFun N n body ps = .ok c ps') : c.1 ≠ .lent ∨ imm c.2 = true := by
  unfold dFun at h
  split at h
  · cases h; exact .inr rfl
  · split at h
    · rename_i e
      cases h
      unfold retCel at e
      split at e
      · cases e; exact .inr (by assumption)
      · split at e
        · cases e
        · rename_i hn; cases e; exact .inl hn
    · cases h
  · cases h
  · cases h
theorem fnD_of {P : Program} {w : World} {K : PySem.W.Frag} {mg : Str → Option Value} {base : Heap} {x : Str} {st : Stmt} {f : Addr} {fd : FuncData} {N ps : List Str} {k n : Nat} {mj : List Nat} {body : Rho → SR} (F : Fun K x x st f fd) (hmg : mg x = some (.ref f)) (S : FnScope N ps (defScope st)) (hn : ps.length = n) (hm : ∀ j ∈ mj, j < n) (b : Binds K fd ps [])
    (hb : ∀ (cdv : Value) (A : Around) (outer : List Env) (s : Shared) (H : Hp) (E : XK), Room k (A.deeper (PyProof.Rows.envOfC x (defScope st) s.heap.objs.size f cdv)) →
      ∃ T, DSs (cxOf (L2N.CX P w) P w K mg base N x (defScope st) f cdv A outer s H E) (fun cls d _ H => E cls d H) mj T (defBody st) body) :
    FnD P w K mg base x (k + 1) n mj (dFun N.length n body) :=
  ⟨⟨f, fd, ps, hmg, F.kp, b, hn, fn_ok F S hn hm hb⟩, dFun_nl⟩
theorem own_cx {P : Program} {w : World} {K : PySem.W.Frag} {mg : Str → Option Value} {base : Heap} {N : List Str} {qual : Str} {sc : Scope} {f : Addr} {cdv : Value} {A : Around} {outer : List Env} {s : Shared} {H : Hp} {E : XK} :
    PassesOwn (model (cxOf (L2N.CX P w) P w K mg base N qual sc f cdv A outer s H E).prog (cxOf (L2N.CX P w) P w K mg base N qual sc f cdv A outer s H E).w) (cxOf (L2N.CX P w) P w K mg base N qual sc f cdv A outer s H E).A (cxOf (L2N.CX P w) P w K mg base N qual sc f cdv A outer s H E).env (cxOf (L2N.CX P w) P w K mg base N qual sc f cdv A outer s H E).xe := passes_of rfl
theorem tk_cx {P : Program} {w : World} {K : PySem.W.Frag} {mg : Str → Option Value} {base : Heap} {N : List Str} {qual : Str} {sc : Scope} {f : Addr} {cdv : Value} {A : Around} {outer : List Env} {s : Shared} {H : Hp} {E : XK} :
    L2N.Takes (cxOf (L2N.CX P w) P w K mg base N qual sc f cdv A outer s H E) (fun cls d _ H => E cls d H) := L2N.takes_of rfl rfl rfl rfl
theorem hu65 {A : Around} {k : Nat} (hr : Room k A) : A.units + 65 < cLine := by have := hr.un; omega
end
end DL

/-! DL part 16: a call of a def. -/
namespace DL
open PySem L2
/-- how an argument is handed over: as it is (a temporary), lent, to be changed -/
inductive Pk where
  | keep
  | lend
  | chg
def mutIx : List Src → List Pk → Nat → Option Nat
  | S :: Ss, q :: qs, i => match S, q with
    | .slot i', .chg => if i = i' then some 0 else (mutIx Ss qs i).map (· + 1)
    | _, _ => (mutIx Ss qs i).map (· + 1)
  | _, _, _ => none
def mutSlot : List Src → List Pk → Nat → Option Nat
  | S :: _, q :: _, 0 => match S, q with
    | .slot i, .chg => some i
    | _, _ => none
  | _ :: Ss, _ :: qs, j + 1 => mutSlot Ss qs j
  | _, _, _ => none
def keepAtJ : List Pk → Nat → Bool
  | .keep :: _, 0 => true
  | _ :: qs, j + 1 => keepAtJ qs j
  | _, _ => false
/-- one argument's look -/
def argOk (Ss : List Src) (ks : List Pk) (j : Nat) : Src → Pk → Bool
  | .tmp, .keep => true
  | .tmp, .lend => true
  | .slot i, .chg => mutIx Ss ks i == some j
  | .slot i, .lend => mutIx Ss ks i == none
  | .path i, .lend => mutIx Ss ks i == none
  | _, _ => false
def argsOk (Ss0 : List Src) (ks0 : List Pk) : Nat → List Src → List Pk → Bool
  | _, [], [] => true
  | j, S :: Ss, q :: qs => argOk Ss0 ks0 j S q && argsOk Ss0 ks0 (j + 1) Ss qs
  | _, _, _ => false
def lendC (c : Cel) : Cel := if imm c.2 = true then (.own 0, c.2) else match c.1 with
  | .own 0 => c
  | _ => (.lent, c.2)
def passC : Pk → Cel → Cel
  | .lend, c => lendC c
  | _, c => c
theorem Mp.bind0 {K : PySem.W.Frag} {w : Om} {H : Hp} {f : Tag → Option Tag} : Mp K w H (bindO w f) H (fun md _ md' _ => md = .own 0 ∧ md' = .own 0) where
  tup := fun _ _ h => h
  fz := fun _ _ _ h => h
  ix := fun {md t md' t'} i h => h
  sub := fun {md t md' t'} h => by
    obtain ⟨rfl, rfl⟩ := h
    exact ⟨rfl, rfl⟩
  nd := fun {md t md' t'} a o h m n ob => by
    obtain ⟨rfl, rfl⟩ := h
    exact ⟨bindO_none n, ob⟩
theorem Rp.bind0 {K : PySem.W.Frag} {w : Om} {H : Hp} {f : Tag → Option Tag} {d : D} {t t' : Tag} {v : V} (h : Rp K w H (.own 0) t d v) : Rp K (bindO w f) H (.own 0) t' d v := by
  exact Rp.map Mp.bind0 d ⟨rfl, rfl⟩ h
theorem lendC_ok {K : PySem.W.Frag} {w : Om} {H : Hp} {f : Tag → Option Tag} {c : Cel} {t t' : Tag} {v : V} (hl : ∀ p, f (0 :: p) = none ∨ ∃ q, f (0 :: p) = some (0 :: q)) (hf : ∀ p, f (t ++ p) = none ∨ ∃ q, f (t ++ p) = some (0 :: q)) (h : Rp K w H c.1 t c.2 v) : Rp K (bindO w f) H (lendC c).1 t' (lendC c).2 v := by
  unfold lendC
  split
  · rename_i hi
    exact Rp.imm ⟨fun _ _ x => x, fun _ _ _ x => x⟩ _ hi h
  · split
    · rename_i e
      rw [e] at h ⊢
      exact Rp.bind0 h
    · exact Rp.lend hl hf h
def passAll : List Pk → List Cel → Rho
  | q :: qs, c :: cs => some (passC q c) :: passAll qs cs
  | _, _ => []
/-- the changed arguments come back -/
def wb : List Src → List Pk → Rho → Rho → Option Rho
  | S :: Ss, q :: qs, x :: ps, ρ => match S, q with
    | .slot i, .chg => (match x with
      | some c => (match retCel c with
        | some _ => wb Ss qs ps (ρ.set i (some c))
        | none => none)
      | none => none)
    | _, _ => wb Ss qs ps ρ
  | _ :: _, _ :: _, [], _ => none
  | _, _, _, ρ => some ρ
def mutList : List Src → List Pk → List Nat
  | S :: Ss, q :: qs => match S, q with
    | .slot i, .chg => i :: mutList Ss qs
    | _, _ => mutList Ss qs
  | _, _ => []
/-- the parameters that are changed -/
def mutPars : Nat → List Pk → List Nat
  | _, [] => []
  | j, .chg :: qs => j :: mutPars (j + 1) qs
  | j, _ :: qs => mutPars (j + 1) qs
def inF (r : Nat) (Ss : List Src) (ks : List Pk) : Tag → Option Tag
  | [] => none
  | k :: p => if r ≤ k then (if keepAtJ ks (k - r) = true then some ((k - r + 1) :: p) else some (0 :: k :: p)) else if k = 0 then some (0 :: k :: p) else match mutIx Ss ks (k - 1) with
    | some j => some ((j + 1) :: p)
    | none => some (0 :: k :: p)
def outF (r n : Nat) (Ss : List Src) (ks : List Pk) : Tag → Option Tag
  | [] => none
  | [0] => none
  | 0 :: k :: p => some (k :: p)
  | (j + 1) :: p => if j = n then some (r :: p) else match mutSlot Ss ks j with
    | some i => some ((i + 1) :: p)
    | none => none
section
variable {r n N : Nat} {Ss Ss0 : List Src} {ks ks0 : List Pk}
theorem mutIx_slot : ∀ {Ss : List Src} {ks : List Pk} {i j : Nat}, mutIx Ss ks i = some j → mutSlot Ss ks j = some i
  | S :: Ss, q :: qs, i, j, h => by
    have gen : (mutIx Ss qs i).map (· + 1) = some j → mutSlot (S :: Ss) (q :: qs) j = some i := fun h => by
      cases e : mutIx Ss qs i with
      | none => rw [e] at h; cases h
      | some j' =>
        rw [e] at h
        cases h
        have q := mutIx_slot e
        exact q
    cases S with
    | slot i' =>
      cases q with
      | chg =>
        have h : (if i = i' then some 0 else (mutIx Ss qs i).map (· + 1)) = some j := h
        by_cases z : i = i'
        · rw [if_pos z] at h; cases h; subst z; rfl
        · rw [if_neg z] at h; exact gen h
      | keep => exact gen h
      | lend => exact gen h
    | tmp => exact gen h
    | path i' => exact gen h
  | [], _, _, _, h => by cases h
  | _ :: _, [], _, _, h => by cases h
theorem mutSlot_mem : ∀ {Ss : List Src} {ks : List Pk} {i j : Nat}, mutSlot Ss ks j = some i → i ∈ mutList Ss ks
  | S :: Ss, q :: qs, i, 0, h => by
    cases S <;> cases q <;> first | (cases h; done) | skip
    cases h
    exact List.mem_cons_self
  | S :: Ss, q :: qs, i, j + 1, h => by
    have := mutSlot_mem (Ss := Ss) (ks := qs) h
    cases S <;> cases q <;> first | exact this | exact List.mem_cons_of_mem _ this
  | [], _, _, _, h => by cases h
  | _ :: _, [], _, _, h => by cases h
theorem inF_low {k : Nat} {p : Tag} (hk : k < r) (hm : ∀ i ∈ mutList Ss ks, k ≠ i + 1) : inF r Ss ks (k :: p) = some (0 :: k :: p) := by
  show (if r ≤ k then _ else if k = 0 then _ else _) = _
  rw [if_neg (by omega)]
  by_cases z : k = 0
  · rw [if_pos z]
  · rw [if_neg z]
    cases e : mutIx Ss ks (k - 1) with
    | none => rfl
    | some j => exact (hm _ (mutSlot_mem (mutIx_slot e)) (by omega)).elim
theorem inF_cases {t t' : Tag} (e : inF r Ss ks t = some t') : (∃ k p, t = k :: p ∧ t' = 0 :: t) ∨ ∃ j p, t' = (j + 1) :: p := by
  cases t with
  | nil => cases e
  | cons k p =>
    have e : (if r ≤ k then (if keepAtJ ks (k - r) = true then some ((k - r + 1) :: p) else some (0 :: k :: p)) else if k = 0 then some (0 :: k :: p) else match mutIx Ss ks (k - 1) with
      | some j => some ((j + 1) :: p)
      | none => some (0 :: k :: p)) = some t' := e
    split at e
    · split at e
      · cases e; exact .inr ⟨_, _, rfl⟩
      · cases e; exact .inl ⟨_, _, rfl, rfl⟩
    · split at e
      · cases e; exact .inl ⟨_, _, rfl, rfl⟩
      · split at e
        · cases e; exact .inr ⟨_, _, rfl⟩
        · cases e; exact .inl ⟨_, _, rfl, rfl⟩
theorem keepAtJ_lt : ∀ {ks : List Pk} {j : Nat}, keepAtJ ks j = true → j < ks.length
  | q :: qs, 0, _ => Nat.succ_pos _
  | q :: qs, j + 1, h => by
    have : keepAtJ qs j = true := by cases q <;> exact h
    have := keepAtJ_lt this
    rw [List.length_cons]; omega
  | [], _, h => by cases h
theorem mutSlot_lt : ∀ {Ss : List Src} {ks : List Pk} {i j : Nat}, mutSlot Ss ks j = some i → j < ks.length
  | S :: Ss, q :: qs, i, 0, _ => Nat.succ_pos _
  | S :: Ss, q :: qs, i, j + 1, h => by
    have := mutSlot_lt (Ss := Ss) (ks := qs) h
    rw [List.length_cons]; omega
  | [], _, _, _, h => by cases h
  | _ :: _, [], _, _, h => by cases h
theorem inF_root {t t' : Tag} (hn : ks.length = n) (e : inF r Ss ks t = some t') : ∃ k p, t' = k :: p ∧ k < n + 1 := by
  cases t with
  | nil => cases e
  | cons k p =>
    have e : (if r ≤ k then (if keepAtJ ks (k - r) = true then some ((k - r + 1) :: p) else some (0 :: k :: p)) else if k = 0 then some (0 :: k :: p) else match mutIx Ss ks (k - 1) with
      | some j => some ((j + 1) :: p)
      | none => some (0 :: k :: p)) = some t' := e
    split at e
    · split at e
      · rename_i h
        have := keepAtJ_lt h
        cases e; exact ⟨_, _, rfl, by omega⟩
      · cases e; exact ⟨_, _, rfl, by omega⟩
    · split at e
      · cases e; exact ⟨_, _, rfl, by omega⟩
      · split at e
        · rename_i j h
          have := mutSlot_lt (mutIx_slot h)
          cases e; exact ⟨_, _, rfl, by omega⟩
        · cases e; exact ⟨_, _, rfl, by omega⟩
theorem outF_cases {t t' : Tag} (e : outF r n Ss ks t = some t') : (∃ k p, t = 0 :: k :: p ∧ t' = k :: p) ∨ (∃ p, t = (n + 1) :: p ∧ t' = r :: p) ∨ ∃ j i p, mutSlot Ss ks j = some i ∧ t = (j + 1) :: p ∧ t' = (i + 1) :: p := by
  match t, e with
  | 0 :: k :: p, e => cases e; exact .inl ⟨_, _, rfl, rfl⟩
  | (j + 1) :: p, e =>
    have e : (if j = n then some (r :: p) else match mutSlot Ss ks j with | some i => some ((i + 1) :: p) | none => none) = some t' := e
    split at e
    · rename_i h
      cases e; subst h; exact .inr (.inl ⟨_, rfl, rfl⟩)
    · split at e
      · rename_i i h
        cases e; exact .inr (.inr ⟨_, _, _, h, rfl, rfl⟩)
      · cases e
theorem outF_r {p : Tag} : outF r n Ss ks ((n + 1) :: p) = some (r :: p) := by
  show (if n = n then _ else _) = _
  rw [if_pos rfl]
theorem outF_m {j i : Nat} {p : Tag} (h : mutSlot Ss ks j = some i) (hn : ks.length = n) : outF r n Ss ks ((j + 1) :: p) = some ((i + 1) :: p) := by
  have := mutSlot_lt h
  show (if j = n then _ else match mutSlot Ss ks j with | some i => some ((i + 1) :: p) | none => none) = _
  rw [if_neg (by omega), h]
/-- the whole call as a step of the caller's -/
theorem call_stp {T : List Nat} {w w2 : Om} {H H2 : Hp} (hT : ∀ i ∈ mutList Ss ks, i ∈ T) (st : Stp (fun k => k = 0) (bindO w (inF r Ss ks)) H w2 H2) : Stp (kpE T r) w H (bindO w2 (outF r n Ss ks)) H2 where
  sh := fun a o e h => by
    have q := st.sh a o (bindO_none e) h
    exact ⟨q.1, bindO_none q.2⟩
  own := fun a k p o e hk h => by
    have e1 : bindO w (inF r Ss ks) a = some (0 :: k :: p) := (bindO_some e).trans (inF_low hk.1 fun i hi => hk.2 i (hT i hi))
    have q := st.own a 0 (k :: p) o e1 rfl h
    exact ⟨q.1, (bindO_some q.2).trans rfl⟩
  back := fun a k p e hk => by
    cases z : w2 a with
    | none => rw [bindO_none z] at e; cases e
    | some t =>
      rw [bindO_some z] at e
      rcases outF_cases e with ⟨k', p', e1, e2⟩ | ⟨p', e1, e2⟩ | ⟨j, i, p', hj, e1, e2⟩
      · cases e2
        subst e1
        have q := st.back a 0 (k :: p) z rfl
        cases y : w a with
        | none => rw [bindO_none y] at q; cases q
        | some t =>
          rw [bindO_some y] at q
          rcases inF_cases q with ⟨k2, p2, e3, e4⟩ | ⟨j, p2, e3⟩
          · cases e4; rfl
          · cases e3
      · cases e2; exact absurd hk.1 (Nat.lt_irrefl _)
      · cases e2
        exact (hk.2 i (hT i (mutSlot_mem hj)) rfl).elim
theorem call_dom {w2 w : Om} {H2 H : Hp} {r' : Nat} (d2 : Dom w2 H2 (n + 2)) (d : Dom w H r') (st : Stp (fun k => k = 0) (bindO w (inF r Ss ks)) H w2 H2) (hm : ∀ i ∈ mutList Ss ks, i + 1 < r) (hr : r ≤ r') : Dom (bindO w2 (outF r n Ss ks)) H2 (r' + 1) := fun a t e => by
    cases z : w2 a with
    | none => rw [bindO_none z] at e; cases e
    | some t2 =>
      rw [bindO_some z] at e
      refine ⟨(d2 a t2 z).1, ?_⟩
      rcases outF_cases e with ⟨k', p', e1, e2⟩ | ⟨p', e1, e2⟩ | ⟨j, i, p', hj, e1, e2⟩
      · subst e1
        have q := st.back a 0 (k' :: p') z rfl
        cases y : w a with
        | none => rw [bindO_none y] at q; cases q
        | some t =>
          rw [bindO_some y] at q
          rcases inF_cases q with ⟨k2, p2, e3, e4⟩ | ⟨j, p2, e3⟩
          · cases e4
            obtain ⟨_, k3, p3, e5, l⟩ := d a _ y
            cases e5
            exact ⟨k', p', e2, by omega⟩
          · cases e3
      · exact ⟨r, p', e2, by omega⟩
      · have := hm i (mutSlot_mem hj)
        exact ⟨i + 1, p', e2, by omega⟩
/-- the arguments in the callee's eyes -/
theorem pass_slots {K : PySem.W.Frag} {w : Om} {H : Hp} {σ : St} {Ss0 : List Src} {ks0 : List Pk} (hr : N < r) (hl : ks0.length = n) :
    ∀ {Ss : List Src} {ks : List Pk} {cs : List Cel} {vs : List V} {j : Nat}, (∀ m, keepAtJ ks0 (j + m) = keepAtJ ks m) → (∀ i, (∃ m : Nat, Ss[m]? = some (Src.slot i) ∨ Ss[m]? = some (Src.path i)) → i < N) →
      argsOk Ss0 ks0 j Ss ks = true → ArgsOk K w H σ (r + j) Ss cs vs →
      ∀ (m : Nat) (c : Cel), (passAll ks cs)[m]? = some (some c) → ∃ v, vs[m]? = some v ∧ Rp K (bindO w (inF r Ss0 ks0)) H c.1 [j + m + 1] c.2 v
  | [], [], [], [], _, _, _, _, _, m, c, e => by
    have e : ([] : Rho)[m]? = some (some c) := e
    simp at e
  | S :: Ss, q :: ks, c0 :: cs, v0 :: vs, j, hkj, hsl, ha, ⟨⟨t, ot, h⟩, rest⟩, 0, c, e => by
    have ha : (argOk Ss0 ks0 j S q && argsOk Ss0 ks0 (j + 1) Ss ks) = true := ha
    rw [Bool.and_eq_true] at ha
    have e : some (passC q c0) = some c := by simpa [passAll] using e
    cases e
    refine ⟨v0, rfl, ?_⟩
    have hl0 : ∀ p, inF r Ss0 ks0 (0 :: p) = some (0 :: 0 :: p) := fun p => by
      show (if r ≤ 0 then _ else if (0 : Nat) = 0 then some (0 :: 0 :: p) else _) = _
      rw [if_neg (by omega), if_pos rfl]
    have hlend : ∀ p, inF r Ss0 ks0 (0 :: p) = none ∨ ∃ q, inF r Ss0 ks0 (0 :: p) = some (0 :: q) := fun p => .inr ⟨_, hl0 p⟩
    rw [Nat.add_zero]
    cases S with
    | tmp =>
      have ot : t = [r + j] := ot
      subst ot
      cases q with
      | keep =>
        refine Rp.move hlend (fun p => ?_) h
        show (if r ≤ r + j then (if keepAtJ ks0 (r + j - r) = true then some ((r + j - r + 1) :: p) else _) else _) = _
        rw [if_pos (Nat.le_add_right _ _), show r + j - r = j by omega, if_pos (by have := hkj 0; rw [Nat.add_zero] at this; rw [this]; rfl)]; rfl
      | lend =>
        refine lendC_ok hlend (fun p => .inr ⟨(r + j) :: p, ?_⟩) h
        show (if r ≤ r + j then (if keepAtJ ks0 (r + j - r) = true then some ((r + j - r + 1) :: p) else some (0 :: (r + j) :: p)) else _) = _
        rw [if_pos (Nat.le_add_right _ _), show r + j - r = j by omega, if_neg (by have := hkj 0; rw [Nat.add_zero] at this; rw [this]; exact Bool.false_ne_true)]
      | chg => exact absurd ha.1 Bool.false_ne_true
    | slot i =>
      have hi : i < N := hsl i ⟨0, .inl rfl⟩
      obtain ⟨ot, _⟩ : t = [i + 1] ∧ _ := ot
      subst ot
      cases q with
      | keep => exact absurd ha.1 Bool.false_ne_true
      | lend =>
        have hx : mutIx Ss0 ks0 i = none := by simpa [argOk] using ha.1
        refine lendC_ok hlend (fun p => .inr ⟨(i + 1) :: p, ?_⟩) h
        show (if r ≤ i + 1 then _ else if i + 1 = 0 then _ else match mutIx Ss0 ks0 (i + 1 - 1) with | some j => some ((j + 1) :: p) | none => some (0 :: (i + 1) :: p)) = _
        rw [if_neg (by omega), if_neg (by omega), show i + 1 - 1 = i by omega, hx]
      | chg =>
        have hx : mutIx Ss0 ks0 i = some j := by simpa [argOk] using ha.1
        refine Rp.move hlend (fun p => ?_) h
        show (if r ≤ i + 1 then _ else if i + 1 = 0 then _ else match mutIx Ss0 ks0 (i + 1 - 1) with | some j => some ((j + 1) :: p) | none => some (0 :: (i + 1) :: p)) = _
        rw [if_neg (by omega), if_neg (by omega), show i + 1 - 1 = i by omega, hx]; rfl
    | path i =>
      have hi : i < N := hsl i ⟨0, .inr rfl⟩
      obtain ⟨p0, ot⟩ : ∃ p, t = (i + 1) :: p := ot
      subst ot
      cases q with
      | keep => exact absurd ha.1 Bool.false_ne_true
      | chg => exact absurd ha.1 Bool.false_ne_true
      | lend =>
        have hx : mutIx Ss0 ks0 i = none := by simpa [argOk] using ha.1
        refine lendC_ok hlend (fun p => .inr ⟨(i + 1) :: (p0 ++ p), ?_⟩) h
        show (if r ≤ i + 1 then _ else if i + 1 = 0 then _ else match mutIx Ss0 ks0 (i + 1 - 1) with | some j => some ((j + 1) :: (p0 ++ p)) | none => some (0 :: (i + 1) :: (p0 ++ p))) = _
        rw [if_neg (by omega), if_neg (by omega), show i + 1 - 1 = i by omega, hx]
  | S :: Ss, q :: ks, c0 :: cs, v0 :: vs, j, hkj, hsl, ha, ⟨_, rest⟩, m + 1, c, e => by
    have ha : (argOk Ss0 ks0 j S q && argsOk Ss0 ks0 (j + 1) Ss ks) = true := ha
    rw [Bool.and_eq_true] at ha
    have := pass_slots (w := w) hr hl (j := j + 1) (Ss := Ss) (ks := ks) (cs := cs) (vs := vs) (fun m => by
      have := hkj (m + 1)
      rw [show j + 1 + m = j + (m + 1) by omega, this]
      cases q <;> rfl) (fun i ⟨m, hm⟩ => hsl i ⟨m + 1, by simpa using hm⟩) ha.2 (by rw [show r + (j + 1) = r + j + 1 by omega]; exact rest) m c (by simpa [passAll] using e)
    obtain ⟨v, h1, h2⟩ := this
    exact ⟨v, by simpa using h1, by rw [show j + (m + 1) + 1 = j + 1 + m + 1 by omega]; exact h2⟩
  | [], [], _ :: _, _, _, _, _, _, h, _, _, _ => h.elim
  | [], [], [], _ :: _, _, _, _, _, h, _, _, _ => h.elim
  | [], _ :: _, _, _, _, _, _, ha, _, _, _, _ => absurd ha Bool.false_ne_true
  | _ :: _, [], _, _, _, _, _, ha, _, _, _, _ => absurd ha Bool.false_ne_true
  | _ :: _, _ :: _, [], _, _, _, _, _, h, _, _, _ => h.elim
  | _ :: _, _ :: _, _ :: _, [], _, _, _, _, h, _, _, _ => h.elim
theorem passAll_len : ∀ {ks : List Pk} {cs : List Cel}, ks.length = cs.length → (passAll ks cs).length = ks.length
  | [], [], _ => rfl
  | q :: ks, c :: cs, h => by
    have h : ks.length + 1 = cs.length + 1 := h
    show (passAll ks cs).length + 1 = ks.length + 1
    rw [passAll_len (Nat.succ.inj h)]
  | [], _ :: _, h => by cases h
  | _ :: _, [], h => by cases h
/-- the slots behind the call -/
theorem wb_sat {K : PySem.W.Frag} {w3 : Om} {H2 : Hp} {σ : St} {Ss0 : List Src} {ks0 : List Pk}{ps0 : Rho} (hback : ∀ j i c, mutSlot Ss0 ks0 j = some i → ps0[j]? = some (some c) → (c.1 ≠ .lent ∨ imm c.2 = true) → ∃ v, σ[i]? = some (some v) ∧ Rp K w3 H2 c.1 [i + 1] c.2 v) :
    ∀ {Ss : List Src} {ks : List Pk} {ps ρ ρ' : Rho} {j : Nat}, (∀ m i, mutSlot Ss ks m = some i → mutSlot Ss0 ks0 (j + m) = some i) → (∀ m, ps[m]? = ps0[j + m]?) → wb Ss ks ps ρ = some ρ' →
      ρ'.length = ρ.length ∧ ∀ (i : Nat) (c : Cel), ρ'[i]? = some (some c) → (∃ v, σ[i]? = some (some v) ∧ Rp K w3 H2 c.1 [i + 1] c.2 v) ∨ (ρ[i]? = some (some c) ∧ i ∉ mutList Ss ks)
  | S :: Ss, q :: ks, x :: ps, ρ, ρ', j, hm, hp, e => by
    have hm' : ∀ m i, mutSlot Ss ks m = some i → mutSlot Ss0 ks0 (j + 1 + m) = some i := fun m i h => by
      have := hm (m + 1) i h
      rw [show j + 1 + m = j + (m + 1) by omega]; exact this
    have hp' : ∀ m, ps[m]? = ps0[j + 1 + m]? := fun m => by
      have := hp (m + 1)
      rw [show j + 1 + m = j + (m + 1) by omega, ← this]; rfl
    have go : mutList (S :: Ss) (q :: ks) = mutList Ss ks → wb Ss ks ps ρ = some ρ' → ρ'.length = ρ.length ∧ ∀ (i : Nat) (c : Cel), ρ'[i]? = some (some c) → (∃ v, σ[i]? = some (some v) ∧ Rp K w3 H2 c.1 [i + 1] c.2 v) ∨ (ρ[i]? = some (some c) ∧ i ∉ mutList (S :: Ss) (q :: ks)) := fun el e => by
      rw [el]
      exact wb_sat hback (j := j + 1) hm' hp' e
    cases S with
    | slot i0 =>
      cases q with
      | chg =>
        cases x with
        | none => cases e
        | some c0 =>
          have e : (match retCel c0 with | some _ => wb Ss ks ps (ρ.set i0 (some c0)) | none => none) = some ρ' := e
          cases e1 : retCel c0 with
          | none => rw [e1] at e; cases e
          | some c1 =>
            rw [e1] at e
            obtain ⟨l, h⟩ := wb_sat hback (j := j + 1) hm' hp' e
            refine ⟨by rw [l, List.length_set], fun i c ec => ?_⟩
            rcases h i c ec with h | ⟨h1, h2⟩
            · exact .inl h
            · by_cases z : i0 = i
              · subst z
                by_cases hl : i0 < ρ.length
                · rw [List.getElem?_set_self hl] at h1
                  cases h1
                  refine .inl (hback j i0 c0 (by have := hm 0 i0 rfl; rwa [Nat.add_zero] at this) (by have := hp 0; rw [Nat.add_zero] at this; rw [← this]; rfl) ?_)
                  unfold retCel at e1
                  split at e1
                  · rename_i hi; exact .inr hi
                  · split at e1
                    · cases e1
                    · rename_i hn; exact .inl hn
                · rw [List.getElem?_eq_none (by rw [List.length_set]; omega)] at h1; cases h1
              · rw [List.getElem?_set_ne z] at h1
                refine .inr ⟨h1, fun hmem => ?_⟩
                rcases List.mem_cons.mp hmem with q | q
                · exact z q.symm
                · exact h2 q
      | keep => exact go rfl e
      | lend => exact go rfl e
    | tmp => cases q <;> exact go rfl e
    | path i0 => cases q <;> exact go rfl e
  | [], _, _, ρ, ρ', _, _, _, e => by
    have e : some ρ = some ρ' := by cases e; rfl
    cases e
    exact ⟨rfl, fun i c h => .inr ⟨h, fun z => by cases z⟩⟩
  | _ :: _, [], _, ρ, ρ', _, _, _, e => by
    have e : some ρ = some ρ' := by cases e; rfl
    cases e
    exact ⟨rfl, fun i c h => .inr ⟨h, fun z => by cases z⟩⟩
  | S :: Ss, q :: ks, [], ρ, ρ', _, _, _, e => by
    cases e
theorem argsOk_len : ∀ {Ss : List Src} {ks : List Pk} {j : Nat}, argsOk Ss0 ks0 j Ss ks = true → Ss.length = ks.length
  | [], [], _, _ => rfl
  | S :: Ss, q :: qs, j, h => by
    have h : (argOk Ss0 ks0 j S q && argsOk Ss0 ks0 (j + 1) Ss qs) = true := h
    rw [Bool.and_eq_true] at h
    rw [List.length_cons, List.length_cons, argsOk_len h.2]
  | [], _ :: _, _, h => absurd h Bool.false_ne_true
  | _ :: _, [], _, h => absurd h Bool.false_ne_true
theorem mutSlot_par : ∀ {Ss : List Src} {ks : List Pk} {i j j0 : Nat}, mutSlot Ss ks j = some i → j0 + j ∈ mutPars j0 ks
  | S :: Ss, q :: qs, i, 0, j0, h => by
    cases S <;> cases q <;> first | (cases h; done) | exact List.mem_cons_self
  | S :: Ss, q :: qs, i, j + 1, j0, h => by
    have := mutSlot_par (Ss := Ss) (ks := qs) (j0 := j0 + 1) h
    rw [show j0 + 1 + j = j0 + (j + 1) by omega] at this
    cases q <;> first | exact this | exact List.mem_cons_of_mem _ this
  | [], _, _, _, _, h => by cases h
  | _ :: _, [], _, _, _, h => by cases h
theorem ArgsOk.slotAt {K : PySem.W.Frag} {w : Om} {H : Hp} {σ : St} : ∀ {r : Nat} {Ss : List Src} {ks : List Pk} {cs : List Cel} {vs : List V} {i j : Nat} {u : V}, ArgsOk K w H σ r Ss cs vs → mutSlot Ss ks j = some i → vs[j]? = some u → σ[i]? = some (some u)
  | r, S :: Ss, q :: ks, c :: cs, v :: vs, i, 0, u, ⟨⟨t, o, _⟩, _⟩, hm, e => by
    cases S <;> cases q <;> first | (cases hm; done) | skip
    cases hm
    cases (show some v = some u from e)
    exact o.2
  | r, S :: Ss, q :: ks, c :: cs, v :: vs, i, j + 1, u, ⟨_, a⟩, hm, e => ArgsOk.slotAt (ks := ks) a (show mutSlot Ss ks j = some i from hm) (by simpa using e)
  | _, [], _, _, _, _, _, _, _, hm, _ => by cases hm
  | _, _ :: _, [], _, _, _, _, _, _, hm, _ => by cases hm
  | _, _ :: _, _ :: _, [], _, _, _, _, h, _, _ => h.elim
  | _, _ :: _, _ :: _, _ :: _, [], _, _, _, h, _, _ => h.elim
end
def dCall (F : Rho → Res Cel) (Ss : List Src) (ks : List Pk) (fa : Rho → Res (List Cel)) : Rho → Res Cel := fun ρ => (fa ρ).bind fun cs ρ1 => match F (passAll ks cs) with
  | .stuck => .stuck
  | .ok c ps => (match wb Ss ks ps ρ1 with
    | some ρ2 => .ok c ρ2
    | none => .stuck)
  | .exc x ps => (match wb Ss ks ps ρ1 with
    | some ρ2 => .exc x ρ2
    | none => .stuck)
section
variable {X : Cx} {W : WX}
theorem call_core {T : List Nat} {Ss : List Src} {ks : List Pk} {n : Nat} {mj : List Nat} {F : Rho → Res Cel} {cs : List Cel} {vs : List V} {r : Nat} {w w1 : Om} {H H1 : Hp} {σ : St} {ρ1 : Rho} {Q : VK}
    (nl : ∀ ps c ps', F ps = .ok c ps' → (c.1 ≠ .lent ∨ imm c.2 = true)) (hr : X.N.length < r) (hks : ks.length = n) (hm : ∀ j ∈ mutPars 0 ks, j ∈ mj) (ha : argsOk Ss ks 0 Ss ks = true) (hS : ∀ i, (∃ m : Nat, Ss[m]? = some (Src.slot i) ∨ Ss[m]? = some (Src.path i)) → i < X.N.length) (hml : ∀ i ∈ mutList Ss ks, i < X.N.length)
    (s1 : Sat X.K X.N.length (r + Ss.length) w1 H1 σ ρ1) (a1 : ArgsOk X.K w1 H1 σ r Ss cs vs) (st1 : Stp (kpE T r) w H w1 H1)
    (gg : GoodE X W (T ++ mutList Ss ks) .tmp r w H σ Q (match F (passAll ks cs) with
      | .stuck => .stuck
      | .ok c ps => (match wb Ss ks ps ρ1 with
        | some ρ2 => .ok c ρ2
        | none => .stuck)
      | .exc x ps => (match wb Ss ks ps ρ1 with
        | some ρ2 => .exc x ρ2
        | none => .stuck))) : spD X.K X.mg n mj F vs H1 Q (WE W σ) := by
  have hl := argsOk_len ha
  obtain ⟨lc, lv⟩ := a1.len
  have hn : vs.length = n := by rw [lv, hl, hks]
  refine ⟨hn, bindO w1 (inF r Ss ks), passAll ks cs, ?_, ?_⟩
  · refine ⟨by rw [List.length_map]; exact hn, by rw [passAll_len (by rw [lc, hl])]; exact hks, fun a t e => ?_, fun i c e => ?_⟩
    · cases z : w1 a with
      | none => rw [bindO_none z] at e; cases e
      | some t1 =>
        rw [bindO_some z] at e
        exact ⟨(s1.dom a t1 z).1, inF_root hks e⟩
    · obtain ⟨v, h1, h2⟩ := pass_slots (N := X.N.length) (w := w1) (Ss0 := Ss) (ks0 := ks) hr hks (j := 0) (fun m => by rw [Nat.zero_add]) hS ha (by rw [Nat.add_zero]; exact a1) i c e
      refine ⟨v, ?_, by rw [Nat.zero_add] at h2; exact h2⟩
      rw [List.getElem?_map, h1]; rfl
  · have fin : ∀ (w2 : Om) (H2 : Hp) (ps' ρ2 : Rho), wb Ss ks ps' ρ1 = some ρ2 → Dom w2 H2 (n + 2) → Backs X.K mj w2 H2 vs ps' → Stp (fun k => k = 0) (bindO w1 (inF r Ss ks)) H1 w2 H2 →
        Sat X.K X.N.length (r + Ss.length + 1) (bindO w2 (outF r n Ss ks)) H2 σ ρ2 ∧ Stp (kpE (T ++ mutList Ss ks) r) w H (bindO w2 (outF r n Ss ks)) H2 := fun w2 H2 ps' ρ2 ew d2 back st2 => by
      have cst : Stp (kpE (mutList Ss ks) r) w1 H1 (bindO w2 (outF r n Ss ks)) H2 := call_stp (fun _ h => h) st2
      have hmr : ∀ i ∈ mutList Ss ks, i + 1 < r := fun i hi => by have := hml i hi; omega
      obtain ⟨lr, hw⟩ := wb_sat (K := X.K) (w3 := bindO w2 (outF r n Ss ks)) (H2 := H2) (σ := σ) (Ss0 := Ss) (ks0 := ks) (ps0 := ps') (fun j i c hj ec hc => by
        obtain ⟨u, h1, h2⟩ := back j (hm j (by have := mutSlot_par (j0 := 0) hj; rwa [Nat.zero_add] at this)) c ec
        exact ⟨u, a1.slotAt hj h1, Rp.moveN hc (fun p => outF_m hj hks) h2⟩) (j := 0) (fun m i h => by rw [Nat.zero_add]; exact h) (fun m => by rw [Nat.zero_add]) ew
      refine ⟨⟨s1.ls, lr.trans s1.lr, call_dom d2 s1.dom st2 hmr (Nat.le_add_right _ _), fun i c ec => ?_⟩, (st1.mono fun k h => h.l).trans (cst.mono fun k h => h.rt)⟩
      rcases hw i c ec with h | ⟨h1, h2⟩
      · exact h
      · obtain ⟨v, h3, h4⟩ := s1.slot i c h1
        have := s1.lt h1
        refine ⟨v, h3, h4.stp s1.dom cst (kpE.zero (by omega)) ⟨by omega, fun i' hi' z => h2 ?_⟩⟩
        rw [show i = i' by omega]; exact hi'
    cases e1 : F (passAll ks cs) with
    | stuck => rw [e1] at gg; exact gg
    | ok c ps' =>
      rw [e1] at gg
      have gg : GoodE X W (T ++ mutList Ss ks) .tmp r w H σ Q (match wb Ss ks ps' ρ1 with | some ρ2 => .ok c ρ2 | none => .stuck) := gg
      cases e2 : wb Ss ks ps' ρ1 with
      | none => rw [e2] at gg; exact gg.elim
      | some ρ2 =>
        rw [e2] at gg
        intro w2 H2 v d2 h2 back st2
        obtain ⟨s3, st3⟩ := fin w2 H2 ps' ρ2 e2 d2 back st2
        have ct : Stp (fun k => k < r + 1) (bindO w2 (outF r n Ss ks)) H2 (cutO (bindO w2 (outF r n Ss ks)) (r + 1)) H2 := Stp.cut fun _ h => h
        refine gg _ H2 v [r] (s3.cut (by omega)) rfl ?_ (st3.trans (ct.mono fun k h => Nat.lt_succ_of_lt h.1))
        exact (Rp.moveN (nl _ _ _ e1) (fun p => outF_r) h2 : Rp X.K (bindO w2 (outF r n Ss ks)) H2 c.1 [r] c.2 v).stp s3.dom ct (by omega) (Nat.lt_succ_self r)
    | exc x ps' =>
      rw [e1] at gg
      have gg : GoodE X W (T ++ mutList Ss ks) .tmp r w H σ Q (match wb Ss ks ps' ρ1 with | some ρ2 => .exc x ρ2 | none => .stuck) := gg
      cases e2 : wb Ss ks ps' ρ1 with
      | none => rw [e2] at gg; exact gg.elim
      | some ρ2 =>
        rw [e2] at gg
        intro w2 H2 cls da d2 xo back st2
        obtain ⟨s3, st3⟩ := fin w2 H2 ps' ρ2 e2 d2 back st2
        have ct : Stp (fun k => k < r) (bindO w2 (outF r n Ss ks)) H2 (cutO (bindO w2 (outF r n Ss ks)) r) H2 := Stp.cut fun _ h => h
        refine gg _ H2 cls da (s3.cut hr) ⟨xo.1, fun z => ?_, xo.2.2⟩ (st3.trans (ct.mono fun k h => h.1))
        obtain ⟨d, ws, ed, hd, hf⟩ := xo.2.1 z
        have hf' : RpF X.K (bindO w2 (outF r n Ss ks)) H2 (.own 0) [0] 0 x.fs ws := RpF.map Mp.bind0 x.fs ⟨rfl, rfl⟩ hf
        exact ⟨d, ws, ed, hd, hf'.stp s3.dom ct (by omega)⟩
theorem de_call {T : List Nat} {Ss : List Src} {x : Str} {p pos : Pos} {e : Expr} {es : List Expr} {fa : Rho → Res (List Cel)} {k n : Nat} {mj : List Nat} {F : Rho → Res Cel} (ks : List Pk) (FD : FnD X.prog X.w X.K X.mg X.base x k n mj F) (tk : L2N.Takes X W) (hr : Room k X.A) (hgl : Gl X x)
    (A : DA X W T Ss (e :: es) fa) (hks : ks.length = n := by rfl) (hm : ∀ j ∈ mutPars 0 ks, j ∈ mj := by decide) (ha : argsOk Ss ks 0 Ss ks = true := by rfl) (hS : ∀ S ∈ Ss, S.lt X.N.length := by exact lt_allS rfl) (hml : ∀ i ∈ mutList Ss ks, i < X.N.length := by exact lt_all rfl)
    (hdb : (x == ("__debug__" : Str)) = false := by decide) (he : starEach (e :: es) X.env = (false, eval e X.env) :: starEach es X.env := by rfl) (hpl : (backTo pos (starEach es X.env)).any (·.1) = false := by rfl) :
    DE X W (T ++ mutList Ss ks) .tmp (.Call (.Name x p) (e :: es) [] pos) (dCall F Ss ks fa) := by
  obtain ⟨f, fd, ps, hmg, hk, hb, hn, FO⟩ := FD.ex
  obtain ⟨ta, pa, A⟩ := A.ex
  refine ⟨_, pe_callS FO hr hgl hmg hk hb (fun σ => L2N.passAt tk σ) pa hdb he hpl, fun r w H σ ρ Q hr s gg => A r w H σ ρ _ hr s ?_⟩
  unfold dCall at gg
  cases e1 : fa ρ with
  | stuck => rw [e1] at gg; exact gg
  | exc x e' =>
    rw [e1] at gg
    intro w' H' cls da s' xo st
    exact gg w' H' cls da s' xo (st.mono fun k h => h.l)
  | ok cs ρ1 =>
    rw [e1] at gg
    intro w1 H1 vs s1 a1 st1
    refine call_core FD.nl hr hks hm ha (fun i ⟨m, h⟩ => ?_) hml s1 a1 st1 gg
    rcases h with h | h
    · exact hS _ (List.mem_of_getElem? h)
    · exact hS _ (List.mem_of_getElem? h)
end
end DL

/-! DL part 17: what one goes over: for and list comprehensions. -/
namespace DL
open PySem L2
/-- the root of a source -/
def Src.root (r : Nat) : Src → Nat
  | .tmp => r
  | .slot i => i + 1
  | .path i => i + 1
def rootsOf (r : Nat) (Ss : List Src) (k : Nat) : Prop := ∃ (j : Nat) (S : Src), Ss[j]? = some S ∧ k = S.root (r + j)
/-- a fact about owners and heap that any step keeps that keeps these roots -/
def Keeps (Z : Om → Hp → Prop) (ro : Nat → Prop) : Prop := ∀ kp r' w1 H1 w2 H2, Dom w1 H1 r' → Stp kp w1 H1 w2 H2 → kp 0 → (∀ k, ro k → kp k) → Z w1 H1 → Z w2 H2
structure Walk (K : PySem.W.Frag) (J : It) (Z : Om → Hp → Prop) (md : Md) (ds : List D) : Prop where
  go : ∀ i w H, i < ds.length → Z w H → J.go i H
  stop : ∀ w H, Z w H → J.stop ds.length H
  yld : ∀ i w H x H' r', i < ds.length → Dom w H r' → Z w H → J.yld i H x H' → ∃ w', Dom w' H' r' ∧ Stp (fun _ => True) w H w' H' ∧ ∃ d t', ds[i]? = some d ∧ Rp K w' H' md t' d x
def GoodI (X : Cx) (W : WX) (T : List Nat) (Ss : List Src) (r : Nat) (w : Om) (H : Hp) (σ : St) (R : It → Hp → Prop) : Res (Md × List D) → Prop
  | .stuck => False
  | .ok q e' => ∀ w' H' J Z, Sat X.K X.N.length (r + Ss.length) w' H' σ e' → Stp (kpE T r) w H w' H' → Z w' H' → Keeps Z (rootsOf r Ss) → Walk X.K J Z q.1 q.2 → R J H'
  | .exc x e' => ∀ w' H' cls da, Sat X.K X.N.length r w' H' σ e' → XOk X w' H' x cls da → Stp (kpE T r) w H w' H' → W cls da σ H'
structure DI (X : Cx) (W : WX) (T : List Nat) (Ss : List Src) (tg iter : Expr) (f : Rho → Res (Md × List D)) : Prop where
  lt : ∀ S ∈ Ss, S.lt X.N.length
  ex : ∃ wi : TI, PI X tg iter wi ∧ ∀ r w H σ ρ R, X.N.length < r → Sat X.K X.N.length r w H σ ρ → GoodI X W T Ss r w H σ R (f ρ) → wi σ H R
section
variable {X : Cx} {W : WX} {M : List Nat}
theorem roots_kept {Ss : List Src} {T : List Nat} {r : Nat} (hr : X.N.length < r) (lt : ∀ S ∈ Ss, S.lt X.N.length) (hT : ∀ i ∈ T, i < X.N.length) (off : Ss.all (·.off T) = true) : ∀ k, rootsOf r Ss k → kpE T (r + Ss.length) k := by
  rintro k ⟨j, S, e, rfl⟩
  have hS := List.mem_of_getElem? e
  have o := List.all_eq_true.mp off S hS
  have l := lt S hS
  have hj : j < Ss.length := (List.getElem?_eq_some_iff.mp e).1
  cases S with
  | tmp => exact ⟨by show r + j < _; omega, fun i hi z => by have := hT i hi; have z : r + j = i + 1 := z; omega⟩
  | slot i =>
    have l : i < X.N.length := l
    refine ⟨by show i + 1 < _; omega, fun j' hj' z => ?_⟩
    have z : i + 1 = j' + 1 := z
    have : i = j' := by omega
    subst this
    have o : (!T.contains i) = true := o
    simp [hj'] at o
  | path i =>
    have l : i < X.N.length := l
    refine ⟨by show i + 1 < _; omega, fun j' hj' z => ?_⟩
    have z : i + 1 = j' + 1 := z
    have : i = j' := by omega
    subst this
    have o : (!T.contains i) = true := o
    simp [hj'] at o
theorem GoodS.innerN {T : List Nat} {r r' : Nat} {w : Om} {H : Hp} {σ : St} {D : Ends} {z : SR} (hr : X.N.length < r) (hrr : r ≤ r') (g : GoodS X W M T r w H σ D z) : GoodS X W M T r' w H σ D z := by
  have c : ∀ w' H', Stp (kpE T r) w' H' (cutO w' r) H' := fun w' H' => Stp.cut fun k h => h.1
  have m : ∀ {w' H'}, Stp (kpE T r') w H w' H' → Stp (kpE T r) w H w' H' := fun s => s.mono fun k h => h.up hrr
  cases z with
  | stuck => exact g
  | nx e => exact fun w' H' σ' s st f => g _ H' σ' (s.cut hr) ((m st).trans (c w' H')) f
  | bk e => exact fun w' H' σ' s st f => g _ H' σ' (s.cut hr) ((m st).trans (c w' H')) f
  | ct e => exact fun w' H' σ' s st f => g _ H' σ' (s.cut hr) ((m st).trans (c w' H')) f
  | rt cc e =>
    intro w' H' σ' v s h st f
    obtain ⟨w3, s3, h3, st3⟩ := settle hr hrr s h
    exact g w3 H' σ' v s3 h3 ((m st).trans (st3.mono fun k h => h.1)) f
  | exc x e => exact fun w' H' σ' cls da s xo st f => g _ H' σ' cls da (s.cut hr) (xo.stp s.dom (c w' H') (kpE.zero (by omega))) ((m st).trans (c w' H')) f
/-! ### the sources -/
theorem Walk.of {J : It} {c : Cel} {v : V} {md : Md} {ds : List D} {t : Tag} (a : Walks X J c v md ds) : Walk X.K J (fun w H => Rp X.K w H c.1 t c.2 v) md ds where
  go := fun i w H hi h => a.go i w H t hi h
  stop := fun w H h => a.stop w H t h
  yld := fun i w H x H' r' hi d h y => by
    obtain ⟨e, d', t', e1, e2⟩ := a.yld i w H t x H' hi h y
    subst e
    exact ⟨w, d, Stp.refl, d', t', e1, e2⟩
theorem rp_keeps {c : Cel} {v : V} {k : Nat} {p : Tag} {ro : Nat → Prop} (hk : ro k) : Keeps (fun w H => Rp X.K w H c.1 (k :: p) c.2 v) ro :=
  fun kp r' w1 H1 w2 H2 d st k0 hr h => h.stp d st k0 (hr k hk)
def diVal (f : Rho → Res Cel) : Rho → Res (Md × List D) := fun ρ => (f ρ).bind fun c ρ1 => match seqOf c with
  | some q => .ok q ρ1
  | none => .stuck
theorem Src.tagOf {S : Src} {r : Nat} {σ : St} {v : V} {t : Tag} (o : S.ok r σ v t) : ∃ p, t = S.root r :: p := by
  cases S with
  | tmp => exact ⟨[], o⟩
  | slot i => exact ⟨[], o.1⟩
  | path i => obtain ⟨p, h⟩ := o; exact ⟨p, h⟩
theorem di_val {tg e : Expr} {f : Rho → Res Cel} {T : List Nat} {S : Src} (A : DE X W T S e f) (hS : S.lt X.N.length := by first | exact trivial | exact ltS rfl) : DI X W T [S] tg e (diVal f) := by
  obtain ⟨ta, pa, A⟩ := A.ex
  refine ⟨fun S' h => by rw [List.mem_singleton.mp h]; exact hS, _, PI_or (pi_list pa) (PI_or (pi_tup pa) (pi_str pa)), fun r w H σ ρ R hr s gg => ?_⟩
  unfold diVal at gg
  cases e1 : f ρ with
  | stuck => rw [e1] at gg; exact gg.elim
  | exc x e' =>
    rw [e1] at gg
    refine .inl (A r w H σ ρ _ hr s ?_)
    rw [e1]
    exact gg
  | ok c ρ1 =>
    obtain ⟨m, d⟩ := c
    rw [e1] at gg
    have gg : GoodI X W T [S] r w H σ R (match seqOf (m, d) with | some q => .ok q ρ1 | none => .stuck) := gg
    have key : ∀ {md : Md} {ds : List DL.D} {J : It} {w1 : Om} {H1 : Hp} {v : V} {t : Tag}, seqOf (m, d) = some (md, ds) → Walks X J (m, d) v md ds → Sat X.K X.N.length (r + 1) w1 H1 σ ρ1 → S.ok r σ v t → Rp X.K w1 H1 m t d v → Stp (kpE T r) w H w1 H1 → R J H1 := by
      intro md ds J w1 H1 v t es wk s1 o1 h1 st1
      rw [es] at gg
      obtain ⟨p, et⟩ := Src.tagOf o1
      subst et
      exact gg w1 H1 J _ s1 st1 h1 (rp_keeps (c := (m, d)) ⟨0, S, rfl, rfl⟩) (Walk.of wk)
    cases d with
    | lst ds =>
      refine .inl (A r w H σ ρ _ hr s ?_)
      rw [e1]
      intro w1 H1 v t s1 o1 h1 st1
      obtain ⟨a, vs, ea, nd, ob, rl⟩ := id h1
      subst ea
      exact ⟨a, rfl, ⟨vs, SqL.of ob⟩, key rfl wk_list s1 o1 h1 st1⟩
    | frz ns =>
      refine .inl (A r w H σ ρ _ hr s ?_)
      rw [e1]
      intro w1 H1 v t s1 o1 h1 st1
      obtain ⟨a, ea, ob⟩ := id h1
      subst ea
      exact ⟨a, rfl, ⟨_, ob.sq⟩, key rfl wk_frz s1 o1 h1 st1⟩
    | tup ds =>
      refine .inr (.inl (A r w H σ ρ _ hr s ?_))
      rw [e1]
      intro w1 H1 v t s1 o1 h1 st1
      obtain ⟨a, vs, ea, ob, rl⟩ := id h1
      subst ea
      exact ⟨a, rfl, ⟨vs, ob.sq⟩, key rfl wk_tup s1 o1 h1 st1⟩
    | str z =>
      refine .inr (.inr (A r w H σ ρ _ hr s ?_))
      rw [e1]
      intro w1 H1 v t s1 o1 h1 st1
      exact ⟨z, h1, key rfl wk_str s1 o1 h1 st1⟩
    | _ => exact gg.elim
def diRng (f : Rho → Res (List Cel)) : Rho → Res (Md × List D) := fun ρ => (f ρ).bind fun cs ρ1 => match rngOf cs with
  | some ds => .ok (.own 0, ds) ρ1
  | none => .stuck
theorem wk_rng' {lo : Int} {n : Nat} : Walk X.K (Itr lo n) (fun _ _ => True) (.own 0) ((List.range n).map fun k => .int (lo + (k : Nat))) where
  go := fun i w H hi _ => by rw [List.length_map, List.length_range] at hi; exact hi
  stop := fun w H _ => by rw [List.length_map, List.length_range]; exact Nat.le_refl _
  yld := fun i w H x H' r' hi d _ ⟨eH, ex⟩ => by
    rw [List.length_map, List.length_range] at hi
    subst ex; subst eH
    refine ⟨w, d, Stp.refl, .int (lo + i), [0], ?_, rfl⟩
    rw [List.getElem?_map, List.getElem?_range hi]; rfl
theorem true_keeps {ro : Nat → Prop} : Keeps (fun _ _ => True) ro := fun _ _ _ _ _ _ _ _ _ _ _ => trivial
theorem rng_core {T : List Nat} {Ss : List Src} {r n : Nat} {lo : Int} {w w1 : Om} {H H1 : Hp} {σ : St} {ρ1 : Rho} {R : It → Hp → Prop} (hr : X.N.length < r) (s1 : Sat X.K X.N.length (r + Ss.length) w1 H1 σ ρ1) (st1 : Stp (kpE T r) w H w1 H1)
    (gg : GoodI X W T [] r w H σ R (.ok (.own 0, (List.range n).map fun k => .int (lo + (k : Nat))) ρ1)) : R (Itr lo n) H1 := by
  exact gg (cutO w1 r) H1 (Itr lo n) (fun _ _ => True) (s1.cut hr) (st1.trans (Stp.cut fun k h => h.1)) trivial true_keeps wk_rng'
theorem di_range1 {tg a : Expr} {f : Rho → Res (List Cel)} {T : List Nat} {S : Src} {p pos2 : Pos} (hgl : Gl X "range") (hm : X.mg "range" = none)
    (A : DA X W T [S] [a] f) (hs : starEach [a] X.env = [(false, eval a X.env)] := by rfl) : DI X W T [] tg (.Call (.Name "range" p) [a] [] pos2) (diRng f) := by
  obtain ⟨ta, pa, A⟩ := A.ex
  refine ⟨fun S h => (nomatch h), _, pi_range1 hgl hm pa hs, fun r w H σ ρ R hr s gg => A r w H σ ρ _ hr s ?_⟩
  unfold diRng at gg
  cases e1 : f ρ with
  | stuck => rw [e1] at gg; exact gg
  | exc x e' => rw [e1] at gg; exact gg
  | ok cs ρ1 =>
    rw [e1] at gg
    intro w1 H1 vs s1 a1 st1
    match cs, vs, a1 with
    | [c], [v], ⟨⟨t, _, h⟩, _⟩ =>
      obtain ⟨m, d⟩ := c
      cases d with
      | int j =>
        have gg : GoodI X W T [] r w H σ R (match (if rngOk j = true then some (rngItems 0 j) else none) with | some ds => .ok (.own 0, ds) ρ1 | none => .stuck) := gg
        by_cases hj : rngOk j = true
        · rw [if_pos hj] at gg
          have gg : GoodI X W T [] r w H σ R (.ok (.own 0, rngItems 0 j) ρ1) := gg
          unfold rngItems at gg
          rw [Int.sub_zero] at gg
          obtain ⟨h1, h2⟩ := rngOk_iff hj
          cases (show _ = _ from h)
          exact ⟨j, rfl, h1, h2, rng_core hr s1 st1 gg⟩
        · rw [if_neg hj] at gg; exact gg.elim
      | _ => exact gg.elim
    | [], _, z => exact z.elim
    | _ :: _, [], z => exact z.elim
    | [_], _ :: _ :: _, z => exact z.2.elim
    | _ :: _ :: _, _ :: _, z => exact z.2.elim
theorem di_range2 {tg a b : Expr} {f : Rho → Res (List Cel)} {T : List Nat} {S S' : Src} {p pos2 : Pos} (hgl : Gl X "range") (hm : X.mg "range" = none)
    (A : DA X W T [S, S'] [a, b] f) (hs : starEach [a, b] X.env = [(false, eval a X.env), (false, eval b X.env)] := by rfl) (hs2 : starEach [b] X.env = [(false, eval b X.env)] := by rfl) : DI X W T [] tg (.Call (.Name "range" p) [a, b] [] pos2) (diRng f) := by
  obtain ⟨ta, pa, A⟩ := A.ex
  refine ⟨fun S h => (nomatch h), _, pi_range2 hgl hm pa hs hs2, fun r w H σ ρ R hr s gg => A r w H σ ρ _ hr s ?_⟩
  unfold diRng at gg
  cases e1 : f ρ with
  | stuck => rw [e1] at gg; exact gg
  | exc x e' => rw [e1] at gg; exact gg
  | ok cs ρ1 =>
    rw [e1] at gg
    intro w1 H1 vs s1 a1 st1
    match cs, vs, a1 with
    | [c, c'], [v, v'], ⟨⟨t, _, h⟩, ⟨t', _, h'⟩, _⟩ =>
      obtain ⟨m, d⟩ := c
      obtain ⟨m', d'⟩ := c'
      cases d with
      | int i =>
        cases d' with
        | int j =>
          have gg : GoodI X W T [] r w H σ R (match (if (rngOk i && rngOk j) = true then some (rngItems i j) else none) with | some ds => .ok (.own 0, ds) ρ1 | none => .stuck) := gg
          by_cases hj : (rngOk i && rngOk j) = true
          · rw [if_pos hj] at gg
            rw [Bool.and_eq_true] at hj
            obtain ⟨h1, h2⟩ := rngOk_iff hj.1
            obtain ⟨h3, h4⟩ := rngOk_iff hj.2
            cases (show _ = _ from h)
            cases (show _ = _ from h')
            exact ⟨i, j, rfl, ⟨h1, h2, h3, h4⟩, rng_core hr s1 st1 gg⟩
          · rw [if_neg hj] at gg; exact gg.elim
        | _ => exact gg.elim
      | _ => exact gg.elim
    | [], _, z => exact z.elim
    | _ :: _, [], z => exact z.elim
    | [_], [_], z => exact z.2.elim
    | [_], _ :: _ :: _, z => exact z.2.elim
    | _ :: _ :: _, [_], z => exact z.2.elim
    | [_, _], _ :: _ :: _ :: _, z => exact z.2.2.elim
    | _ :: _ :: _ :: _, _ :: _ :: _, z => exact z.2.2.elim
/-! ### for -/
def dsForI (f : Rho → Res (Md × List D)) (g : Cel → Rho → Option Rho) (body : Rho → SR) : Rho → SR := fun ρ => match f ρ with
  | .ok q ρ1 => forD q.1 g body q.2 ρ1
  | .exc x ρ1 => .exc x ρ1
  | .stuck => .stuck
theorem forI_core {Tg Tb T : List Nat} {g : Cel → Rho → Option Rho} {body : Rho → SR} {tG : TG} {tb : TS} {J : It} {Z : Om → Hp → Prop} {ro : Nat → Prop} {md : Md} {ds : List DL.D} (Wk : Walk X.K J Z md ds) (Ky : Keeps Z ro)
    (hTg : ∀ i ∈ Tg, i ∈ T) (hTb : ∀ i ∈ Tb, i ∈ T)
    (G : ∀ r w H σ ρ ρ' c t v Q, X.N.length < r → Sat X.K X.N.length r w H σ ρ → okFlat c → Rp X.K w H c.1 t c.2 v → g c ρ = some ρ' →
      (∀ w' σ', Sat X.K X.N.length r w' H σ' ρ' → Stp (kpE Tg r) w H w' H → Fx M σ σ' → Q σ' H) → tG v σ H Q)
    (B : ∀ r w H σ ρ D, X.N.length < r → Sat X.K X.N.length r w H σ ρ → GoodS X W M Tb r w H σ D (body ρ) → tb D σ H)
    {r : Nat} {w : Om} {H : Hp} {σ : St} {ρ : Rho} {D : Ends} (hr : X.N.length < r) (hk : ∀ k, ro k → kpE T r k) (s : Sat X.K X.N.length r w H σ ρ) (h : Z w H) (gg : GoodS X W M T r w H σ D (forD md g body ds ρ)) :
    ∃ W' : Nat → Nat → St → Hp → Prop, (∃ m, W' 0 m σ H) ∧ ∀ i m σ H, W' i m σ H →
      (J.stop i H ∧ D.nx σ H) ∨ (J.go i H ∧ ∃ Nx : St → Hp → Prop, (∀ σ' H', Nx σ' H' → ∃ m', m' < m ∧ W' (i + 1) m' σ' H') ∧ ∀ x H', J.yld i H x H' → tG x σ H' fun σ2 H2 => tb { D with nx := Nx, ct := Nx, bk := D.nx } σ2 H2) := by
  let Pv : Nat → St → Hp → Prop := fun i σ H => ∃ w ρ, Sat X.K X.N.length r w H σ ρ ∧ Z w H ∧ GoodS X W M T r w H σ D (forD md g body (ds.drop i) ρ)
  refine ⟨fun i m σ H => m = ds.length - i ∧ i ≤ ds.length ∧ Pv i σ H, ⟨ds.length, by simp, Nat.zero_le _, w, ρ, s, h, gg⟩, ?_⟩
  rintro i m σ H ⟨rfl, hi, w, ρ, s, h, gg⟩
  by_cases hlt : i < ds.length
  · refine .inr ⟨Wk.go i w H hlt h, Pv (i + 1), fun σ' H' q => ⟨ds.length - (i + 1), by omega, rfl, hlt, q⟩, fun x H' y => ?_⟩
    obtain ⟨w0, d0, st0, d, t', ed, hd⟩ := Wk.yld i w H x H' r hlt s.dom h y
    have e0 : ds.drop i = d :: ds.drop (i + 1) := by
      rw [List.drop_eq_getElem_cons hlt]
      congr 1
      rw [List.getElem?_eq_getElem hlt] at ed
      exact Option.some.inj ed
    rw [e0] at gg
    have s0 : Sat X.K X.N.length r w0 H' σ ρ := s.stp st0 (fun _ _ => trivial) d0
    have st0' : Stp (kpE T r) w H w0 H' := st0.mono fun _ _ => trivial
    have h0 : Z w0 H' := Ky _ r _ _ _ _ s.dom st0 trivial (fun _ _ => trivial) h
    have gg := GoodS.up gg st0' Fx.refl
    have gg : GoodS X W M T r w0 H' σ D (match (itCel md d).bind fun c => g c ρ with
      | none => .stuck
      | some ρ1 => match body ρ1 with
        | .nx ρ2 => forD md g body (ds.drop (i + 1)) ρ2
        | .ct ρ2 => forD md g body (ds.drop (i + 1)) ρ2
        | .bk ρ2 => .nx ρ2
        | .rt c ρ2 => .rt c ρ2
        | .exc x ρ2 => .exc x ρ2
        | .stuck => .stuck) := gg
    cases e1 : itCel md d with
    | none => rw [e1] at gg; exact gg.elim
    | some ci =>
      rw [e1] at gg
      have gg : GoodS X W M T r w0 H' σ D (match g ci ρ with
          | none => .stuck
          | some ρ1 => match body ρ1 with
            | .nx ρ2 => forD md g body (ds.drop (i + 1)) ρ2
            | .ct ρ2 => forD md g body (ds.drop (i + 1)) ρ2
            | .bk ρ2 => .nx ρ2
            | .rt c ρ2 => .rt c ρ2
            | .exc x ρ2 => .exc x ρ2
            | .stuck => .stuck) := gg
      cases e2 : g ci ρ with
      | none => rw [e2] at gg; exact gg.elim
      | some ρ1 =>
        rw [e2] at gg
        refine G r w0 H' σ ρ ρ1 ci [0] x _ hr s0 (asVal_flat e1) (asVal_ok e1 hd) e2 fun w1 σ1 s1 st1 f1 => ?_
        have st1' : Stp (kpE T r) w0 H' w1 H' := st1.mono fun k h => ⟨h.1, fun i hi => h.2 i (hTg i hi)⟩
        have h1 := Ky _ r _ _ _ _ s0.dom st1' (kpE.zero (by omega)) hk h0
        have gg := GoodS.up gg st1' f1
        refine B r w1 H' σ1 ρ1 _ hr s1 (GoodS.weak hTb ?_)
        have again : ∀ ρ2, GoodS X W M T r w1 H' σ1 D (forD md g body (ds.drop (i + 1)) ρ2) → ∀ w2 H2 σ2, Sat X.K X.N.length r w2 H2 σ2 ρ2 → Stp (kpE T r) w1 H' w2 H2 → Fx M σ1 σ2 → Pv (i + 1) σ2 H2 := fun ρ2 gg w2 H2 σ2 s2 st2 f2 =>
          ⟨w2, ρ2, s2, Ky _ r _ _ _ _ s1.dom st2 (kpE.zero (by omega)) hk h1, GoodS.up gg st2 f2⟩
        have gg : GoodS X W M T r w1 H' σ1 D (match body ρ1 with
            | .nx ρ2 => forD md g body (ds.drop (i + 1)) ρ2
            | .ct ρ2 => forD md g body (ds.drop (i + 1)) ρ2
            | .bk ρ2 => .nx ρ2
            | .rt c ρ2 => .rt c ρ2
            | .exc x ρ2 => .exc x ρ2
            | .stuck => .stuck) := gg
        cases e3 : body ρ1 with
        | stuck => rw [e3] at gg; exact gg.elim
        | nx ρ2 => rw [e3] at gg; exact again ρ2 gg
        | ct ρ2 => rw [e3] at gg; exact again ρ2 gg
        | bk ρ2 => rw [e3] at gg; exact gg
        | rt c ρ2 => rw [e3] at gg; exact gg
        | exc x ρ2 => rw [e3] at gg; exact gg
  · have e : i = ds.length := by omega
    subst e
    rw [List.drop_length] at gg
    exact .inl ⟨Wk.stop w H h, gg w H σ s Stp.refl Fx.refl⟩
theorem ds_forI {tg e : Expr} {bodyS : List Stmt} {f : Rho → Res (Md × List D)} {g : Cel → Rho → Option Rho} {body : Rho → SR} {T0 Tg Tb : List Nat} {Ss : List Src} {pos : Pos} (hp : PassesOwn (model X.prog X.w) X.A X.env X.xe) (hc : X.calm = true) (A : DI X W T0 Ss tg e f) (G : DG X M Tg tg g) (B : DSs X W M Tb bodyS body)
    (hT : ∀ i ∈ T0 ++ (Tg ++ Tb), i < X.N.length := by exact lt_all rfl) (off : Ss.all (·.off (T0 ++ (Tg ++ Tb))) = true := by rfl) (hs : ∀ x, foldedSetIterable e X.env x = pure x := by intro _; rfl) :
    DS X W M (T0 ++ (Tg ++ Tb)) (.For tg e bodyS [] pos) (dsForI f g body) := by
  have lt := A.lt
  obtain ⟨ta, pa, A⟩ := A.ex
  obtain ⟨tG, pG, G⟩ := G.ex
  obtain ⟨tb, pb, B⟩ := B.ex
  refine ⟨_, ps_for hp hc pa pG pb hs, fun r w H σ ρ D hr s gg => A r w H σ ρ _ hr s ?_⟩
  unfold dsForI at gg
  cases e1 : f ρ with
  | stuck => rw [e1] at gg; exact gg
  | exc x e' => rw [e1] at gg; exact fun w' H' cls da s' xo st => gg w' H' σ cls da s' xo (st.mono fun k h => h.l) Fx.refl
  | ok q ρ1 =>
    rw [e1] at gg
    intro w1 H1 J Z s1 st1 z1 ky wk
    exact forI_core (T := T0 ++ (Tg ++ Tb)) wk ky (fun i hi => List.mem_append_right _ (List.mem_append_left _ hi)) (fun i hi => List.mem_append_right _ (List.mem_append_right _ hi)) G B (by omega) (roots_kept hr lt hT off) s1 z1
      (GoodS.innerN hr (Nat.le_add_right _ _) (GoodS.up gg (st1.mono fun k h => h.l) Fx.refl))
end
end DL

/-! DL part 18: list comprehensions. -/
namespace DL
open PySem L2
def wipeR (ρ : Rho) : List Nat → Rho
  | [] => ρ
  | i :: own => (wipeR ρ own).set i none
/-- the block's own names' slots, as they were if what stood there was plain -/
def backR (ρ0 ρ : Rho) : List Nat → Rho
  | [] => ρ
  | i :: own => (backR ρ0 ρ own).set i (match ρ0[i]? with
    | some (some c) => if imm c.2 = true then some (.own 0, c.2) else none
    | _ => none)
/-- the items of a comprehension -/
def lcD (md : Md) (g : Cel → Rho → Option Rho) (ts : Rho → Res Bool) (fe : Rho → Res Cel) (own : List Nat) (ρ0 : Rho) : List D → Md → List D → Rho → Res Cel
  | [], m, acc, ρ => .ok (m, .lst acc) (backR ρ0 ρ own)
  | d :: ds, m, acc, ρ => match (itCel md d).bind fun c => g c (wipeR ρ own) with
    | none => .stuck
    | some ρ1 => match ts ρ1 with
      | .ok false ρ2 => lcD md g ts fe own ρ0 ds m acc ρ2
      | .ok true ρ2 => (match fe ρ2 with
        | .ok c ρ3 => (match appMd m acc c with
          | some m' => if acc.length < sizeLine then lcD md g ts fe own ρ0 ds m' (acc ++ [c.2]) ρ3 else .stuck
          | none => .stuck)
        | _ => .stuck)
      | _ => .stuck
def dLc (f : Rho → Res (Md × List D)) (g : Cel → Rho → Option Rho) (ts : Rho → Res Bool) (fe : Rho → Res Cel) (own : List Nat) : Rho → Res Cel := fun ρ => (f ρ).bind fun q ρ1 => lcD q.1 g ts fe own ρ1 q.2 .all [] ρ1
theorem wipeR_length (ρ : Rho) : ∀ own, (wipeR ρ own).length = ρ.length
  | [] => rfl
  | i :: own => by unfold wipeR; rw [List.length_set, wipeR_length ρ own]
theorem backR_length (ρ0 ρ : Rho) : ∀ own, (backR ρ0 ρ own).length = ρ.length
  | [] => rfl
  | i :: own => by unfold backR; rw [List.length_set, backR_length ρ0 ρ own]
theorem wipeR_some {ρ : Rho} {i : Nat} {c : Cel} : ∀ {own : List Nat}, (wipeR ρ own)[i]? = some (some c) → ρ[i]? = some (some c) ∧ i ∉ own
  | [], h => ⟨h, by simp⟩
  | v :: own, h => by
    unfold wipeR at h
    by_cases hi : v = i
    · subst hi
      by_cases hv : v < (wipeR ρ own).length
      · rw [List.getElem?_set_self hv] at h; cases h
      · rw [List.getElem?_eq_none (by rw [List.length_set]; omega)] at h; cases h
    · rw [List.getElem?_set_ne hi] at h
      obtain ⟨h1, h2⟩ := wipeR_some h
      exact ⟨h1, by simp only [List.mem_cons, not_or]; exact ⟨fun e => hi e.symm, h2⟩⟩
theorem backR_some {ρ0 ρ : Rho} {i : Nat} {c : Cel} : ∀ {own : List Nat}, (backR ρ0 ρ own)[i]? = some (some c) → (ρ[i]? = some (some c) ∧ i ∉ own) ∨ ∃ c0 : Cel, ρ0[i]? = some (some c0) ∧ imm c0.2 = true ∧ c = (.own 0, c0.2)
  | [], h => .inl ⟨h, by simp⟩
  | v :: own, h => by
    unfold backR at h
    by_cases hi : v = i
    · subst hi
      by_cases hv : v < (backR ρ0 ρ own).length
      · rw [List.getElem?_set_self hv] at h
        split at h
        · rename_i c0 e
          split at h
          · rename_i z
            cases h
            exact .inr ⟨c0, e, z, rfl⟩
          · cases h
        · cases h
      · rw [List.getElem?_eq_none (by rw [List.length_set]; omega)] at h; cases h
    · rw [List.getElem?_set_ne hi] at h
      rcases backR_some h with ⟨h1, h2⟩ | h
      · exact .inl ⟨h1, by simp only [List.mem_cons, not_or]; exact ⟨fun e => hi e.symm, h2⟩⟩
      · exact .inr h
theorem wipe_none {σ : St} {i : Nat} : ∀ {vs : List Nat}, i ∈ vs → i < σ.length → (wipe σ vs)[i]? = some none
  | v :: vs, h, hl => by
    unfold wipe
    by_cases hi : v = i
    · subst hi
      rw [List.getElem?_set_self (by rw [wipe_length]; exact hl)]
    · rw [List.getElem?_set_ne hi]
      rcases List.mem_cons.mp h with e | e
      · exact (hi e.symm).elim
      · exact wipe_none e hl
theorem wipe_same {σ σ' : St} {vs : List Nat} (hl : σ'.length = σ.length) (h : ∀ j, j < σ.length → j ∉ vs → σ'[j]? = σ[j]?) : wipe σ' vs = wipe σ vs := by
  refine List.ext_getElem? fun j => ?_
  by_cases hj : j < σ.length
  · by_cases hv : j ∈ vs
    · rw [wipe_none hv (by omega), wipe_none hv hj]
    · rw [wipe_out hv, wipe_out hv, h j hj hv]
  · rw [List.getElem?_eq_none (by rw [wipe_length]; omega), List.getElem?_eq_none (by rw [wipe_length]; omega)]
theorem wipe_wipe {σ : St} {vs : List Nat} : wipe (wipe σ vs) vs = wipe σ vs := wipe_same (wipe_length _ _) fun j _ hv => wipe_out hv
theorem Sat.wiped {K : PySem.W.Frag} {N r : Nat} {w : Om} {H : Hp} {σ σ' : St} {ρ : Rho} {own : List Nat} (s : Sat K N r w H σ ρ) (e : wipe σ own = wipe σ' own) : Sat K N r w H (wipe σ' own) (wipeR ρ own) :=
  ⟨by rw [← e, wipe_length]; exact s.ls, by rw [wipeR_length]; exact s.lr, s.dom, fun i c ec => by
    obtain ⟨h1, h2⟩ := wipeR_some ec
    obtain ⟨v, h3, h4⟩ := s.slot i c h1
    exact ⟨v, by rw [← e, wipe_out h2]; exact h3, h4⟩⟩
theorem app_build {K : PySem.W.Frag} {w : Om} {H : Hp} {r k : Nat} {p : Tag} {m md : Md} {ds : List D} {c : Cel} {vs : List V} {v : V} {b : Addr} (dm : Dom w H r) (hb : w b = some ((k + 1) :: p)) (e : appMd m ds c = some md) (rl : RpL K w H m.sub ((k + 1) :: p) 0 ds vs)
    (h1 : imm c.2 = true → ∀ md t, Rp K w H md t c.2 v) (h2 : Rp K w H c.1 ((k + 1) :: (p ++ [ds.length])) c.2 v) : Rp K w (upd H b (.lst (vs ++ [v]))) md ((k + 1) :: p) (.lst (ds ++ [c.2])) (.ref b) := by
  have h2 : Rp K w H c.1 ((k + 1) :: p ++ [ds.length]) c.2 v := h2
  have rl' : RpL K w (upd H b (.lst (vs ++ [v]))) m.sub ((k + 1) :: p) 0 ds vs :=
    RpL.write' rl dm hb (fun _ => slot_tag) fun j p' _ => fun z => by
      have := congrArg List.length z
      simp at this
  have item : ∀ md', Rp K w H md' ((k + 1) :: p ++ [ds.length]) c.2 v → Rp K w (upd H b (.lst (vs ++ [v]))) md' ((k + 1) :: p ++ [ds.length]) c.2 v := fun md' h =>
    h.write dm hb (fun _ => slot_tag) fun p' z => by
      have := congrArg List.length z
      simp at this
  have build : ∀ md0 : Md, md0.mut = true → RpL K w (upd H b (.lst (vs ++ [v]))) md0.sub ((k + 1) :: p) 0 ds vs → Rp K w (upd H b (.lst (vs ++ [v]))) md0.sub ((k + 1) :: p ++ [ds.length]) c.2 v → Rp K w (upd H b (.lst (vs ++ [v]))) md0 ((k + 1) :: p) (.lst (ds ++ [c.2])) (.ref b) := fun md0 hm r1 r2 =>
    ⟨b, vs ++ [v], rfl, Nd.of_mut hm hb, upd_same, RpL.append r1 ⟨v, [], rfl, by rw [Nat.zero_add]; exact r2, rfl⟩⟩
  obtain ⟨hmm, q⟩ := appMd_cases e
  rcases q with ⟨hc, em⟩ | ⟨em, em2, ec1⟩ | ⟨em, em2, ec1⟩ | ⟨em, em2, ec1, hl⟩
  · subst em
    exact build md hmm rl' (item _ (h1 hc _ _))
  · subst em; subst em2
    rw [ec1] at h2
    exact build .all rfl rl' (item _ h2)
  · subst em; subst em2
    rw [ec1] at h2
    exact build (.own 1) rfl rl' (item _ h2)
  · subst em; subst em2
    rw [ec1] at h2
    exact build (.own 1) rfl (RpL.imm ⟨fun _ _ x => x, fun _ _ _ x => x⟩ _ hl rl') (item _ h2)
theorem appMd_mut {m m' : Md} {ds : List D} {c : Cel} (e : appMd m ds c = some m') : m'.mut = true := by
  obtain ⟨h, q⟩ := appMd_cases e
  rcases q with ⟨_, em⟩ | ⟨em, _⟩ | ⟨em, _⟩ | ⟨em, _⟩
  · rw [em]; exact h
  · rw [em]; rfl
  · rw [em]; rfl
  · rw [em]; rfl
/-! ### the block -/
structure DTs (X : Cx) (W : WX) (T : List Nat) (ifs : List Expr) (f : Rho → Res Bool) : Prop where
  ex : ∃ t : TT, PTs X ifs t ∧ ∀ r w H σ ρ Q, X.N.length < r → Sat X.K X.N.length r w H σ ρ → GoodT X W T r w H σ Q (f ρ) → t σ H Q
def dYes : Rho → Res Bool := fun ρ => .ok true ρ
section
variable {X : Cx} {W : WX}
theorem dts_nil : DTs X W [] [] dYes := ⟨_, pts_nil, fun r w H σ ρ Q hr s g => g w H s Stp.refl⟩
theorem dts_one {T : List Nat} {c : Expr} {f : Rho → Res Bool} (A : DT X W T c f) : DTs X W T [c] f := let ⟨t, p, h⟩ := A.ex; ⟨_, pts_one p, h⟩
/-- no exception within a block -/
abbrev W0 : WX := fun _ _ _ _ => False
theorem takes0 {X : Cx} : L2N.Takes X W0 := fun u s' ⟨_, _, _, _, _, _, _, _, _, _, _, _, _, _, _, _, f⟩ => f.elim
end
section
variable {X : Cx}
abbrev Bk (X : Cx) (scope : Scope) (s : Shared) (H : Hp) (C : Addr) (cl : List (Str × Addr)) (fp : List Addr) : Cx := X.blk s H scope (compEnvC scope cl C X.env) fp
theorem bk_e {scope : Scope} {T : List Nat} {S : Src} {e : Expr} {f : Rho → Res Cel} (h : ∀ s H C cl fp, DE (Bk X scope s H C cl fp) W0 T S e f) :
    ∃ t : TE, (∀ s H C cl fp, PE (Bk X scope s H C cl fp) e t) ∧ ∀ r w H σ ρ Q, X.N.length < r → Sat X.K X.N.length r w H σ ρ → GoodE X W0 T S r w H σ Q (f ρ) → t σ H Q := by
  refine ⟨fun σ H Q => ∀ s H' C cl fp, (h s H' C cl fp).ex.choose σ H Q, fun s H' C cl fp => ⟨fun pins s1 σ H Q I q => ?_⟩, fun r w H σ ρ Q hr s g s1 H' C cl fp => ?_⟩
  · exact (h s H' C cl fp).ex.choose_spec.1.run pins s1 σ H Q I (q s H' C cl fp)
  · refine (h s1 H' C cl fp).ex.choose_spec.2 r w H σ ρ Q hr s ?_
    cases e1 : f ρ with
    | stuck => rw [e1] at g; exact g
    | ok c e' => rw [e1] at g; exact g
    | exc x e' => rw [e1] at g; exact g
theorem bk_ts {scope : Scope} {T : List Nat} {e : List Expr} {f : Rho → Res Bool} (h : ∀ s H C cl fp, DTs (Bk X scope s H C cl fp) W0 T e f) :
    ∃ t : TT, (∀ s H C cl fp, PTs (Bk X scope s H C cl fp) e t) ∧ ∀ r w H σ ρ Q, X.N.length < r → Sat X.K X.N.length r w H σ ρ → GoodT X W0 T r w H σ Q (f ρ) → t σ H Q := by
  refine ⟨fun σ H Q => ∀ s H' C cl fp, (h s H' C cl fp).ex.choose σ H Q, fun s H' C cl fp => ⟨fun pins s1 σ H Q I q => ?_⟩, fun r w H σ ρ Q hr s g s1 H' C cl fp => ?_⟩
  · exact (h s H' C cl fp).ex.choose_spec.1.run pins s1 σ H Q I (q s H' C cl fp)
  · refine (h s1 H' C cl fp).ex.choose_spec.2 r w H σ ρ Q hr s ?_
    cases e1 : f ρ with
    | stuck => rw [e1] at g; exact g
    | ok c e' => rw [e1] at g; exact g
    | exc x e' => rw [e1] at g; exact g
theorem bk_g {scope : Scope} {M T : List Nat} {tg : Expr} {g : Cel → Rho → Option Rho} (h : ∀ s H C cl fp, DG (Bk X scope s H C cl fp) M T tg g) :
    ∃ t : TG, (∀ s H C cl fp, PG (Bk X scope s H C cl fp) tg t) ∧ ∀ r w H σ ρ ρ' c t' v Q, X.N.length < r → Sat X.K X.N.length r w H σ ρ → okFlat c → Rp X.K w H c.1 t' c.2 v → g c ρ = some ρ' →
      (∀ w' σ', Sat X.K X.N.length r w' H σ' ρ' → Stp (kpE T r) w H w' H → Fx M σ σ' → Q σ' H) → t v σ H Q := by
  refine ⟨fun v σ H Q => ∀ s H' C cl fp, (h s H' C cl fp).ex.choose v σ H Q, fun s H' C cl fp => ⟨fun pins s1 σ H v u Q I r q => ?_⟩, fun r w H σ ρ ρ' c t' v Q hr s f q e k s1 H' C cl fp => ?_⟩
  · exact (h s H' C cl fp).ex.choose_spec.1.run pins s1 σ H v u Q I r (q s H' C cl fp)
  · exact (h s1 H' C cl fp).ex.choose_spec.2 r w H σ ρ ρ' c t' v Q hr s f q e k
/-- the slots but these -/
def others (N : Nat) (own : List Nat) : List Nat := (List.range N).filter fun j => !own.contains j
theorem others_mem {N j : Nat} {own : List Nat} (h : j < N) (h2 : j ∉ own) : j ∈ others N own := by
  unfold others
  rw [List.mem_filter]
  exact ⟨List.mem_range.mpr h, by simpa using h2⟩
theorem lc_good {W : WX} {own Tg Tt Te T : List Nat} {g : Cel → Rho → Option Rho} {ts : Rho → Res Bool} {fe : Rho → Res Cel} {tG : TG} {tt : TT} {te : TE} {J : It} {Z : Om → Hp → Prop} {md : Md} {ds : List DL.D}
    (Wk : Walk X.K J Z md ds) (ky : Keeps Z (fun k => kpE T (r0 + n0) k)) (hTg : ∀ i ∈ Tg, i ∈ own) (hT1 : ∀ i ∈ own, i ∈ T) (hT2 : ∀ i ∈ Tt, i ∈ T) (hT3 : ∀ i ∈ Te, i ∈ T) (hT : ∀ i ∈ T, i < X.N.length)
    (G : ∀ r w H σ ρ ρ' c t v Q, X.N.length < r → Sat X.K X.N.length r w H σ ρ → okFlat c → Rp X.K w H c.1 t c.2 v → g c ρ = some ρ' →
      (∀ w' σ', Sat X.K X.N.length r w' H σ' ρ' → Stp (kpE Tg r) w H w' H → Fx (others X.N.length own) σ σ' → Q σ' H) → tG v σ H Q)
    (C : ∀ r w H σ ρ Q, X.N.length < r → Sat X.K X.N.length r w H σ ρ → GoodT X W0 Tt r w H σ Q (ts ρ) → tt σ H Q)
    (E : ∀ r w H σ ρ Q, X.N.length < r → Sat X.K X.N.length r w H σ ρ → GoodE X W0 Te .tmp r w H σ Q (fe ρ) → te σ H Q)
    {w1 : Om} {H1 : Hp} {σ : St} {ρ1 : Rho} {Q : VK} (hr : X.N.length < r0) (s1 : Sat X.K X.N.length (r0 + n0) w1 H1 σ ρ1) (z1 : Z w1 H1)
    (gg : GoodE X W T .tmp r0 w1 H1 σ Q (lcD md g ts fe own ρ1 ds .all [] ρ1)) {D : Addr} (hD : H1 D = none) :
    ∃ W' : Nat → Nat → Hp → Prop, (∃ m, W' 0 m (upd H1 D (.lst []))) ∧ ∀ i m H, W' i m H →
      (J.stop i H ∧ Q (.ref D) H) ∨ (J.go i H ∧ ∃ Nx : Hp → Prop, (∀ H', Nx H' → ∃ m', m' < m ∧ W' (i + 1) m' H') ∧ ∀ x H', J.yld i H x H' → tG x (wipe σ own) H' fun σ2 H2 => wipe σ2 own = wipe σ own ∧ tt σ2 H2 fun b H3 =>
        if b = true then te σ2 H3 fun y H4 => ∃ acc, H4 D = some (.lst acc) ∧ acc.length < sizeLine ∧ Nx (upd H4 D (.lst (acc ++ [y]))) else Nx H3) := by
  obtain ⟨q, eq⟩ : ∃ q, r0 + n0 = q + 1 := ⟨r0 + n0 - 1, by omega⟩
  rw [eq] at ky s1
  have hq : X.N.length < q + 1 := by omega
  let Pv : Nat → Hp → Prop := fun i H => ∃ w ρ m acc vs, Sat X.K X.N.length (q + 2) w H (wipe σ own) (wipeR ρ own) ∧ ρ.length = X.N.length ∧ Z w H ∧ w D = some [q + 1] ∧ H D = some (.lst vs) ∧ RpL X.K w H m.sub [q + 1] 0 acc vs ∧ m.mut = true ∧ Stp (kpE T (q + 1)) w1 H1 w H ∧ GoodE X W T .tmp r0 w1 H1 σ Q (lcD md g ts fe own ρ1 (ds.drop i) m acc ρ)
  have hbase : Pv 0 (upd H1 D (.lst [])) := by
    have stn : Stp (kpE T (q + 1)) w1 H1 (setO w1 D (some [q + 1])) (upd H1 D (.lst [])) := Stp.new hD fun k p e hk => by
      cases e; exact absurd hk.1 (Nat.lt_irrefl _)
    have dn : Dom (setO w1 D (some [q + 1])) (upd H1 D (.lst [])) (q + 2) := (s1.dom.sub (Nat.le_succ _)).new hD fun t' e => by
      cases e; exact ⟨trivial, q + 1, [], rfl, Nat.lt_succ_self _⟩
    have sw := s1.wiped (own := own) (σ' := σ) rfl
    have stw : Stp (fun k => k < q + 1) w1 H1 (setO w1 D (some [q + 1])) (upd H1 D (.lst [])) := Stp.new hD fun k p e hk => by
      cases e; exact absurd hk (Nat.lt_irrefl _)
    exact ⟨_, ρ1, .all, [], [], sw.stp stw (fun k hk => by omega) dn, s1.lr, ky _ _ _ _ _ _ s1.dom stw (by show 0 < q + 1; omega) (fun k hk => hk.1) z1, setO_same, upd_same, rfl, rfl, stn, by rw [List.drop_zero]; exact gg⟩
  refine ⟨fun i m H => m = ds.length - i ∧ i ≤ ds.length ∧ Pv i H, ⟨ds.length, by simp, Nat.zero_le _, hbase⟩, ?_⟩
  rintro i mm H ⟨rfl, hi, w, ρ, m, acc, vs, s, lρ, z, hw, hH, rl, hm, st, gg⟩
  by_cases hlt : i < ds.length
  · refine .inr ⟨Wk.go i w H hlt z, Pv (i + 1), fun H' q => ⟨ds.length - (i + 1), by omega, rfl, hlt, q⟩, fun x H' y => ?_⟩
    obtain ⟨w2, d2, st2, d, t', ed, hd⟩ := Wk.yld i w H x H' (q + 2) hlt s.dom z y
    have e0 : ds.drop i = d :: ds.drop (i + 1) := by
      rw [List.drop_eq_getElem_cons hlt]
      congr 1
      rw [List.getElem?_eq_getElem hlt] at ed
      exact Option.some.inj ed
    rw [e0] at gg
    have gg : GoodE X W T .tmp r0 w1 H1 σ Q (match (itCel md d).bind fun c => g c (wipeR ρ own) with
      | none => .stuck
      | some ρ2 => match ts ρ2 with
        | .ok false ρ3 => lcD md g ts fe own ρ1 (ds.drop (i + 1)) m acc ρ3
        | .ok true ρ3 => (match fe ρ3 with
          | .ok c ρ4 => (match appMd m acc c with
            | some m' => if acc.length < sizeLine then lcD md g ts fe own ρ1 (ds.drop (i + 1)) m' (acc ++ [c.2]) ρ4 else .stuck
            | none => .stuck)
          | _ => .stuck)
        | _ => .stuck) := gg
    cases e1 : itCel md d with
    | none => rw [e1] at gg; exact gg.elim
    | some ci =>
      rw [e1] at gg
      have gg : GoodE X W T .tmp r0 w1 H1 σ Q (match g ci (wipeR ρ own) with
        | none => .stuck
        | some ρ2 => match ts ρ2 with
          | .ok false ρ3 => lcD md g ts fe own ρ1 (ds.drop (i + 1)) m acc ρ3
          | .ok true ρ3 => (match fe ρ3 with
            | .ok c ρ4 => (match appMd m acc c with
              | some m' => if acc.length < sizeLine then lcD md g ts fe own ρ1 (ds.drop (i + 1)) m' (acc ++ [c.2]) ρ4 else .stuck
              | none => .stuck)
            | _ => .stuck)
          | _ => .stuck) := gg
      cases e2 : g ci (wipeR ρ own) with
      | none => rw [e2] at gg; exact gg.elim
      | some ρ2 =>
        rw [e2] at gg
        have s2 : Sat X.K X.N.length (q + 2) w2 H' (wipe σ own) (wipeR ρ own) := s.stp st2 (fun _ _ => trivial) d2
        refine G (q + 2) w2 H' (wipe σ own) (wipeR ρ own) ρ2 ci [0] x _ (by omega) s2 (asVal_flat e1) (asVal_ok e1 hd) e2 fun w3 σ3 s3 st3 f3 => ?_
        have wsame : wipe σ3 own = wipe σ own := by
          rw [← wipe_wipe (σ := σ)]
          refine wipe_same (by rw [s3.ls, wipe_length, ← s1.ls]) fun j hj hv => f3 j (others_mem (by rw [wipe_length, s1.ls] at hj; exact hj) hv)
        refine ⟨wsame, C (q + 2) w3 H' σ3 ρ2 _ (by omega) s3 ?_⟩
        -- what any state within a turn keeps
        have k3 : Stp (kpE T (q + 2)) w H w3 H' := (st2.mono fun _ _ => trivial).trans (st3.mono fun k hk => ⟨hk.1, fun i hi => hk.2 i (hT1 i (hTg i hi))⟩)
        have gg : GoodE X W T .tmp r0 w1 H1 σ Q (match ts ρ2 with
          | .ok false ρ3 => lcD md g ts fe own ρ1 (ds.drop (i + 1)) m acc ρ3
          | .ok true ρ3 => (match fe ρ3 with
            | .ok c ρ4 => (match appMd m acc c with
              | some m' => if acc.length < sizeLine then lcD md g ts fe own ρ1 (ds.drop (i + 1)) m' (acc ++ [c.2]) ρ4 else .stuck
              | none => .stuck)
            | _ => .stuck)
          | _ => .stuck) := gg
        have hk1 : kpE T (q + 2) (q + 1) := ⟨by omega, fun i hi zz => by have := hT i hi; omega⟩
        have near : ∀ {w' : Om} {H' : Hp}, Stp (kpE T (q + 2)) w H w' H' → Z w' H' ∧ w' D = some [q + 1] ∧ H' D = some (.lst vs) ∧ RpL X.K w' H' m.sub [q + 1] 0 acc vs ∧ Stp (kpE T (q + 1)) w1 H1 w' H' := fun {w' H'} stt =>
          ⟨ky _ _ _ _ _ _ s.dom stt (kpE.zero (by omega)) (fun k hk => hk.up (Nat.le_succ _)) z, (stt.own D (q + 1) [] _ hw hk1 hH).2, (stt.own D (q + 1) [] _ hw hk1 hH).1, rl.stp s.dom stt (kpE.zero (by omega)) hk1, st.trans (stt.mono fun k hk => hk.up (Nat.le_succ _))⟩
        cases e3 : ts ρ2 with
        | stuck => rw [e3] at gg; exact gg.elim
        | exc xx e' => rw [e3] at gg; exact gg.elim
        | ok b ρ3 =>
          rw [e3] at gg
          intro w4 H4 s4 st4
          have k4 : Stp (kpE T (q + 2)) w H w4 H4 := k3.trans (st4.mono fun k hk => ⟨hk.1, fun i hi => hk.2 i (hT2 i hi)⟩)
          cases b with
          | false =>
            rw [if_neg Bool.false_ne_true]
            obtain ⟨a1, a2, a3, a4, a5⟩ := near k4
            exact ⟨w4, ρ3, m, acc, vs, s4.wiped wsame, s4.lr, a1, a2, a3, a4, hm, a5, gg⟩
          | true =>
            rw [if_pos rfl]
            refine E (q + 2) w4 H4 σ3 ρ3 _ (by omega) s4 ?_
            have gg : GoodE X W T .tmp r0 w1 H1 σ Q (match fe ρ3 with
              | .ok c ρ4 => (match appMd m acc c with
                | some m' => if acc.length < sizeLine then lcD md g ts fe own ρ1 (ds.drop (i + 1)) m' (acc ++ [c.2]) ρ4 else .stuck
                | none => .stuck)
              | _ => .stuck) := gg
            cases e4 : fe ρ3 with
            | stuck => rw [e4] at gg; exact gg.elim
            | exc xx e' => rw [e4] at gg; exact gg.elim
            | ok c ρ4 =>
              rw [e4] at gg
              intro w5 H5 v t s5 o5 h5 st5
              have o5 : t = [q + 2] := o5
              subst o5
              have gg : GoodE X W T .tmp r0 w1 H1 σ Q (match appMd m acc c with
                | some m' => if acc.length < sizeLine then lcD md g ts fe own ρ1 (ds.drop (i + 1)) m' (acc ++ [c.2]) ρ4 else .stuck
                | none => .stuck) := gg
              cases e5 : appMd m acc c with
              | none => rw [e5] at gg; exact gg.elim
              | some m' =>
                rw [e5] at gg
                have gg : GoodE X W T .tmp r0 w1 H1 σ Q (if acc.length < sizeLine then lcD md g ts fe own ρ1 (ds.drop (i + 1)) m' (acc ++ [c.2]) ρ4 else .stuck) := gg
                by_cases hz : acc.length < sizeLine
                · rw [if_pos hz] at gg
                  have k5 : Stp (kpE T (q + 2)) w H w5 H5 := k4.trans (st5.mono fun k hk => ⟨hk.1, fun i hi => hk.2 i (hT3 i hi)⟩)
                  obtain ⟨a1, a2, a3, a4, a5⟩ := near k5
                  refine ⟨vs, a3, by rw [a4.length]; exact hz, ?_⟩
                  -- the item moves
                  let w6 := bindO w5 (moveF (q + 2) ((q + 1) :: [acc.length]))
                  have st6 : Stp (fun k => k < q + 1) w5 H5 w6 H5 := (moveF_stp (i := q) (q := [acc.length]) (T := [q]) List.mem_cons_self).mono fun k hk => ⟨by omega, fun i hi zz => by rw [List.mem_singleton.mp hi] at zz; omega⟩
                  have d6 : Dom w6 H5 (q + 2) := moveF_dom s5.dom (by omega)
                  have b2 : w6 D = some [q + 1] := (bindO_some a2).trans (moveF_lt (by omega))
                  have b4 : RpL X.K w6 H5 m.sub [q + 1] 0 acc vs := RpL.map (moveF_mp (i := q) (q := [acc.length]) (by omega)) acc ⟨rfl, rfl, q + 1, [], rfl, by omega⟩ a4
                  have b5 : Rp X.K w6 H5 c.1 ((q + 1) :: ([] ++ [acc.length])) c.2 v := Rp.move (fun p => .inr ⟨p, moveF_lt (by omega)⟩) (fun p' => moveF_eq) h5
                  have rp := app_build d6 b2 e5 b4 (fun hi md t => Rp.imm ⟨fun _ _ x => x, fun _ _ _ x => x⟩ _ hi h5) b5
                  have st7 : Stp (fun k => k < q + 1) w6 H5 w6 (upd H5 D (.lst (vs ++ [v]))) := Stp.write b2 fun h => absurd h (Nat.lt_irrefl _)
                  have d7 : Dom w6 (upd H5 D (.lst (vs ++ [v]))) (q + 2) := d6.write trivial
                  have st67 := st6.trans st7
                  obtain ⟨bb, us, eb, nd, ob, rl7⟩ := rp
                  cases eb
                  have eu : us = vs ++ [v] := by
                    have ob : (upd H5 D (.lst (vs ++ [v]))) D = some (.lst us) := ob
                    rw [upd_same] at ob
                    cases ob; rfl
                  subst eu
                  have s7 := (s5.wiped (own := own) (σ' := σ) wsame).stp (r' := q + 2) st67 (fun k hk => by omega) d7
                  refine ⟨w6, ρ4, m', acc ++ [c.2], vs ++ [v], s7, s5.lr, ky _ _ _ _ _ _ s5.dom st67 (by show 0 < q + 1; omega) (fun k hk => hk.1) a1, b2, upd_same, rl7, appMd_mut e5, a5.trans (st67.mono fun k hk => hk.1), gg⟩
                · rw [if_neg hz] at gg; exact gg.elim
  · have e : i = ds.length := by omega
    subst e
    rw [List.drop_length] at gg
    refine .inl ⟨Wk.stop w H z, ?_⟩
    have gg : GoodE X W T .tmp r0 w1 H1 σ Q (.ok (m, .lst acc) (backR ρ1 ρ own)) := gg
    have sb : Sat X.K X.N.length (q + 1 + 1) w H σ (backR ρ1 ρ own) := by
      refine ⟨s1.ls, by rw [backR_length]; exact lρ, s.dom, fun j c ec => ?_⟩
      rcases backR_some ec with ⟨h1, h2⟩ | ⟨c0, h1, h2, rfl⟩
      · have : (wipeR ρ own)[j]? = some (some c) := by
          have : ∀ {own : List Nat}, j ∉ own → (wipeR ρ own)[j]? = ρ[j]? := fun {own} hn => by
            induction own with
            | nil => rfl
            | cons a own ih =>
              unfold wipeR
              rw [List.getElem?_set_ne fun zz => hn (by rw [zz]; exact List.mem_cons_self)]
              exact ih fun zz => hn (List.mem_cons_of_mem _ zz)
          rw [this h2]; exact h1
        obtain ⟨v, h3, h4⟩ := s.slot j c this
        exact ⟨v, by rw [← h3, wipe_out h2], h4⟩
      · obtain ⟨v, h3, h4⟩ := s1.slot j c0 h1
        exact ⟨v, h3, h4.stpI h2 s1.dom st⟩
    have rp : Rp X.K w H m [q + 1] (.lst acc) (.ref D) := ⟨D, vs, rfl, Nd.of_mut hm hw, hH, rl⟩
    obtain ⟨w3, s3, h3, st3⟩ := settle hr (by omega) sb rp
    exact gg w3 H (.ref D) [r0] s3 rfl h3 ((st.mono fun k hk => hk.up (by omega)).trans (st3.mono fun k hk => hk.1))
theorem GoodE.upS {W : WX} {T : List Nat} {S : Src} {r : Nat} {w w1 : Om} {H H1 : Hp} {σ : St} {Q : VK} {z : Res Cel} (g : GoodE X W T S r w H σ Q z) (st : Stp (kpE T r) w H w1 H1) : GoodE X W T S r w1 H1 σ Q z := by
  cases z with
  | stuck => exact g
  | ok c e => exact fun w' H' v t s o h st' => g w' H' v t s o h (st.trans st')
  | exc x e => exact fun w' H' cls da s xo st' => g w' H' cls da s xo (st.trans st')
theorem Keeps.mono {Z : Om → Hp → Prop} {ro ro' : Nat → Prop} (k : Keeps Z ro) (h : ∀ j, ro j → ro' j) : Keeps Z ro' := fun kp r' w1 H1 w2 H2 d st k0 hk z => k kp r' w1 H1 w2 H2 d st k0 (fun j hj => hk j (h j hj)) z
theorem lc_all {W : WX} {own Tg Tt Te T0 : List Nat} {Ss : List Src} {fI : Rho → Res (Md × List DL.D)} {g : Cel → Rho → Option Rho} {ts : Rho → Res Bool} {fe : Rho → Res Cel} {wi : TI} {tG : TG} {tt : TT} {te : TE}
    (lt : ∀ S ∈ Ss, S.lt X.N.length) (A : ∀ r w H σ ρ R, X.N.length < r → Sat X.K X.N.length r w H σ ρ → GoodI X W T0 Ss r w H σ R (fI ρ) → wi σ H R)
    (hTg : ∀ i ∈ Tg, i ∈ own) (hT : ∀ i ∈ T0 ++ (own ++ (Tt ++ Te)), i < X.N.length) (off : Ss.all (·.off (T0 ++ (own ++ (Tt ++ Te)))) = true)
    (G : ∀ r w H σ ρ ρ' c t v Q, X.N.length < r → Sat X.K X.N.length r w H σ ρ → okFlat c → Rp X.K w H c.1 t c.2 v → g c ρ = some ρ' →
      (∀ w' σ', Sat X.K X.N.length r w' H σ' ρ' → Stp (kpE Tg r) w H w' H → Fx (others X.N.length own) σ σ' → Q σ' H) → tG v σ H Q)
    (C : ∀ r w H σ ρ Q, X.N.length < r → Sat X.K X.N.length r w H σ ρ → GoodT X W0 Tt r w H σ Q (ts ρ) → tt σ H Q)
    (E : ∀ r w H σ ρ Q, X.N.length < r → Sat X.K X.N.length r w H σ ρ → GoodE X W0 Te .tmp r w H σ Q (fe ρ) → te σ H Q) :
    ∀ r w H σ ρ Q, X.N.length < r → Sat X.K X.N.length r w H σ ρ → GoodE X W (T0 ++ (own ++ (Tt ++ Te))) .tmp r w H σ Q (dLc fI g ts fe own ρ) → tLc wi tG tt te own σ H Q := by
  intro r w H σ ρ Q hr s gg
  refine A r w H σ ρ _ hr s ?_
  unfold dLc at gg
  cases e1 : fI ρ with
  | stuck => rw [e1] at gg; exact gg
  | exc x e' =>
    rw [e1] at gg
    exact fun w' H' cls da s' xo st => gg w' H' cls da s' xo (st.mono fun k h => h.l)
  | ok q ρ1 =>
    rw [e1] at gg
    intro w1 H1 J Z s1 st1 z1 ky wk D hD
    have gg : GoodE X W (T0 ++ (own ++ (Tt ++ Te))) .tmp r w H σ Q (lcD q.1 g ts fe own ρ1 q.2 .all [] ρ1) := gg
    exact lc_good (n0 := Ss.length) wk (ky.mono (roots_kept hr lt hT off)) hTg (fun i hi => List.mem_append_right _ (List.mem_append_left _ hi)) (fun i hi => List.mem_append_right _ (List.mem_append_right _ (List.mem_append_left _ hi))) (fun i hi => List.mem_append_right _ (List.mem_append_right _ (List.mem_append_right _ hi))) hT G C E hr s1 z1
      (gg.upS (st1.mono fun k h => h.l)) hD
theorem de_lc {W : WX} {elt tg iter : Expr} {ifs : List Expr} {scope : Scope} {pos : Pos} {Tg Tt Te T0 : List Nat} {Ss : List Src} {fI : Rho → Res (Md × List DL.D)} {g : Cel → Rho → Option Rho} {ts : Rho → Res Bool} {fe : Rho → Res Cel} (own : List (Str × Nat))
    (hc : X.calm = true) (hN : X.N.Nodup) (ok : BlkOk X.N X.env.scope scope own) (A : DI X W T0 Ss tg iter fI) (G : ∀ s H C cl fp, DG (Bk X scope s H C cl fp) (others X.N.length (own.map (·.2))) Tg tg g)
    (C : ∀ s H C cl fp, DTs (Bk X scope s H C cl fp) W0 Tt ifs ts) (E : ∀ s H C cl fp, DE (Bk X scope s H C cl fp) W0 Te .tmp elt fe) (hTg : ∀ i ∈ Tg, i ∈ own.map (·.2) := by decide) (hT : ∀ i ∈ T0 ++ (own.map (·.2) ++ (Tt ++ Te)), i < X.N.length := by exact lt_all rfl)
    (off : Ss.all (·.off (T0 ++ (own.map (·.2) ++ (Tt ++ Te)))) = true := by rfl) (hs : ∀ x, foldedSetIterable iter X.env x = pure x := by intro _; rfl) :
    DE X W (T0 ++ (own.map (·.2) ++ (Tt ++ Te))) .tmp (.ListComp elt [⟨tg, iter, ifs, 0⟩] scope pos) (dLc fI g ts fe (own.map (·.2))) := by
  have lt := A.lt
  obtain ⟨ta, pa, A⟩ := A.ex
  obtain ⟨tG, pG, G⟩ := bk_g G
  obtain ⟨tt, pt, C⟩ := bk_ts C
  obtain ⟨te, pe, E⟩ := bk_e E
  exact ⟨_, pe_lc hc hN pa ok pG pt pe hs, lc_all lt A hTg hT off G C E⟩
/-- name = [..] on one line -/
theorem ds_setLc {W : WX} {M : List Nat} (i : Nat) {y : Str} {py spos : Pos} {elt tg iter : Expr} {ifs : List Expr} {scope : Scope} {pos : Pos} {Tg Tt Te T0 : List Nat} {Ss : List Src} {fI : Rho → Res (Md × List DL.D)} {g : Cel → Rho → Option Rho} {ts : Rho → Res Bool} {fe : Rho → Res Cel} (own : List (Str × Nat))
    (hc : X.calm = true) (hN : X.N.Nodup) (ok : BlkOk X.N X.env.scope scope own) (A : DI X W T0 Ss tg iter fI) (G : ∀ s H C cl fp, DG (Bk X scope s H C cl fp) (others X.N.length (own.map (·.2))) Tg tg g)
    (C : ∀ s H C cl fp, DTs (Bk X scope s H C cl fp) W0 Tt ifs ts) (E : ∀ s H C cl fp, DE (Bk X scope s H C cl fp) W0 Te .tmp elt fe)
    (hsw : swapsWith (.ListComp elt [⟨tg, iter, ifs, 0⟩] scope pos) (some (.Name y py)) spos.line X.env = pure true)
    (hy : X.N[i]? = some y := by rfl) (hl : i < X.N.length := by exact ltN rfl) (hyl : X.env.scope.names.lookup y = some .local := by rfl) (hM : M.contains i = false := by rfl)
    (hTg : ∀ i ∈ Tg, i ∈ own.map (·.2) := by decide) (hT : ∀ i ∈ T0 ++ (own.map (·.2) ++ (Tt ++ Te)), i < X.N.length := by exact lt_all rfl)
    (off : Ss.all (·.off (T0 ++ (own.map (·.2) ++ (Tt ++ Te)))) = true := by rfl) (hs : ∀ x, foldedSetIterable iter X.env x = pure x := by intro _; rfl) :
    DS X W M (i :: (T0 ++ (own.map (·.2) ++ (Tt ++ Te)))) (.Assign [.Name y py] (.ListComp elt [⟨tg, iter, ifs, 0⟩] scope pos) spos) (dsSet i (dLc fI g ts fe (own.map (·.2)))) := by
  have lt := A.lt
  obtain ⟨ta, pa, A⟩ := A.ex
  obtain ⟨tG, pG, G⟩ := bk_g G
  obtain ⟨tt, pt, C⟩ := bk_ts C
  obtain ⟨te, pe, E⟩ := bk_e E
  refine ⟨_, ps_setLc hc hN hy hyl hsw pa ok pG pt pe hs, fun r w H σ ρ D hr s g => lc_all lt A hTg hT off G C E r w H σ ρ _ hr s ?_⟩
  unfold dsSet at g
  generalize dLc fI _ ts fe (own.map (·.2)) ρ = z at g ⊢
  cases z with
  | stuck => exact g
  | exc x e' => exact fun w' H' cls da s' xo st => g w' H' σ cls da s' xo (st.mono fun k h => ⟨h.1, fun j hj => h.2 j (List.mem_cons_of_mem _ hj)⟩) Fx.refl
  | ok c ρ1 =>
    intro w' H' v tg s' o h st
    have o : tg = [r] := o
    subst o
    have h' : Rp X.K (bindO w' (slotF r i)) H' c.1 [i + 1] c.2 v := Rp.move (fun p => .inr ⟨p, slotF_keep (by omega) (by omega)⟩) (fun p => slotF_eq (by omega)) h
    obtain ⟨s2, st2⟩ := slot_core (T := i :: (T0 ++ (own.map (·.2) ++ (Tt ++ Te)))) s' hr hl List.mem_cons_self h'
    exact g _ H' _ s2 ((st.mono fun k h => ⟨h.1, fun j hj => h.2 j (List.mem_cons_of_mem _ hj)⟩).trans st2) (Fx.set hM)
end
end DL

/-! DL part 19: methods of texts and lists. -/
namespace DL
open PySem L2
def isStr : D → Bool
  | .str _ => true
  | _ => false
def isLst : D → Bool
  | .lst _ => true
  | _ => false
structure TyOk (K : PySem.W.Frag) (T : String) (ok : D → Bool) : Prop where
  ty : ∀ w H md t d v, ok d = true → Rp K w H md t d v → tyV K T v H
theorem ty_str {K : PySem.W.Frag} : TyOk K "str" isStr := ⟨fun w H md t d v h r => by
  cases d <;> first | cases h | skip
  cases (show _ = _ from r); rfl⟩
theorem ty_lst {K : PySem.W.Frag} : TyOk K "list" isLst := ⟨fun w H md t d v h r => by
  cases d <;> first | cases h | skip
  obtain ⟨a, vs, e, _, ob, _⟩ := r
  subst e
  exact .inl ⟨rfl, vs, SqL.of ob⟩⟩
/-- a method that changes nothing -/
def MtOk (K : PySem.W.Frag) (rr : V → List V → Hp → VK → Prop) (g : Cel → List Cel → Option Cel) : Prop :=
  ∀ r w H c0 cs t0 v0 vs c Q, 0 < r → Dom w H r → Rp K w H c0.1 t0 c0.2 v0 → ArgR K w H cs vs → g c0 cs = some c → (∀ w' H' v, Dom w' H' (r + 1) → Stp (fun k => k < r) w H w' H' → Rp K w' H' c.1 [r] c.2 v → Q v H') → rr v0 vs H Q
def dBm (ok : D → Bool) (g : Cel → List Cel → Option Cel) (f : Rho → Res Cel) (fa : Rho → Res (List Cel)) : Rho → Res Cel := fun ρ => (f ρ).bind fun c ρ1 => if ok c.2 = true then (fa ρ1).bind fun cs ρ2 => ofO (g c cs) ρ2 else .stuck
section
variable {X : Cx} {W : WX}
theorem de_bm {T1 T2 : List Nat} {S : Src} {Ss : List Src} {o e : Expr} {es : List Expr} {f : Rho → Res Cel} {fa : Rho → Res (List Cel)} {Ty id : String} {name : Str} {ok : D → Bool} {rr : V → List V → Hp → VK → Prop} {g : Cel → List Cel → Option Cel} {apos cpos : Pos}
    (pa : PlainAttrs Ty) (slot : Slot Ty name id) (hty : typeOf (.builtin id) = pure (.type "method_descriptor")) (hm : MtR X id rr) (ty : TyOk X.K Ty ok) (hg : MtOk X.K rr g) (A : DE X W T1 S o f) (B : DA X W T2 Ss (e :: es) fa)
    (hT : ∀ i ∈ T2, i < X.N.length := by exact lt_all rfl) (hS : S.lt X.N.length := by first | exact trivial | exact ltS rfl) (off : S.off T2 = true := by rfl)
    (hbase : attributeBase o name X.env (eval o X.env) = eval o X.env := by rfl)
    (hfew : ((backTo cpos (starEach (e :: es) X.env)).all (fun x => !x.1) && (backToKw cpos (keywordEach [] X.env)).all (fun x => x.1.isSome)
      && decide ((e :: es).length + ([] : List Keyword).length + (if ([] : List Keyword).isEmpty then 0 else 1) < 30)) = true := by rfl)
    (hline : (apos.endLine == cpos.line) = true := by rfl) (hs : starEach (e :: es) X.env = (false, eval e X.env) :: starEach es X.env := by rfl) (hplain : (backTo cpos (starEach es X.env)).any (·.1) = false := by rfl) :
    DE X W (T1 ++ T2) .tmp (.Call (.Attribute o name apos) (e :: es) [] cpos) (dBm ok g f fa) := by
  obtain ⟨ta, pa1, A⟩ := A.ex
  obtain ⟨tb, pb, B⟩ := B.ex
  refine ⟨_, pe_bm pa slot hty hm pa1 pb hbase hfew hline hs hplain, fun r w H σ ρ Q hr s gg => A r w H σ ρ _ hr s ?_⟩
  unfold dBm at gg
  cases e1 : f ρ with
  | stuck => rw [e1] at gg; exact gg
  | exc x e' => rw [e1] at gg; exact fun w' H' cls da s' xo st => gg w' H' cls da s' xo (st.mono fun k h => h.l)
  | ok c ρ1 =>
    rw [e1] at gg
    have gg : GoodE X W (T1 ++ T2) .tmp r w H σ Q (if ok c.2 = true then (fa ρ1).bind fun cs ρ2 => ofO (g c cs) ρ2 else .stuck) := gg
    by_cases ho : ok c.2 = true
    · rw [if_pos ho] at gg
      intro w1 H1 v1 t1 s1 o1 h1 st1
      refine ⟨ty.ty _ _ _ _ _ _ ho h1, B (r + 1) w1 H1 σ ρ1 _ (by omega) s1 ?_⟩
      have st1' : Stp (kpE (T1 ++ T2) r) w H w1 H1 := st1.mono fun k h => h.l
      cases e2 : fa ρ1 with
      | stuck => rw [e2] at gg; exact gg
      | exc x e' =>
        rw [e2] at gg
        intro w' H' cls da s' xo st
        exact excUp hr (Nat.le_succ _) gg st1' (fun i hi => List.mem_append_right _ hi) s' xo st
      | ok cs ρ2 =>
        rw [e2] at gg
        intro w2 H2 vs s2 a2 st2
        obtain ⟨k', p, e, hk⟩ := Src.kept o1 off (Nat.lt_succ_self r) hr (Src.lt_of hS) hT
        subst e
        have h2 := h1.stp s1.dom st2 (kpE.zero (by omega)) hk
        have gg : GoodE X W (T1 ++ T2) .tmp r w H σ Q (ofO (g c cs) ρ2) := gg
        cases e3 : g c cs with
        | none => rw [e3] at gg; exact gg.elim
        | some c' =>
          rw [e3] at gg
          exact hg (r + 1 + Ss.length) w2 H2 c cs _ v1 vs c' Q (by omega) s2.dom h2 a2.argR e3 (opEnd hr (by omega) gg s2 (st1'.trans (st2.mono fun k h => h.rt.up (Nat.le_succ _))))
    · rw [if_neg ho] at gg; exact gg.elim
theorem sameHeap' {K : PySem.W.Frag} {r : Nat} {w : Om} {H : Hp} {c : Cel} {v : V} {Q : VK} (d : Dom w H r) (h : Rp K w H c.1 [r] c.2 v) (k : ∀ w' H' v, Dom w' H' (r + 1) → Stp (fun k => k < r) w H w' H' → Rp K w' H' c.1 [r] c.2 v → Q v H') : Q v H := k w H v (d.sub (Nat.le_succ _)) Stp.refl h
def gStr2 (q : Str → Str → D) : Cel → List Cel → Option Cel
  | c, [c'] => match c.2, c'.2 with
    | .str a, .str b => some (.own 0, q a b)
    | _, _ => none
  | _, _ => none
theorem ok_str2 {K : PySem.W.Frag} {q : Str → Str → D} {qv : Str → Str → V} (hq : ∀ a b w H t, Rp K w H (.own 0) t (q a b) (qv a b)) : MtOk K (fun x xs H Q => ∃ a b, x = .str a ∧ xs = [.str b] ∧ Q (qv a b) H) (gStr2 q) := by
  intro r w H c0 cs t0 v0 vs c Q hr d h a e k
  unfold gStr2 at e
  split at e
  · rename_i c'
    obtain ⟨m0, d0⟩ := c0
    obtain ⟨m1, d1⟩ := c'
    obtain ⟨v, t, rfl, h'⟩ := argR1 a
    dsimp only at e h h'
    split at e
    · cases e
      cases (show _ = _ from h); cases (show _ = _ from h')
      exact ⟨_, _, rfl, rfl, sameHeap' (K := K) (c := (.own 0, q _ _)) d (hq _ _ _ _ _) k⟩
    · cases e
  · cases e
abbrev gStarts := gStr2 fun a b => .bl (Txt.startswith a b)
abbrev gEnds := gStr2 fun a b => .bl (Txt.endswith a b)
theorem ok_starts {K : PySem.W.Frag} : MtOk K (fun x xs H Q => ∃ a b, x = .str a ∧ xs = [.str b] ∧ Q (.bl (Txt.startswith a b)) H) gStarts := ok_str2 fun _ _ _ _ _ => rfl
theorem ok_ends {K : PySem.W.Frag} : MtOk K (fun x xs H Q => ∃ a b, x = .str a ∧ xs = [.str b] ∧ Q (.bl (Txt.endswith a b)) H) gEnds := ok_str2 fun _ _ _ _ _ => rfl
/-! ### lists that are changed -/
def LmOk (K : PySem.W.Frag) (rr : V → List V → Hp → VK → Prop) (op : Md → List D → List Cel → Option (Cel × Md × List D)) : Prop :=
  ∀ w H r md t ds vs l cs xs c md' ds', 0 < r → Dom w H r → md.mut = true → RpL K w H md.sub t 0 ds vs → H l = some (.lst vs) → ArgR K w H cs xs → op md ds cs = some (c, md', ds') →
    md'.mut = true ∧ okFlat c ∧ ∃ vs' y, (∀ Q : VK, Q y (upd H l (.lst vs')) → rr (.ref l) xs H Q) ∧ RpL K w H md'.sub t 0 ds' vs' ∧ Rp K w H c.1 [0] c.2 y
def lmRes (op : Md → List D → List Cel → Option (Cel × Md × List D)) (i : Nat) (m : Md) (ds : List D) (p : Tag) (ρ1 : Rho) (cs : List Cel) (ρ2 : Rho) : Res Cel := if m.mut = true then (match op m ds cs with
  | some q => (match putAt i p m q.2.1 (.lst q.2.2) ρ1 ρ2 with
    | some ρ3 => .ok q.1 ρ3
    | none => .stuck)
  | none => .stuck) else .stuck
def lmGo (op : Md → List D → List Cel → Option (Cel × Md × List D)) (i : Nat) (fa : Rho → Res (List Cel)) (cp : Cel × Tag) (ρ1 : Rho) : Res Cel := match cp.1.2 with
  | .lst ds => (fa ρ1).bind (lmRes op i cp.1.1 ds cp.2 ρ1)
  | _ => .stuck
def dLm (op : Md → List D → List Cel → Option (Cel × Md × List D)) (i : Nat) (fP : Rho → Res (Cel × Tag)) (fa : Rho → Res (List Cel)) : Rho → Res Cel := fun ρ => (fP ρ).bind (lmGo op i fa)
theorem lm_core {T1 T2 : List Nat} {Ss : List Src} {i : Nat} {op : Md → List D → List Cel → Option (Cel × Md × List D)} {rr : V → List V → Hp → VK → Prop} (hop : LmOk X.K rr op) {cs : List Cel} {xs : List V} {m : Md} {ds : List D} {p : Tag} {ρ1 ρ2 : Rho} {r : Nat} {w w2 : Om} {H H2 : Hp} {σ : St} {Q : VK}
    (hi : i < X.N.length) (mi : i ∈ T1 ++ (T2 ++ [i])) (hr : X.N.length < r) (s2 : Sat X.K X.N.length (r + Ss.length) w2 H2 σ ρ2) (a2 : ArgR X.K w2 H2 cs xs) (st : Stp (kpE (T1 ++ (T2 ++ [i])) r) w H w2 H2)
    {c0 : Cel} {v0 v1 : V} (ec : ρ1[i]? = some (some c0)) (ev : σ[i]? = some (some v0)) (ra2 : RA X.K w2 H2 p c0.1 [i + 1] c0.2 v0 m (.lst ds) v1)
    (g : GoodE X W (T1 ++ (T2 ++ [i])) .tmp r w H σ Q (lmRes op i m ds p ρ1 cs ρ2)) : rr v1 xs H2 Q := by
  unfold lmRes at g
  by_cases hmm : m.mut = true
  · rw [if_pos hmm] at g
    cases e3 : op m ds cs with
    | none => rw [e3] at g; exact g.elim
    | some q =>
      obtain ⟨c, md', ds'⟩ := q
      rw [e3] at g
      have g : GoodE X W (T1 ++ (T2 ++ [i])) .tmp r w H σ Q (match putAt i p m md' (.lst ds') ρ1 ρ2 with
        | some ρ3 => .ok c ρ3
        | none => .stuck) := g
      cases e4 : putAt i p m md' (.lst ds') ρ1 ρ2 with
      | none => rw [e4] at g; exact g.elim
      | some ρ3 =>
        rw [e4] at g
        obtain ⟨b, vs, eb, nd, ob, rl⟩ := RA.rp p ra2
        subst eb
        have hb : w2 b = some ((i + 1) :: p) := nd.mut hmm
        obtain ⟨hm', fl, vs', y, run, rl', hy⟩ := hop w2 H2 (r + Ss.length) m _ ds vs b cs xs c md' ds' (by omega) s2.dom hmm rl ob a2 e3
        refine run Q ?_
        have hn : Rp X.K w2 (upd H2 b (.lst vs')) md' ((i + 1) :: p) (.lst ds') (.ref b) :=
          ⟨b, vs', rfl, Nd.of_mut hm' hb, upd_same, RpL.write' rl' s2.dom hb (fun _ => slot_tag) fun j p' _ => fun z => by
            have := congrArg List.length z
            simp at this⟩
        have hy' : Rp X.K w2 (upd H2 b (.lst vs')) c.1 [r] c.2 y := (hy.write s2.dom hb (fun _ => slot_tag) fun q z => by cases z).anyT fl
        obtain ⟨s4, st4⟩ := write_core (T := T1 ++ (T2 ++ [i])) (o := .lst vs') s2 (by omega) hi mi ev ra2 hb trivial hn ec e4
        have ct : Stp (fun k => k < r) w2 (upd H2 b (.lst vs')) (cutO w2 r) (upd H2 b (.lst vs')) := Stp.cut fun _ h => h
        have hy3 : Rp X.K (cutO w2 r) (upd H2 b (.lst vs')) c.1 [r] c.2 y := ((hy'.anyT (t' := [0]) fl).stp s4.dom ct (by show 0 < r; omega) (by show 0 < r; omega)).anyT fl
        exact g _ _ y [r] ((s4.cut hr).up (Nat.le_succ _)) rfl hy3 (st.trans ((st4.mono fun k h => h.up (Nat.le_add_right _ _)).trans (ct.mono fun k h => h.1)))
  · rw [if_neg hmm] at g; exact g.elim
theorem off_kpE {T2 : List Nat} {i r : Nat} (off : T2.contains i = false) (h : i + 1 < r) : kpE T2 r (i + 1) := ⟨h, fun j hj z => by
  have : j = i := by omega
  subst this
  have : T2.contains j = true := by simp [hj]
  rw [off] at this; cases this⟩
theorem de_lm {T1 T2 : List Nat} {i : Nat} {Ss : List Src} {o e : Expr} {es : List Expr} {fP : Rho → Res (Cel × Tag)} {fa : Rho → Res (List Cel)} {id : String} {name : Str} {rr : V → List V → Hp → VK → Prop} {op : Md → List D → List Cel → Option (Cel × Md × List D)} {apos cpos : Pos}
    (slot : Slot "list" name id) (hty : typeOf (.builtin id) = pure (.type "method_descriptor")) (hm : MtR X id rr) (hop : LmOk X.K rr op) (A : DP X W T1 i o fP) (B : DA X W T2 Ss (e :: es) fa) (off : T2.contains i = false := by rfl)
    (hbase : attributeBase o name X.env (eval o X.env) = eval o X.env := by rfl)
    (hfew : ((backTo cpos (starEach (e :: es) X.env)).all (fun x => !x.1) && (backToKw cpos (keywordEach [] X.env)).all (fun x => x.1.isSome)
      && decide ((e :: es).length + ([] : List Keyword).length + (if ([] : List Keyword).isEmpty then 0 else 1) < 30)) = true := by rfl)
    (hline : (apos.endLine == cpos.line) = true := by rfl) (hs : starEach (e :: es) X.env = (false, eval e X.env) :: starEach es X.env := by rfl) (hplain : (backTo cpos (starEach es X.env)).any (·.1) = false := by rfl) :
    DE X W (T1 ++ (T2 ++ [i])) .tmp (.Call (.Attribute o name apos) (e :: es) [] cpos) (dLm op i fP fa) := by
  have hi := A.lt
  obtain ⟨ta, pa, A⟩ := A.ex
  obtain ⟨tb, pb, B⟩ := B.ex
  refine ⟨_, pe_bm PySem.F.plainAttrs_list slot hty hm pa pb hbase hfew hline hs hplain, fun r w H σ ρ Q hr s g => A r w H σ ρ _ hr s ?_⟩
  unfold dLm at g
  have mi : i ∈ T1 ++ (T2 ++ [i]) := List.mem_append_right _ (List.mem_append_right _ List.mem_cons_self)
  cases e1 : fP ρ with
  | stuck => rw [e1] at g; exact g
  | exc x e' => rw [e1] at g; exact fun w' H' cls da s' xo st => g w' H' cls da s' xo (st.mono fun k h => h.l)
  | ok cp ρ1 =>
    obtain ⟨⟨m, d⟩, p⟩ := cp
    rw [e1] at g
    intro w1 H1 v1 s1 p1 st1
    have st1' : Stp (kpE (T1 ++ (T2 ++ [i])) r) w H w1 H1 := st1.mono fun k h => h.l
    have g : GoodE X W (T1 ++ (T2 ++ [i])) .tmp r w H σ Q (lmGo op i fa ((m, d), p) ρ1) := g
    cases d with
    | lst ds =>
      have g : GoodE X W (T1 ++ (T2 ++ [i])) .tmp r w H σ Q ((fa ρ1).bind (lmRes op i m ds p ρ1)) := g
      have t0 : tyV X.K "list" v1 H1 := by
        obtain ⟨q, h⟩ := p1.rp
        obtain ⟨a, vs, ea, _, ob, _⟩ := h
        subst ea
        exact .inl ⟨rfl, vs, SqL.of ob⟩
      refine ⟨t0, B r w1 H1 σ ρ1 _ hr s1 ?_⟩
      cases e2 : fa ρ1 with
      | stuck => rw [e2] at g; exact g
      | exc x e' => rw [e2] at g; exact fun w' H' cls da s' xo st => g w' H' cls da s' xo (st1'.trans (st.mono fun k h => h.rt.l))
      | ok cs ρ2 =>
        rw [e2] at g
        intro w2 H2 xs s2 a2 st2
        have hk : kpE T2 r (i + 1) := off_kpE off (by omega)
        rcases p1 with ⟨c0, v0, ec, ev, ra⟩ | ⟨z, _⟩
        · have ra2 := RA.map (st2.mp s1.dom (kpE.zero (by omega))) p ⟨rfl, rfl, i + 1, [], rfl, hk⟩ ra
          exact lm_core hop hi mi hr s2 a2.argR (st1'.trans (st2.mono fun k h => h.rt.l)) ec ev ra2 g
        · exact (not_imm_lst z).elim
    | _ => exact g.elim
theorem de_lm0 {T1 : List Nat} {i : Nat} {o : Expr} {fP : Rho → Res (Cel × Tag)} {id : String} {name : Str} {rr : V → List V → Hp → VK → Prop} {op : Md → List D → List Cel → Option (Cel × Md × List D)} {apos cpos : Pos}
    (slot : Slot "list" name id) (hty : typeOf (.builtin id) = pure (.type "method_descriptor")) (hm : MtR X id rr) (hop : LmOk X.K rr op) (A : DP X W T1 i o fP)
    (hbase : attributeBase o name X.env (eval o X.env) = eval o X.env := by rfl) (hline : (apos.endLine == cpos.line) = true := by rfl) :
    DE X W (T1 ++ ([] ++ [i])) .tmp (.Call (.Attribute o name apos) [] [] cpos) (dLm op i fP dNil) := by
  have hi := A.lt
  obtain ⟨ta, pa, A⟩ := A.ex
  refine ⟨_, pe_bm0 PySem.F.plainAttrs_list slot hty hm pa hbase hline, fun r w H σ ρ Q hr s g => A r w H σ ρ _ hr s ?_⟩
  unfold dLm at g
  have mi : i ∈ T1 ++ ([] ++ [i]) := List.mem_append_right _ (List.mem_append_right _ List.mem_cons_self)
  cases e1 : fP ρ with
  | stuck => rw [e1] at g; exact g
  | exc x e' => rw [e1] at g; exact fun w' H' cls da s' xo st => g w' H' cls da s' xo (st.mono fun k h => h.l)
  | ok cp ρ1 =>
    obtain ⟨⟨m, d⟩, p⟩ := cp
    rw [e1] at g
    intro w1 H1 v1 s1 p1 st1
    have st1' : Stp (kpE (T1 ++ ([] ++ [i])) r) w H w1 H1 := st1.mono fun k h => h.l
    have g : GoodE X W (T1 ++ ([] ++ [i])) .tmp r w H σ Q (lmGo op i dNil ((m, d), p) ρ1) := g
    cases d with
    | lst ds =>
      have g : GoodE X W (T1 ++ ([] ++ [i])) .tmp r w H σ Q (lmRes op i m ds p ρ1 [] ρ1) := g
      have t0 : tyV X.K "list" v1 H1 := by
        obtain ⟨q, h⟩ := p1.rp
        obtain ⟨a, vs, ea, _, ob, _⟩ := h
        subst ea
        exact .inl ⟨rfl, vs, SqL.of ob⟩
      rcases p1 with ⟨c0, v0, ec, ev, ra⟩ | ⟨z, _⟩
      · exact ⟨t0, lm_core (Ss := []) (cs := []) (xs := []) hop hi mi hr s1 (show ArgR X.K w1 H1 [] [] from trivial) st1' ec ev ra g⟩
      · exact (not_imm_lst z).elim
    | _ => exact g.elim
end
/-! ### the operations -/
section
variable {K : PySem.W.Frag} {w : Om} {H : Hp}
theorem RpL.iff {md : Md} {t : Tag} : ∀ {ds : List D} {i : Nat} {vs : List V}, RpL K w H md t i ds vs ↔ (vs.length = ds.length ∧ ∀ (j : Nat) (d : D) (v : V), ds[j]? = some d → vs[j]? = some v → Rp K w H md (t ++ [i + j]) d v)
  | [], i, vs => ⟨fun h => by
      cases (show vs = [] from h)
      exact ⟨rfl, fun j d v e => by simp at e⟩, fun ⟨h, _⟩ => by
      have : vs = [] := List.eq_nil_of_length_eq_zero h
      exact this⟩
  | d :: ds, i, vs => ⟨fun h => by
      refine ⟨h.length, fun j d' v e1 e2 => ?_⟩
      obtain ⟨u, h1, h2⟩ := h.get e1
      rw [h1] at e2
      cases e2
      exact h2, fun ⟨h1, h2⟩ => by
      match vs, h1 with
      | v :: vs, h1 =>
        refine ⟨v, vs, rfl, h2 0 d v rfl rfl, RpL.iff.mpr ⟨Nat.succ.inj h1, fun j d' v' e1 e2 => ?_⟩⟩
        have := h2 (j + 1) d' v' (by simpa using e1) (by simpa using e2)
        rw [show i + (j + 1) = i + 1 + j by omega] at this
        exact this⟩
/-- flat items, wherever they stand -/
theorem RpL.any {md : Md} {t : Tag} {i : Nat} {ds : List D} {vs : List V} (f : immL ds = true ∨ md.flat) (h : RpL K w H md t i ds vs) {j : Nat} {d : D} {v : V} (e1 : ds[j]? = some d) (e2 : vs[j]? = some v) (t' : Tag) : Rp K w H md t' d v := by
  have h1 := (RpL.iff.mp h).2 j d v e1 e2
  rcases f with f | f
  · exact Rp.imm ⟨fun _ _ x => x, fun _ _ _ x => x⟩ _ (immL_get f e1) h1
  · exact h1.retagF f
end
/-- the items may stand anywhere -/
def flatB (m : Md) (ds : List D) : Bool := immL ds || (match m with
  | .own (_ + 1) => false
  | .all => false
  | _ => true)
theorem flatB_ok {m : Md} {ds : List D} (h : flatB m ds = true) : immL ds = true ∨ m.flat := by
  unfold flatB at h
  rw [Bool.or_eq_true] at h
  rcases h with h | h
  · exact .inl h
  · refine .inr ?_
    cases m with
    | lent => trivial
    | all => cases h
    | own n => cases n with
      | zero => trivial
      | succ n => cases h
def opRev : Md → List D → List Cel → Option (Cel × Md × List D)
  | m, ds, [] => if flatB m.sub ds = true then some ((.own 0, .non), m, ds.reverse) else none
  | _, _, _ => none
theorem ok_rev {K : PySem.W.Frag} : LmOk K rReverse opRev := by
  intro w H r md t ds vs l cs xs c md' ds' hr d hm rl hl a e
  unfold opRev at e
  split at e
  · split at e
    · rename_i hf
      cases e
      cases xs with
      | nil =>
        refine ⟨hm, .inl rfl, vs.reverse, .non, fun Q q => ⟨l, vs, rfl, rfl, hl, q⟩, RpL.iff.mpr ⟨by rw [List.length_reverse, List.length_reverse, rl.length], fun j d' v e1 e2 => ?_⟩, rfl⟩
        have ll := rl.length
        have h1 := (List.getElem?_eq_some_iff.mp e1).1
        rw [List.length_reverse] at h1
        rw [List.getElem?_reverse h1] at e1
        rw [List.getElem?_reverse (by omega), ll] at e2
        exact rl.any (flatB_ok hf) e1 e2 _
      | cons x xs => exact a.elim
    · cases e
  · cases e
def opClr : Md → List D → List Cel → Option (Cel × Md × List D)
  | m, _, [] => some ((.own 0, .non), m, [])
  | _, _, _ => none
theorem ok_clr {K : PySem.W.Frag} : LmOk K rClear opClr := by
  intro w H r md t ds vs l cs xs c md' ds' hr d hm rl hl a e
  unfold opClr at e
  split at e
  · cases e
    cases xs with
    | nil => exact ⟨hm, .inl rfl, [], .non, fun Q q => ⟨l, vs, rfl, rfl, hl, q⟩, (rfl : ([] : List V) = []), rfl⟩
    | cons x xs => exact a.elim
  · cases e
/-- the last item goes -/
def opPop : Md → List D → List Cel → Option (Cel × Md × List D)
  | m, ds, [] => (ds[ds.length - 1]?).bind fun d => (asVal (m.sub, d)).map fun c => (c, m, ds.dropLast)
  | _, _, _ => none
theorem ok_pop {K : PySem.W.Frag} : LmOk K rPop opPop := by
  intro w H r md t ds vs l cs xs c md' ds' hr d hm rl hl a e
  unfold opPop at e
  split at e
  · cases e1 : ds[ds.length - 1]? with
    | none => rw [e1] at e; cases e
    | some d' =>
      rw [e1] at e
      have e : (asVal (md.sub, d')).map (fun c => (c, md, ds.dropLast)) = some (c, md', ds') := e
      cases e2 : asVal (md.sub, d') with
      | none => rw [e2] at e; cases e
      | some c' =>
        rw [e2] at e
        cases e
        cases xs with
        | nil =>
          have ll := rl.length
          obtain ⟨v, h1, h2⟩ := rl.get e1
          refine ⟨hm, asVal_flat e2, vs.dropLast, v, fun Q q => ⟨l, vs, v, rfl, rfl, hl, by rw [ll]; exact h1, q⟩, RpL.iff.mpr ⟨by rw [List.length_dropLast, List.length_dropLast, ll], fun j d2 v2 e3 e4 => ?_⟩, asVal_ok e2 h2⟩
          have l3 := (List.getElem?_eq_some_iff.mp e3).1
          rw [List.length_dropLast] at l3
          rw [List.getElem?_dropLast, if_pos l3] at e3
          rw [List.getElem?_dropLast, if_pos (by omega)] at e4
          exact (RpL.iff.mp rl).2 j d2 v2 e3 e4
        | cons x xs => exact a.elim
  · cases e
theorem immL_append : ∀ {a b : List D}, immL (a ++ b) = (immL a && immL b)
  | [], b => by show immL b = (true && immL b); rw [Bool.true_and]
  | d :: a, b => by
    show (imm d && immL (a ++ b)) = ((imm d && immL a) && immL b)
    rw [immL_append, Bool.and_assoc]
/-- the items of another list at the end -/
def opExt : Md → List D → List Cel → Option (Cel × Md × List D)
  | m, ds, [c] => match c.2 with
    | .lst es => if ds.length + es.length ≤ sizeLine then (if immL es = true then some ((.own 0, .non), m, ds ++ es) else (match m, c.1.sub with
      | .own 1, .own 0 => some ((.own 0, .non), m, ds ++ es)
      | .all, .own 0 => if immL ds = true then some ((.own 0, .non), .own 1, ds ++ es) else none
      | _, _ => none)) else none
    | _ => none
  | _, _, _ => none
theorem ok_ext {K : PySem.W.Frag} : LmOk K rExtend opExt := by
  intro w H r md t ds vs l cs xs c md' ds' hr d hm rl hl a e
  unfold opExt at e
  split at e
  · rename_i c0
    obtain ⟨m0, d0⟩ := c0
    obtain ⟨v, t1, rfl, h'⟩ := argR1 a
    dsimp only at e h'
    split at e
    · rename_i es
      obtain ⟨b, us, eb, _, ob, ru⟩ := h'
      subst eb
      split at e
      · rename_i hz
        have run : ∀ Q : VK, Q .non (upd H l (.lst (vs ++ us))) → rExtend (.ref l) [.ref b] H Q := fun Q q => ⟨l, b, vs, us, rfl, rfl, hl, ob, by rw [rl.length, ru.length]; exact hz, q⟩
        split at e
        · rename_i hi
          cases e
          exact ⟨hm, .inl rfl, _, .non, run, RpL.append rl (RpL.imm ⟨fun _ _ x => x, fun _ _ _ x => x⟩ _ hi ru), rfl⟩
        · split at e
          · rename_i q
            cases e
            rw [q] at ru
            exact ⟨hm, .inl rfl, _, .non, run, RpL.append rl (RpL.retagF (show Md.flat (.own 0) from trivial) (ds := es) (vs := us) ru), rfl⟩
          · rename_i q
            split at e
            · rename_i hi
              cases e
              rw [q] at ru
              exact ⟨rfl, .inl rfl, _, .non, run, RpL.append (RpL.imm ⟨fun _ _ x => x, fun _ _ _ x => x⟩ _ hi rl) (RpL.retagF (show Md.flat (.own 0) from trivial) (ds := es) (vs := us) ru), rfl⟩
            · cases e
          · cases e
      · cases e
    · cases e
  · cases e
end DL

/-! DL part 20: P[e] = e'. -/
namespace DL
open PySem L2
section
variable {K : PySem.W.Frag} {w : Om} {H : Hp} {md m : Md} {t : Tag}
theorem RpK.iffL : ∀ {kvs : List (Key × D)} {i : Nat} {ws : List (Key × V)}, RpK K w H md t i kvs ws ↔ (ws.map Prod.fst = kvs.map Prod.fst ∧ RpL K w H md t i (kvs.map Prod.snd) (ws.map Prod.snd))
  | [], i, ws => ⟨fun h => by
      cases (show ws = [] from h)
      exact ⟨rfl, rfl⟩, fun ⟨h, _⟩ => by
      show ws = []
      exact List.map_eq_nil_iff.mp h⟩
  | (k, d) :: kvs, i, ws => ⟨fun ⟨v, r, e, h1, h2⟩ => by
      subst e
      have q := RpK.iffL.mp h2
      exact ⟨by simp [q.1], v, r.map Prod.snd, rfl, h1, q.2⟩, fun ⟨h1, v, r, e, h3, h4⟩ => by
      match ws, h1, e with
      | (k', v') :: ws, h1, e =>
        have h1' : k' :: ws.map Prod.fst = k :: kvs.map Prod.fst := h1
        have e' : v' :: ws.map Prod.snd = v :: r := e
        cases e'
        obtain ⟨rfl, h5⟩ := List.cons.inj h1'
        exact ⟨_, ws, rfl, h3, RpK.iffL.mpr ⟨h5, h4⟩⟩⟩
theorem RpT.iffL : ∀ {kvs : List (List Key × D)} {i : Nat} {ws : List (List Key × V)}, RpT K w H md t i kvs ws ↔ (ws.map Prod.fst = kvs.map Prod.fst ∧ RpL K w H md t i (kvs.map Prod.snd) (ws.map Prod.snd))
  | [], i, ws => ⟨fun h => by
      cases (show ws = [] from h)
      exact ⟨rfl, rfl⟩, fun ⟨h, _⟩ => by
      show ws = []
      exact List.map_eq_nil_iff.mp h⟩
  | (k, d) :: kvs, i, ws => ⟨fun ⟨v, r, e, h1, h2⟩ => by
      subst e
      have q := RpT.iffL.mp h2
      exact ⟨by simp [q.1], v, r.map Prod.snd, rfl, h1, q.2⟩, fun ⟨h1, v, r, e, h3, h4⟩ => by
      match ws, h1, e with
      | (k', v') :: ws, h1, e =>
        have h1' : k' :: ws.map Prod.fst = k :: kvs.map Prod.fst := h1
        have e' : v' :: ws.map Prod.snd = v :: r := e
        cases e'
        obtain ⟨rfl, h5⟩ := List.cons.inj h1'
        exact ⟨_, ws, rfl, h3, RpT.iffL.mpr ⟨h5, h4⟩⟩⟩
theorem RpL.set {ds : List D} {i j : Nat} {vs : List V} {d : D} {v : V} (h : RpL K w H md t i ds vs) (hd : Rp K w H md (t ++ [i + j]) d v) : RpL K w H md t i (ds.set j d) (vs.set j v) := by
  have hl := h.length
  refine RpL.iff.mpr ⟨by rw [List.length_set, List.length_set, hl], fun j' d' v' e1 e2 => ?_⟩
  by_cases z : j = j'
  · subst z
    have l1 := (List.getElem?_eq_some_iff.mp e1).1
    rw [List.length_set] at l1
    rw [List.getElem?_set_self l1] at e1
    rw [List.getElem?_set_self (by omega)] at e2
    cases e1; cases e2
    exact hd
  · rw [List.getElem?_set_ne z] at e1 e2
    exact (RpL.iff.mp h).2 j' d' v' e1 e2
/-- the items with a new one, as they are then held -/
theorem item_rp {ds : List D} {vs : List V} {c : Cel} {v : V} {j : Nat} (e : appMd m ds c = some md) (rl : RpL K w H m.sub t 0 ds vs) (h1 : imm c.2 = true → ∀ md t, Rp K w H md t c.2 v) (h2 : Rp K w H c.1 (t ++ [j]) c.2 v) :
    md.mut = true ∧ RpL K w H md.sub t 0 ds vs ∧ Rp K w H md.sub (t ++ [j]) c.2 v := by
  refine ⟨appMd_mut e, ?_⟩
  obtain ⟨hmm, q⟩ := appMd_cases e
  rcases q with ⟨hc, em⟩ | ⟨em, em2, ec1⟩ | ⟨em, em2, ec1⟩ | ⟨em, em2, ec1, hl⟩
  · subst em
    exact ⟨rl, h1 hc _ _⟩
  · subst em; subst em2
    rw [ec1] at h2
    exact ⟨rl, h2⟩
  · subst em; subst em2
    rw [ec1] at h2
    exact ⟨rl, h2⟩
  · subst em; subst em2
    rw [ec1] at h2
    exact ⟨RpL.imm ⟨fun _ _ x => x, fun _ _ _ x => x⟩ _ hl rl, h2⟩
end
/-! ### dicts by their items -/
section
variable {κ : Type} [DecidableEq κ]
/-- in its place, or at the end -/
def putKD (kvs : List (κ × D)) (k : κ) (d : D) : Option (List (κ × D)) := match posK kvs k with
  | none => some (kvs ++ [(k, d)])
  | some j => if ((kvs.drop (j + 1)).all fun p => decide (p.1 ≠ k)) = true then some (kvs.set j (k, d)) else none
theorem any_keys {kvs : List (κ × D)} {ws : List (κ × V)} {k : κ} (h : ws.map Prod.fst = kvs.map Prod.fst) : (ws.any fun kv => decide (kv.1 = k)) = (kvs.any fun kv => decide (kv.1 = k)) := by
  have e1 : (ws.any fun kv => decide (kv.1 = k)) = (ws.map Prod.fst).any fun x => decide (x = k) := by rw [List.any_map]; rfl
  have e2 : (kvs.any fun kv => decide (kv.1 = k)) = (kvs.map Prod.fst).any fun x => decide (x = k) := by rw [List.any_map]; rfl
  rw [e1, e2, h]
theorem posK_none {kvs : List (κ × D)} {k : κ} (e : posK kvs k = none) : (kvs.any fun kv => decide (kv.1 = k)) = false := by
  unfold posK at e
  rw [List.findIdx?_eq_none_iff] at e
  rw [List.any_eq_false]
  exact fun x hx => by rw [e x hx]; exact Bool.false_ne_true
theorem posK_at {kvs : List (κ × D)} {k : κ} {j : Nat} (e : posK kvs k = some j) : ∃ d, kvs[j]? = some (k, d) := by
  unfold posK at e
  rw [List.findIdx?_eq_some_iff_getElem] at e
  obtain ⟨h, h1, _⟩ := e
  have : (kvs[j]).1 = k := of_decide_eq_true h1
  exact ⟨kvs[j].2, by rw [List.getElem?_eq_getElem h]; congr 1; rw [← this]⟩
theorem posK_before {kvs : List (κ × D)} {k : κ} {j j' : Nat} {k2 : κ} {d : D} (e : posK kvs k = some j) (hj : j' < j) (h : kvs[j']? = some (k2, d)) : k2 ≠ k := by
  unfold posK at e
  rw [List.findIdx?_eq_some_iff_getElem] at e
  obtain ⟨hl, _, h2⟩ := e
  have := h2 j' hj
  have hj' : j' < kvs.length := by omega
  rw [List.getElem?_eq_getElem hj'] at h
  have e2 := Option.some.inj h
  intro z
  rw [e2] at this
  exact this (decide_eq_true z)
theorem putK_end {kvs : List (κ × D)} {ws : List (κ × V)} {k : κ} {v : V} (h : ws.map Prod.fst = kvs.map Prod.fst) (e : posK kvs k = none) : putK ws k v = ws ++ [(k, v)] := by
  unfold putK
  rw [any_keys h, posK_none e]; rfl
theorem putK_in {kvs : List (κ × D)} {ws : List (κ × V)} {k : κ} {v : V} {j : Nat} (h : ws.map Prod.fst = kvs.map Prod.fst) (e : posK kvs k = some j) (hr : ((kvs.drop (j + 1)).all fun p => decide (p.1 ≠ k)) = true) : putK ws k v = ws.set j (k, v) := by
  obtain ⟨d, hd⟩ := posK_at e
  have hj := (List.getElem?_eq_some_iff.mp hd).1
  have hl : ws.length = kvs.length := by
    have := congrArg List.length h
    rwa [List.length_map, List.length_map] at this
  have keys : ∀ {i : Nat} {p : κ × V}, ws[i]? = some p → ∃ d, kvs[i]? = some (p.1, d) := fun {i p} ei => by
    have : (ws.map Prod.fst)[i]? = (kvs.map Prod.fst)[i]? := by rw [h]
    rw [List.getElem?_map, List.getElem?_map, ei] at this
    cases q : kvs[i]? with
    | none => rw [q] at this; cases this
    | some z =>
      rw [q] at this
      have : some p.1 = some z.1 := this
      exact ⟨z.2, by rw [Option.some.inj this]⟩
  have ha : (ws.any fun kv => decide (kv.1 = k)) = true := by
    rw [any_keys h, List.any_eq_true]
    exact ⟨(k, d), List.mem_of_getElem? hd, decide_eq_true rfl⟩
  unfold putK
  rw [if_pos ha]
  refine List.ext_getElem? fun i => ?_
  rw [List.getElem?_map]
  by_cases z : j = i
  · subst z
    rw [List.getElem?_set_self (by omega)]
    cases q : ws[j]? with
    | none => rw [List.getElem?_eq_none_iff] at q; omega
    | some p =>
      obtain ⟨d2, hd2⟩ := keys q
      rw [hd] at hd2
      cases hd2
      show some (if p.1 = p.1 then _ else _) = _
      rw [if_pos rfl]
  · rw [List.getElem?_set_ne z]
    cases q : ws[i]? with
    | none => rfl
    | some p =>
      obtain ⟨d2, hd2⟩ := keys q
      have hne : p.1 ≠ k := by
        rcases Nat.lt_or_gt_of_ne z with hlt | hgt
        · have hm : (p.1, d2) ∈ kvs.drop (j + 1) := by
            refine List.mem_of_getElem? (i := i - (j + 1)) ?_
            rw [List.getElem?_drop, show j + 1 + (i - (j + 1)) = i by omega]; exact hd2
          exact of_decide_eq_true (List.all_eq_true.mp hr _ hm)
        · exact posK_before e hgt hd2
      show some (if p.1 = k then _ else p) = some p
      rw [if_neg hne]
end
/-- the changed container, as it is then held; the new item's place -/
def putIt (m : Md) (d : D) (k c : Cel) : Option (Md × D × Nat) := match d with
  | .lst ds => (match k.2 with
    | .int i => (ixN ds.length i).bind fun j => (appMd m ds c).map fun md => (md, .lst (ds.set j c.2), j)
    | _ => none)
  | .dK kvs => (keyOf k.2).bind fun k => (appMd m (kvs.map Prod.snd) c).bind fun md => if kvs.length < sizeLine then (putKD kvs k c.2).map fun kvs' => (md, .dK kvs', (posK kvs k).getD kvs.length) else none
  | .dT kvs => (match k.2 with
    | .tup ks => (keysOf ks).bind fun k => (appMd m (kvs.map Prod.snd) c).bind fun md => if ks.isEmpty = false ∧ kvs.length < sizeLine then (putKD kvs k c.2).map fun kvs' => (md, .dT kvs', (posK kvs k).getD kvs.length) else none
    | _ => none)
  | _ => none
def rSetA : TSet := fun o i v H Q => rSetL o i v H Q ∨ rSetD o i v H Q
theorem set_A {X : Cx} (hu : X.A.units + 1 < cLine) : PSet X rSetA := fun pins s σ H o i v ov iv u Q I ro ri rv h => h.elim (set_list pins s σ H o i v ov iv u Q I ro ri rv) (set_dict hu pins s σ H o i v ov iv u Q I ro ri rv)
section
variable {K : PySem.W.Frag} {w : Om} {H : Hp} {r : Nat}
theorem RpL.wr {b : Addr} {o : HO} {k : Nat} {p : Tag} {md : Md} {ds : List D} {vs : List V} (dm : Dom w H r) (hb : w b = some ((k + 1) :: p)) (rl : RpL K w H md ((k + 1) :: p) 0 ds vs) : RpL K w (upd H b o) md ((k + 1) :: p) 0 ds vs :=
  RpL.write' rl dm hb (fun _ => slot_tag) fun j p' _ => fun z => by
    have := congrArg List.length z
    simp at this
/-- what is written -/
theorem putIt_ok {m md : Md} {d d' : D} {k c : Cel} {j kk : Nat} {p : Tag} {b : Addr} {tk : Tag} {kv v : V} (dm : Dom w H r) (hm : m.mut = true) (e : putIt m d k c = some (md, d', j)) (h : Rp K w H m ((kk + 1) :: p) d (.ref b)) (hk : Rp K w H k.1 tk k.2 kv)
    (h1 : imm c.2 = true → ∀ md t, Rp K w H md t c.2 v) (h2 : Rp K w H c.1 ((kk + 1) :: (p ++ [j])) c.2 v) :
    ∃ o, w b = some ((kk + 1) :: p) ∧ Mut (some o) ∧ Rp K w (upd H b o) md ((kk + 1) :: p) d' (.ref b) ∧ ∀ Q : Hp → Prop, Q (upd H b o) → rSetA (.ref b) kv v H Q := by
  obtain ⟨km, kd⟩ := k
  unfold putIt at e
  split at e
  · rename_i ds
    obtain ⟨a, vs, ea, nd, ob, rl⟩ := h
    cases ea
    have hb := nd.mut hm
    split at e
    · rename_i i q
      dsimp only at q
      subst q
      cases (show _ = _ from hk)
      cases e1 : ixN ds.length i with
      | none => rw [e1] at e; cases e
      | some j' =>
        rw [e1] at e
        have e : (appMd m ds c).map (fun md => (md, D.lst (ds.set j' c.2), j')) = some (md, d', j) := e
        cases e2 : appMd m ds c with
        | none => rw [e2] at e; cases e
        | some md' =>
          rw [e2] at e
          cases e
          obtain ⟨hm', r1, r2⟩ := item_rp (j := j) e2 rl h1 h2
          refine ⟨.lst (vs.set j v), hb, trivial, ⟨b, _, rfl, Nd.of_mut hm' hb, upd_same, RpL.wr dm hb (RpL.set r1 (by rw [Nat.zero_add]; exact r2))⟩, fun Q q => .inl ⟨b, vs, i, j, rfl, rfl, ob, by rw [rl.length]; exact e1, q⟩⟩
    · cases e
  · rename_i kvs
    obtain ⟨a, ws, ea, nd, ob, rk⟩ := h
    cases ea
    have hb := nd.mut hm
    cases e1 : keyOf kd with
    | none => rw [e1] at e; cases e
    | some k =>
      rw [e1] at e
      have e : (appMd m (kvs.map Prod.snd) c).bind (fun md => if kvs.length < sizeLine then (putKD kvs k c.2).map fun kvs' => (md, D.dK kvs', (posK kvs k).getD kvs.length) else none) = some (md, d', j) := e
      cases e2 : appMd m (kvs.map Prod.snd) c with
      | none => rw [e2] at e; cases e
      | some md' =>
        rw [e2] at e
        have e : (if kvs.length < sizeLine then (putKD kvs k c.2).map fun kvs' => (md', D.dK kvs', (posK kvs k).getD kvs.length) else none) = some (md, d', j) := e
        split at e
        · rename_i hz
          obtain ⟨hkeys, rl⟩ := RpK.iffL.mp rk
          have hlen : ws.length = kvs.length := by
            have := congrArg List.length hkeys
            rwa [List.length_map, List.length_map] at this
          cases e3 : putKD kvs k c.2 with
          | none => rw [e3] at e; cases e
          | some kvs' =>
            rw [e3] at e
            cases e
            have ev := keyOf_kV e1 hk
            subst ev
            obtain ⟨hm', r1, r2⟩ := item_rp (j := (posK kvs k).getD kvs.length) e2 rl h1 h2
            refine ⟨.dK (putK ws k v), hb, trivial, ⟨b, putK ws k v, rfl, Nd.of_mut hm' hb, upd_same, RpK.iffL.mpr ?_⟩, fun Q q => .inr ⟨b, _, rfl, DPut.k ob (by rw [hlen]; exact hz), q⟩⟩
            unfold putKD at e3
            cases e4 : posK kvs k with
            | none =>
              rw [e4] at e3 r2
              cases e3
              rw [putK_end hkeys e4]
              refine ⟨by simp [hkeys], ?_⟩
              rw [List.map_append, List.map_append]
              refine RpL.wr dm hb (RpL.append r1 ⟨v, [], rfl, ?_, rfl⟩)
              rw [Nat.zero_add, List.length_map]; exact r2
            | some j =>
              rw [e4] at e3 r2
              have e3 : (if ((kvs.drop (j + 1)).all fun p => decide (p.1 ≠ k)) = true then some (kvs.set j (k, c.2)) else none) = some kvs' := e3
              split at e3
              · rename_i hr
                cases e3
                rw [putK_in hkeys e4 hr]
                refine ⟨by rw [List.map_set, List.map_set, hkeys], ?_⟩
                rw [List.map_set, List.map_set]
                exact RpL.wr dm hb (RpL.set r1 (by rw [Nat.zero_add]; exact r2))
              · cases e3
        · cases e
  · rename_i kvs
    obtain ⟨a, ws, ea, nd, ob, rk⟩ := h
    cases ea
    have hb := nd.mut hm
    split at e
    · rename_i ks q
      dsimp only at q
      subst q
      cases e1 : keysOf ks with
      | none => rw [e1] at e; cases e
      | some k =>
        rw [e1] at e
        have e : (appMd m (kvs.map Prod.snd) c).bind (fun md => if ks.isEmpty = false ∧ kvs.length < sizeLine then (putKD kvs k c.2).map fun kvs' => (md, D.dT kvs', (posK kvs k).getD kvs.length) else none) = some (md, d', j) := e
        cases e2 : appMd m (kvs.map Prod.snd) c with
        | none => rw [e2] at e; cases e
        | some md' =>
          rw [e2] at e
          have e : (if ks.isEmpty = false ∧ kvs.length < sizeLine then (putKD kvs k c.2).map fun kvs' => (md', D.dT kvs', (posK kvs k).getD kvs.length) else none) = some (md, d', j) := e
          split at e
          · rename_i hz
            obtain ⟨hkeys, rl⟩ := RpT.iffL.mp rk
            have hlen : ws.length = kvs.length := by
              have := congrArg List.length hkeys
              rwa [List.length_map, List.length_map] at this
            cases e3 : putKD kvs k c.2 with
            | none => rw [e3] at e; cases e
            | some kvs' =>
              rw [e3] at e
              cases e
              obtain ⟨ba, us, eb, tob, ru⟩ := hk
              subst eb
              have ev := keysOf_kV e1 ru
              subst ev
              have tb : H ba = some (.tup (k.map kV)) := by
                rcases tob with tob | ⟨z, _⟩
                · exact tob
                · have hne : ks ≠ [] := fun z => by rw [z] at hz; exact absurd hz.1 (by decide)
                  cases ks with
                  | nil => exact (hne rfl).elim
                  | cons a as =>
                    obtain ⟨v', r', ev', _, _⟩ := ru
                    rw [z] at ev'; cases ev'
              obtain ⟨hm', r1, r2⟩ := item_rp (j := (posK kvs k).getD kvs.length) e2 rl h1 h2
              refine ⟨.dT (putK ws k v), hb, trivial, ⟨b, putK ws k v, rfl, Nd.of_mut hm' hb, upd_same, RpT.iffL.mpr ?_⟩, fun Q q => .inr ⟨b, _, rfl, DPut.t ob tb (by rw [hlen]; exact hz.2), q⟩⟩
              unfold putKD at e3
              cases e4 : posK kvs k with
              | none =>
                rw [e4] at e3 r2
                cases e3
                rw [putK_end hkeys e4]
                refine ⟨by simp [hkeys], ?_⟩
                rw [List.map_append, List.map_append]
                refine RpL.wr dm hb (RpL.append r1 ⟨v, [], rfl, ?_, rfl⟩)
                rw [Nat.zero_add, List.length_map]; exact r2
              | some j =>
                rw [e4] at e3 r2
                have e3 : (if ((kvs.drop (j + 1)).all fun p => decide (p.1 ≠ k)) = true then some (kvs.set j (k, c.2)) else none) = some kvs' := e3
                split at e3
                · rename_i hr
                  cases e3
                  rw [putK_in hkeys e4 hr]
                  refine ⟨by rw [List.map_set, List.map_set, hkeys], ?_⟩
                  rw [List.map_set, List.map_set]
                  exact RpL.wr dm hb (RpL.set r1 (by rw [Nat.zero_add]; exact r2))
                · cases e3
          · cases e
    · cases e
  · cases e
end
theorem keyOf_imm {d : D} {k : Key} (e : keyOf d = some k) : imm d = true := by
  cases d <;> first | (cases e; done) | rfl
theorem keysOf_imm : ∀ {ds : List D} {k : List Key}, keysOf ds = some k → immL ds = true
  | [], _, _ => rfl
  | d :: ds, k, e => by
    have e : (match keyOf d, keysOf ds with | some k, some ks => some (k :: ks) | _, _ => none) = some k := e
    cases e1 : keyOf d with
    | none => rw [e1] at e; cases e
    | some k1 =>
      cases e2 : keysOf ds with
      | none => rw [e1, e2] at e; cases e
      | some k2 =>
        show (imm d && immL ds) = true
        rw [keyOf_imm e1, keysOf_imm e2]; rfl
theorem putIt_key {m : Md} {d : D} {k c : Cel} {x : Md × D × Nat} (e : putIt m d k c = some x) : imm k.2 = true ∧ ¬ imm d = true ∧ ∀ {K : PySem.W.Frag} {w : Om} {H : Hp} {t : Tag} {v : V}, Rp K w H m t d v → ∃ b, v = .ref b := by
  unfold putIt at e
  split at e
  · split at e
    · rename_i q
      exact ⟨by rw [q]; rfl, fun z => by simp [imm] at z, fun ⟨a, _, ea, _⟩ => ⟨a, ea⟩⟩
    · cases e
  · cases e1 : keyOf k.2 with
    | none => rw [e1] at e; cases e
    | some kk => exact ⟨keyOf_imm e1, fun z => by simp [imm] at z, fun ⟨a, _, ea, _⟩ => ⟨a, ea⟩⟩
  · split at e
    · rename_i ks q
      cases e1 : keysOf ks with
      | none => rw [e1] at e; cases e
      | some kk => exact ⟨by rw [q]; exact keysOf_imm e1, fun z => by simp [imm] at z, fun ⟨a, _, ea, _⟩ => ⟨a, ea⟩⟩
    · cases e
  · cases e
section
variable {X : Cx} {W : WX} {M : List Nat}
def putRes (i : Nat) (c : Cel) (cp : Cel × Tag) (ρ2 : Rho) (k : Cel) (ρ3 : Rho) : Option Rho := if cp.1.1.mut = true then (putIt cp.1.1 cp.1.2 k c).bind fun x => putAt i cp.2 cp.1.1 x.1 x.2.1 ρ2 ρ3 else none
def dsPut (i : Nat) (fe : Rho → Res Cel) (fP : Rho → Res (Cel × Tag)) (fk : Rho → Res Cel) : Rho → SR := fun ρ => match (fe ρ).bind fun c ρ1 => (fP ρ1).bind fun cp ρ2 => (fk ρ2).bind fun k ρ3 => (match putRes i c cp ρ2 k ρ3 with | some ρ4 => Res.ok () ρ4 | none => .stuck) with
  | .ok _ ρ4 => .nx ρ4
  | .exc x ρ4 => .exc x ρ4
  | .stuck => .stuck
/-- P[k] = e -/
theorem ds_put {T0 T1 T2 : List Nat} {i : Nat} {S2 : Src} {o k e : Expr} {fe : Rho → Res Cel} {fP : Rho → Res (Cel × Tag)} {fk : Rho → Res Cel} {tpos pos : Pos} (hu : X.A.units + 1 < cLine) (A : DE X W T0 .tmp e fe) (P : DP X W T1 i o fP) (B : DE X W T2 S2 k fk)
    (off : T2.contains i = false := by rfl) (hT : ∀ j ∈ T1 ++ T2, j < X.N.length := by exact lt_all rfl)
    (ha : ∀ v, assign (.Subscript o k tpos) X.env v = (do
      let ov ← holding [v] (eval o X.env)
      let iv ← holding [v, ov] (eval k X.env)
      standAt tpos
      holding [v, ov, iv] (setItem ov iv v)
      release [v, ov, iv] []) := by intro _; rfl)
    (hs : swapsWithSole [.Subscript o k tpos] e pos.line X.env = pure false := by rfl) (hw : swappedStores [.Subscript o k tpos] e X.env = pure none := by rfl)
    (h1 : (assignEach [.Subscript o k tpos] X.env).map (·.2) = [assign (.Subscript o k tpos) X.env] := by rfl) :
    DS X W M (T0 ++ (T1 ++ (T2 ++ [i]))) (.Assign [.Subscript o k tpos] e pos) (dsPut i fe fP fk) := by
  have hi := P.lt
  obtain ⟨ta, pa, A⟩ := A.ex
  obtain ⟨tp, pp, P⟩ := P.ex
  obtain ⟨tb, pb, B⟩ := B.ex
  refine ⟨_, ps_asg pa (pg_sub pp pb (set_A hu) ha) hs hw h1, fun r w H σ ρ D hr s gg => A r w H σ ρ _ hr s ?_⟩
  unfold dsPut at gg
  have mi : i ∈ T0 ++ (T1 ++ (T2 ++ [i])) := List.mem_append_right _ (List.mem_append_right _ (List.mem_append_right _ List.mem_cons_self))
  have m0 : ∀ {r k}, kpE (T0 ++ (T1 ++ (T2 ++ [i]))) r k → kpE T0 r k := fun h => h.l
  have m1 : ∀ {r k}, kpE (T0 ++ (T1 ++ (T2 ++ [i]))) r k → kpE T1 (r + 1) k := fun h => h.rt.l.up (Nat.le_succ _)
  have m2 : ∀ {r k}, kpE (T0 ++ (T1 ++ (T2 ++ [i]))) r k → kpE T2 (r + 1) k := fun h => h.rt.rt.l.up (Nat.le_succ _)
  cases e1 : fe ρ with
  | stuck => rw [e1] at gg; exact gg
  | exc x e' => rw [e1] at gg; exact fun w' H' cls da s' xo st => gg w' H' σ cls da s' xo (st.mono fun k h => m0 h) Fx.refl
  | ok c ρ1 =>
    rw [e1] at gg
    intro w1 H1 v t1 s1 o1 hv st1
    have o1 : t1 = [r] := o1
    subst o1
    refine P (r + 1) w1 H1 σ ρ1 _ (by omega) s1 ?_
    have st1' : Stp (kpE (T0 ++ (T1 ++ (T2 ++ [i]))) r) w H w1 H1 := st1.mono fun k h => m0 h
    cases e2 : fP ρ1 with
    | stuck => rw [Res.bind, e2] at gg; exact gg
    | exc x e' =>
      rw [Res.bind, e2] at gg
      intro w' H' cls da s' xo st
      have ct : Stp (fun k => k < r) w' H' (cutO w' r) H' := Stp.cut fun _ h => h
      exact gg _ H' σ cls da (s'.cut hr) (xo.stp s'.dom ct (by show 0 < r; omega)) ((st1'.trans (st.mono fun k h => m1 h)).trans (ct.mono fun k h => h.1)) Fx.refl
    | ok cp ρ2 =>
      rw [Res.bind, e2] at gg
      intro w2 H2 vP s2 p2 st2
      have st2' := st1'.trans (st2.mono fun k h => m1 h)
      refine B (r + 1) w2 H2 σ ρ2 _ (by omega) s2 ?_
      cases e3 : fk ρ2 with
      | stuck => rw [Res.bind, e3] at gg; exact gg
      | exc x e' =>
        rw [Res.bind, e3] at gg
        intro w' H' cls da s' xo st
        have ct : Stp (fun k => k < r) w' H' (cutO w' r) H' := Stp.cut fun _ h => h
        exact gg _ H' σ cls da (s'.cut hr) (xo.stp s'.dom ct (by show 0 < r; omega)) ((st2'.trans (st.mono fun k h => m2 h)).trans (ct.mono fun k h => h.1)) Fx.refl
      | ok kc ρ3 =>
        rw [Res.bind, e3] at gg
        intro w3 H3 vk tk s3 o3 hk st3
        have st3' := st2'.trans (st3.mono fun k h => m2 h)
        have g2 : GoodS X W M (T0 ++ (T1 ++ (T2 ++ [i]))) r w H σ D (match (match putRes i c cp ρ2 kc ρ3 with | some ρ4 => Res.ok () ρ4 | none => .stuck) with
          | .ok _ ρ4 => .nx ρ4
          | .exc x ρ4 => .exc x ρ4
          | .stuck => .stuck) := gg
        cases e4 : putRes i c cp ρ2 kc ρ3 with
        | none => rw [e4] at g2; exact g2.elim
        | some ρ4 =>
          rw [e4] at g2
          clear gg
          obtain ⟨⟨m, d⟩, p⟩ := cp
          have e4 : (if m.mut = true then (putIt m d kc c).bind fun x => putAt i p m x.1 x.2.1 ρ2 ρ3 else none) = some ρ4 := e4
          by_cases hm : m.mut = true
          · rw [if_pos hm] at e4
            cases e5 : putIt m d kc c with
            | none => rw [e5] at e4; cases e4
            | some x =>
              obtain ⟨md, d', j⟩ := x
              rw [e5] at e4
              have e4 : putAt i p m md d' ρ2 ρ3 = some ρ4 := e4
              obtain ⟨ki, di, dr⟩ := putIt_key e5
              rcases p2 with ⟨c0, v0, ec, ev, ra⟩ | ⟨z, _⟩
              · have hkk : kpE T2 (r + 1) (i + 1) := off_kpE off (by omega)
                have ra3 := RA.map (st3.mp s2.dom (kpE.zero (by omega))) p ⟨rfl, rfl, i + 1, [], rfl, hkk⟩ ra
                have hv2 := hv.stp s1.dom st2 (kpE.zero (by omega)) ⟨Nat.lt_succ_self r, fun j hj z => by have := hT j (List.mem_append_left _ hj); omega⟩
                have hv3 := hv2.stp s2.dom st3 (kpE.zero (by omega)) ⟨Nat.lt_succ_self r, fun j hj z => by have := hT j (List.mem_append_right _ hj); omega⟩
                let q : Tag := p ++ [j]
                let w4 := bindO w3 (moveF r ((i + 1) :: q))
                have s4 : Sat X.K X.N.length r w4 H3 σ ρ3 := moveF_sat s3 hr hi
                have st4 : Stp (kpE (T0 ++ (T1 ++ (T2 ++ [i]))) r) w3 H3 w4 H3 := moveF_stp mi
                have ra4 := RA.map (moveF_mp (i := i) (q := q) (r := r) (by omega)) p ⟨rfl, rfl, i + 1, [], rfl, by omega⟩ ra3
                have rp4 := RA.rp p ra4
                obtain ⟨b, eb⟩ := dr rp4
                subst eb
                have h2 : Rp X.K w4 H3 c.1 ((i + 1) :: (p ++ [j])) c.2 v := Rp.move (fun p => .inr ⟨p, moveF_lt (by omega)⟩) (fun p' => moveF_eq) hv3
                obtain ⟨o, hb, mo, hn, run⟩ := putIt_ok (tk := tk) (kv := vk) s4.dom hm e5 rp4 (Rp.imm ⟨fun _ _ x => x, fun _ _ _ x => x⟩ _ ki hk) (fun hi md t => Rp.imm ⟨fun _ _ x => x, fun _ _ _ x => x⟩ _ hi hv3) h2
                refine run _ ?_
                obtain ⟨s5, st5⟩ := write_core (T := T0 ++ (T1 ++ (T2 ++ [i]))) (o := o) s4 hr hi mi ev ra4 hb mo hn ec e4
                exact g2 w4 _ σ s5 ((st3'.trans st4).trans st5) Fx.refl
              · exact (di z).elim
          · rw [if_neg hm] at e4; cases e4
end
end DL

/-! DL part 21: the end. -/
namespace DL
open PySem L2
def spLaw (K : PySem.W.Frag) : Sp := fun vs H Q _ => ∃ (a : Addr) (ns : List Int), vs = [.ref a] ∧ ns.length ≤ 63 ∧ FrzAt K H a (ns.map .int) ∧ ∀ H', Q (.bl true) H'
section
variable {P : Program} {w : World} {K : PySem.W.Frag} {mg : Str → Option Value} {base : Heap}
theorem fnOk_law {f : Addr} {fd : FuncData} {k : Nat} {x : Str} {mj : List Nat} {F : Rho → Res Cel} (h : FnOk P w K mg base (L2N.CX P w) k f fd [x] (spD K mg 1 mj F)) (hl : ∀ ns : List Int, ns.length ≤ 63 → ∃ m ps', F [some (.own 0, .frz ns)] = .ok (m, .bl true) ps') :
    FnOk P w K mg base (L2N.CX P w) k f fd [x] (spLaw K) := h.imp fun vs H Q E ⟨a, ns, e, hn, hf, q⟩ => by
  subst e
  obtain ⟨m, ps', e2⟩ := hl ns hn
  refine ⟨rfl, fun _ => none, [some (.own 0, .frz ns)], ⟨rfl, rfl, fun a t e => (by cases e), fun i c e => ?_⟩, ?_⟩
  · cases i with
    | zero => cases e; exact ⟨.ref a, rfl, a, rfl, hf⟩
    | succ i => simp at e
  · rw [e2]
    intro w' H' v _ hv _ _
    cases (show v = .bl true from hv)
    exact q _
theorem frz_only {H : Hp} {a : Addr} {xs : List V} (o : Only H) (h : SqL K H a xs) : FrzAt K H a xs := by
  rcases h with h | h
  · rcases h with h | ⟨ob, h⟩
    · rcases o a with z | ⟨_, _, z⟩
      · rw [z] at h; cases h
      · rw [z] at h; cases h
    · exact .inl ⟨ob, h⟩
  · exact .inr h
end
theorem walk_end {l : PySem.W.OpenLaw} {q : Program} {loose : List Str} {XP : (Str → Option Value) → Heap → Prop} {YP : World → Heap → Prop} {d : DefRec} {K : Params → PySem.W.Frag} {x : Str} {k : Nat} (hn : l.most = some 63) (hdf : d.params.defaults = []) (hr : Room k callerA)
    (hY : ∀ (w : World) (h : Heap), YP w h → (K w.params).In h)
    (F : ∀ (w : World) (mg : Str → Option Value) (fa : Addr) (h : Heap), (K w.params).In h → h.Ns mainGlobals mg → mg d.name = some (.ref fa) →
      ∃ fd : FuncData, (∀ (s : Shared) (u : Value), BindsTo s fd ⟨[u], []⟩ [(x, u)]) ∧ ∀ base : Heap, (K w.params).In base → base.Ns mainGlobals mg → FnOk l.prog w (K w.params) mg base (L2N.CX l.prog w) k fa fd [x] (spLaw (K w.params))) :
    PySem.W.WalkO q loose XP YP l.row.toRowW d [] (fun f vs => PySem.call f vs) :=
  L2.walk_of (n := 63) (k := k) (x := x) (CX := fun w => L2N.CX l.prog w) (sp := fun w => spLaw (K w.params)) hn (by decide) hdf hr hY F (fun _ H a ns hl ho hS => ⟨a, ns, rfl, hl, frz_only ho hS, fun _ => rfl⟩) fun w H s e s' z => by
    obtain ⟨_, _, _, _, _, _, _, _, _, _, _, _, z⟩ := z
    exact z
end DL

/-! DL part 22: equations of the data-level functions, for simp. -/
namespace DL
open PySem L2
section
variable {α β : Type} {ρ ρ1 ρ2 : Rho} {c c1 c2 : Cel} {m : Md} {d : D} {i j : Int}
@[simp] theorem imm_non : imm .non = true := rfl
@[simp] theorem imm_bl {b : Bool} : imm (.bl b) = true := rfl
@[simp] theorem imm_int : imm (.int i) = true := rfl
@[simp] theorem imm_str {x : Str} : imm (.str x) = true := rfl
@[simp] theorem imm_frz {ns : List Int} : imm (.frz ns) = true := rfl
@[simp] theorem imm_tup {ds : List D} : imm (.tup ds) = immL ds := rfl
@[simp] theorem imm_lst {ds : List D} : imm (.lst ds) = false := rfl
@[simp] theorem imm_dK {ds : List (Key × D)} : imm (.dK ds) = false := rfl
@[simp] theorem imm_dT {ds : List (List Key × D)} : imm (.dT ds) = false := rfl
@[simp] theorem immL_nil : immL [] = true := rfl
@[simp] theorem immL_cons {ds : List D} : immL (d :: ds) = (imm d && immL ds) := rfl
@[simp] theorem sub_all : Md.sub .all = .all := rfl
@[simp] theorem sub_lent : Md.sub .lent = .lent := rfl
@[simp] theorem sub_own {n : Nat} : Md.sub (.own n) = .own (n - 1) := rfl
@[simp] theorem mut_all : Md.mut .all = true := rfl
@[simp] theorem mut_own {n : Nat} : Md.mut (.own (n + 1)) = true := rfl
@[simp] theorem mut_one : Md.mut (.own 1) = true := rfl
@[simp] theorem asVal_int {i : Int} : asVal (m, .int i) = some (.own 0, .int i) := rfl
@[simp] theorem asVal_bl {b : Bool} : asVal (m, .bl b) = some (.own 0, .bl b) := rfl
@[simp] theorem asVal_str {x : Str} : asVal (m, .str x) = some (.own 0, .str x) := rfl
@[simp] theorem asVal_non : asVal (m, .non) = some (.own 0, .non) := rfl
theorem asVal_imm (h : imm d = true) : asVal (m, d) = some (.own 0, d) := if_pos h
@[simp] theorem asVal_own0 : asVal (.own 0, d) = some (.own 0, d) := by unfold asVal; split <;> rfl
@[simp] theorem asVal_lent {ds : List D} : asVal (.lent, .lst ds) = some (.lent, .lst ds) := rfl
@[simp] theorem gAdd_int : gAdd (m, .int i) (m2, .int j) = some (.own 0, .int (i + j)) := rfl
theorem gAdd_str {x y : Str} (h : x.length + y.length ≤ sizeLine) : gAdd (m, .str x) (m2, .str y) = some (.own 0, .str (x ++ y)) := if_pos h
@[simp] theorem gSub_int : gSub (m, .int i) (m2, .int j) = some (.own 0, .int (i - j)) := rfl
theorem gMul_r (h : -(2 ^ 64) < j ∧ j < 2 ^ 64) : gMul (m, .int i) (m2, .int j) = some (.own 0, .int (i * j)) := by
  show (if cMul i j = true then _ else _) = _
  rw [if_pos (by unfold cMul; rw [decide_eq_true h.1, decide_eq_true h.2]; simp)]
theorem gMul_l (h : -(2 ^ 64) < i ∧ i < 2 ^ 64) : gMul (m, .int i) (m2, .int j) = some (.own 0, .int (i * j)) := by
  show (if cMul i j = true then _ else _) = _
  rw [if_pos (by unfold cMul; rw [decide_eq_true h.1, decide_eq_true h.2]; simp)]
theorem gDiv_int (h : 0 < j ∧ j < 1073741824) : gDiv (m, .int i) (m2, .int j) = some (.own 0, .int (i / j)) := by
  show (if cDiv i j = true then _ else _) = _
  rw [if_pos (by unfold cDiv; simp [h.1, h.2])]
theorem gMod_int (h : 0 < j) : gMod (m, .int i) (m2, .int j) = some (.own 0, .int (i % j)) := by
  show (if cMod i j = true then _ else _) = _
  rw [if_pos (by unfold cMod; simp [h])]
@[simp] theorem gEq_int : gEq (.int i) (.int j) = some (decide (i = j)) := rfl
@[simp] theorem gEq_str {x y : Str} : gEq (.str x) (.str y) = some (decide (x = y)) := rfl
@[simp] theorem gNe_int : gNe (.int i) (.int j) = some (! decide (i = j)) := rfl
@[simp] theorem gNe_str {x y : Str} : gNe (.str x) (.str y) = some (! decide (x = y)) := rfl
@[simp] theorem gLt_int : gLt (.int i) (.int j) = some (decide (i < j)) := rfl
@[simp] theorem gLe_int : gLe (.int i) (.int j) = some (decide (i ≤ j)) := rfl
@[simp] theorem gGt_int : gGt (.int i) (.int j) = some (decide (j < i)) := rfl
@[simp] theorem gGe_int : gGe (.int i) (.int j) = some (decide (j ≤ i)) := rfl
@[simp] theorem truD_bl {b : Bool} : truD (.bl b) = some b := rfl
@[simp] theorem truD_int : truD (.int i) = some (i != 0) := rfl
@[simp] theorem truD_lst {ds : List D} : truD (.lst ds) = some (!ds.isEmpty) := rfl
@[simp] theorem truD_tup {ds : List D} : truD (.tup ds) = some (!ds.isEmpty) := rfl
@[simp] theorem truD_non : truD .non = some false := rfl
theorem gIx_lst {ds : List D} {k : Nat} {d : D} (h : ds[k]? = some d) (hi : i = k) : gIx (m, .lst ds) (m2, .int i) = some (k, (m.sub, d)) := by
  have hk := (List.getElem?_eq_some_iff.mp h).1
  subst hi
  show (ixN ds.length k).bind (fun j => (ds[j]?).map fun d => (j, (m.sub, d))) = _
  have : ixN ds.length (k : Int) = some k := by unfold ixN; rw [if_pos (by omega), if_pos (by omega)]; simp
  rw [this]
  show (ds[k]?).map _ = _
  rw [h]; rfl
theorem gIx_lst_neg {ds : List D} {k : Nat} {d : D} (h : ds[k]? = some d) (hi : i = (k : Int) - ds.length) (hn : i < 0) : gIx (m, .lst ds) (m2, .int i) = some (k, (m.sub, d)) := by
  have hk := (List.getElem?_eq_some_iff.mp h).1
  show (ixN ds.length i).bind (fun j => (ds[j]?).map fun d => (j, (m.sub, d))) = _
  have : ixN ds.length i = some k := by
    unfold ixN
    rw [if_neg (by omega), if_pos (by omega)]
    congr 1; omega
  rw [this]
  show (ds[k]?).map _ = _
  rw [h]; rfl
@[simp] theorem gIx_l0 {d : D} {ds : List D} : gIx (m, .lst (d :: ds)) (m2, .int 0) = some (0, (m.sub, d)) := gIx_lst (k := 0) rfl rfl
@[simp] theorem gIx_l1 {d d1 : D} {ds : List D} : gIx (m, .lst (d :: d1 :: ds)) (m2, .int 1) = some (1, (m.sub, d1)) := gIx_lst (k := 1) rfl rfl
@[simp] theorem gIx_l2 {d d1 d2 : D} {ds : List D} : gIx (m, .lst (d :: d1 :: d2 :: ds)) (m2, .int 2) = some (2, (m.sub, d2)) := gIx_lst (k := 2) rfl rfl
@[simp] theorem gIx_l3 {d d1 d2 d3 : D} {ds : List D} : gIx (m, .lst (d :: d1 :: d2 :: d3 :: ds)) (m2, .int 3) = some (3, (m.sub, d3)) := gIx_lst (k := 3) rfl rfl
theorem gIx_tup {ds : List D} {k : Nat} {d : D} (h : ds[k]? = some d) (hi : i = k) : gIx (m, .tup ds) (m2, .int i) = some (k, (m, d)) := by
  have hk := (List.getElem?_eq_some_iff.mp h).1
  subst hi
  show (ixN ds.length k).bind (fun j => (ds[j]?).map fun d => (j, (m, d))) = _
  have : ixN ds.length (k : Int) = some k := by unfold ixN; rw [if_pos (by omega), if_pos (by omega)]; simp
  rw [this]
  show (ds[k]?).map _ = _
  rw [h]; rfl
@[simp] theorem gIx_t0 {d : D} {ds : List D} : gIx (m, .tup (d :: ds)) (m2, .int 0) = some (0, (m, d)) := gIx_tup (k := 0) rfl rfl
@[simp] theorem gIx_t1 {d d1 : D} {ds : List D} : gIx (m, .tup (d :: d1 :: ds)) (m2, .int 1) = some (1, (m, d1)) := gIx_tup (k := 1) rfl rfl
@[simp] theorem gIx_t2 {d d1 d2 : D} {ds : List D} : gIx (m, .tup (d :: d1 :: d2 :: ds)) (m2, .int 2) = some (2, (m, d2)) := gIx_tup (k := 2) rfl rfl
@[simp] theorem keepAt_self {k : Nat} : keepAt k ρ ρ = ρ := by
  unfold keepAt
  split
  · rename_i x e
    refine List.ext_getElem? fun j => ?_
    by_cases h : k = j
    · subst h
      rw [e, List.getElem?_set_self (List.getElem?_eq_some_iff.mp e).1]
    · rw [List.getElem?_set_ne h]
  · rfl
@[simp] theorem gLen_lst {ds : List D} : gLen [(m, .lst ds)] = some (.own 0, .int ds.length) := rfl
@[simp] theorem gLen_tup {ds : List D} : gLen [(m, .tup ds)] = some (.own 0, .int ds.length) := rfl
@[simp] theorem gLen_frz {ns : List Int} : gLen [(m, .frz ns)] = some (.own 0, .int ns.length) := rfl
theorem gLen_str {x : Str} (h : x.length ≤ sizeLine) : gLen [(m, .str x)] = some (.own 0, .int x.length) := if_pos h
@[simp] theorem gIntC_int : gIntC [(m, .int i)] = some (.own 0, .int i) := rfl
@[simp] theorem gAbs_int : gAbs [(m, .int i)] = some (.own 0, .int (if i < 0 then -i else i)) := rfl
@[simp] theorem gMin2_int : gMin2 [(m, .int i), (m2, .int j)] = some (.own 0, .int (if j < i then j else i)) := rfl
@[simp] theorem gMax2_int : gMax2 [(m, .int i), (m2, .int j)] = some (.own 0, .int (if j > i then j else i)) := rfl
theorem dispMd_imm {cs : List Cel} (h : cs.all (fun c => imm c.2) = true) : dispMd cs = some .all := by
  have : cs.filter (fun c => !imm c.2) = [] := List.filter_eq_nil_iff.mpr fun c hc => by
    have := List.all_eq_true.mp h c hc
    simp [this]
  unfold dispMd; rw [this]
@[simp] theorem keepAt_0 {x y : Option Cel} {l1 l2 : Rho} : keepAt 0 (x :: l1) (y :: l2) = x :: l2 := rfl
@[simp] theorem keepAt_s {k : Nat} {x y : Option Cel} {l1 l2 : Rho} : keepAt (k + 1) (x :: l1) (y :: l2) = y :: keepAt k l1 l2 := by
  unfold keepAt
  rw [List.getElem?_cons_succ]
  cases l1[k]? with
  | none => rfl
  | some z => simp
@[simp] theorem gtName_eq {k : Nat} : gtName k c ρ = some (ρ.set k (some c)) := rfl
@[simp] theorem gtNil_eq : gtNil m [] ρ = some ρ := rfl
@[simp] theorem gtCons_eq {g : Cel → Rho → Option Rho} {gs : Md → List D → Rho → Option Rho} {ds : List D} : gtCons g gs m (d :: ds) ρ = (asVal (m, d)).bind fun c => (g c ρ).bind fun ρ1 => gs m ds ρ1 := rfl
@[simp] theorem gtTup_eq {n : Nat} {gs : Md → List D → Rho → Option Rho} {ds : List D} : gtTup n gs (m, .tup ds) ρ = if ds.length = n then gs m ds ρ else none := rfl
@[simp] theorem seqOf_lst {ds : List D} : seqOf (m, .lst ds) = some (m.sub, ds) := rfl
@[simp] theorem seqOf_tup {ds : List D} : seqOf (m, .tup ds) = some (m, ds) := rfl
@[simp] theorem seqOf_frz {ns : List Int} : seqOf (m, .frz ns) = some (.own 0, ns.map .int) := rfl
@[simp] theorem retCel_int : retCel (m, .int i) = some (.own 0, .int i) := rfl
@[simp] theorem retCel_bl {b : Bool} : retCel (m, .bl b) = some (.own 0, .bl b) := rfl
@[simp] theorem retCel_str {x : Str} : retCel (m, .str x) = some (.own 0, .str x) := rfl
@[simp] theorem retCel_non : retCel (m, .non) = some (.own 0, .non) := rfl
theorem retCel_imm (h : imm d = true) : retCel (m, d) = some (.own 0, d) := if_pos h
@[simp] theorem retCel_all : retCel (.all, .lst ds) = some (.all, .lst ds) := rfl
@[simp] theorem retCel_own : retCel (.own n, .lst ds) = some (.own n, .lst ds) := rfl
theorem lendC_imm (h : imm d = true) : lendC (m, d) = (.own 0, d) := if_pos h
@[simp] theorem lendC_int : lendC (m, .int i) = (.own 0, .int i) := rfl
@[simp] theorem lendC_bl {b : Bool} : lendC (m, .bl b) = (.own 0, .bl b) := rfl
@[simp] theorem lendC_str {x : Str} : lendC (m, .str x) = (.own 0, .str x) := rfl
@[simp] theorem lendC_frz {ns : List Int} : lendC (m, .frz ns) = (.own 0, .frz ns) := rfl
@[simp] theorem lendC_all {ds : List D} : lendC (.all, .lst ds) = (.lent, .lst ds) := rfl
@[simp] theorem lendC_own1 {ds : List D} : lendC (.own (n + 1), .lst ds) = (.lent, .lst ds) := rfl
@[simp] theorem lendC_one {ds : List D} : lendC (.own 1, .lst ds) = (.lent, .lst ds) := rfl
@[simp] theorem lendC_lent {ds : List D} : lendC (.lent, .lst ds) = (.lent, .lst ds) := rfl
@[simp] theorem passAll_nil : passAll [] [] = [] := rfl
@[simp] theorem passAll_cons {q : Pk} {qs : List Pk} {cs : List Cel} : passAll (q :: qs) (c :: cs) = some (passC q c) :: passAll qs cs := rfl
@[simp] theorem passC_lend : passC .lend c = lendC c := rfl
@[simp] theorem passC_keep : passC .keep c = c := rfl
@[simp] theorem passC_chg : passC .chg c = c := rfl
@[simp] theorem wb_nil : wb [] [] [] ρ = some ρ := rfl
@[simp] theorem wb_tmp {Ss : List Src} {q : Pk} {qs : List Pk} {x : Option Cel} {ps : Rho} : wb (.tmp :: Ss) (q :: qs) (x :: ps) ρ = wb Ss qs ps ρ := rfl
@[simp] theorem wb_lend {S : Src} {Ss : List Src} {qs : List Pk} {x : Option Cel} {ps : Rho} : wb (S :: Ss) (.lend :: qs) (x :: ps) ρ = wb Ss qs ps ρ := by cases S <;> rfl
@[simp] theorem wb_keep {S : Src} {Ss : List Src} {qs : List Pk} {x : Option Cel} {ps : Rho} : wb (S :: Ss) (.keep :: qs) (x :: ps) ρ = wb Ss qs ps ρ := by cases S <;> rfl
@[simp] theorem wb_chg {k : Nat} {Ss : List Src} {qs : List Pk} {ps : Rho} : wb (.slot k :: Ss) (.chg :: qs) (some c :: ps) ρ = match retCel c with | some _ => wb Ss qs ps (ρ.set k (some c)) | none => none := rfl
@[simp] theorem isStr_str {x : Str} : isStr (.str x) = true := rfl
@[simp] theorem isLst_lst {ds : List D} : isLst (.lst ds) = true := rfl
@[simp] theorem gStr2_eq {q : Str → Str → D} {x y : Str} : gStr2 q (m, .str x) [(m2, .str y)] = some (.own 0, q x y) := rfl
theorem appMd_imm {ds : List D} (hm : m.mut = true) (h : imm c.2 = true) : appMd m ds c = some m := by unfold appMd; rw [if_pos hm, if_pos h]
@[simp] theorem appMd_aa {ds : List D} : appMd .all ds (.all, d) = some .all := by unfold appMd; rw [if_pos mut_all]; split <;> rfl
@[simp] theorem appMd_11 {ds : List D} : appMd (.own 1) ds (.own 0, d) = some (.own 1) := by unfold appMd; rw [if_pos mut_one]; split <;> rfl
@[simp] theorem appMd_ai {ds : List D} : appMd .all ds (m, .int i) = some .all := rfl
@[simp] theorem appMd_as {ds : List D} {x : Str} : appMd .all ds (m, .str x) = some .all := rfl
@[simp] theorem appMd_ab {ds : List D} {b : Bool} : appMd .all ds (m, .bl b) = some .all := rfl
@[simp] theorem putAt_nil {k : Nat} {md : Md} : putAt k [] m md d ρ1 ρ2 = match ρ1[k]? with | some (some _) => some (ρ2.set k (some (md, d))) | _ => none := rfl
@[simp] theorem putAt_cons {k a : Nat} {p : Tag} {md : Md} : putAt k (a :: p) m md d ρ1 ρ2 = match ρ1[k]? with | some (some c0) => if md = m then some (ρ2.set k (some (c0.1, setAt (a :: p) c0.2 d))) else none | _ => none := rfl
@[simp] theorem opRev_eq {ds : List D} : opRev m ds [] = if flatB m.sub ds = true then some ((.own 0, .non), m, ds.reverse) else none := rfl
theorem putIt_lst {ds : List D} {k : Nat} (hk : k < ds.length) (hi : i = k) : putIt m (.lst ds) (m2, .int i) c = (appMd m ds c).map fun md => (md, .lst (ds.set k c.2), k) := by
  subst hi
  show (ixN ds.length k).bind _ = _
  have : ixN ds.length (k : Int) = some k := by unfold ixN; rw [if_pos (by omega), if_pos (by omega)]; simp
  rw [this]; rfl
@[simp] theorem putIt_0 {d : D} {ds : List D} : putIt m (.lst (d :: ds)) (m2, .int 0) c = (appMd m (d :: ds) c).map fun md => (md, .lst (c.2 :: ds), 0) := putIt_lst (k := 0) (Nat.succ_pos _) rfl
@[simp] theorem putIt_1 {d d1 : D} {ds : List D} : putIt m (.lst (d :: d1 :: ds)) (m2, .int 1) c = (appMd m (d :: d1 :: ds) c).map fun md => (md, .lst (d :: c.2 :: ds), 1) := putIt_lst (k := 1) (by simp) rfl
@[simp] theorem putIt_2 {d d1 d2 : D} {ds : List D} : putIt m (.lst (d :: d1 :: d2 :: ds)) (m2, .int 2) c = (appMd m (d :: d1 :: d2 :: ds) c).map fun md => (md, .lst (d :: d1 :: c.2 :: ds), 2) := putIt_lst (k := 2) (by simp) rfl
end
end DL

/-! DL part 23: what holds behind a computation. -/
namespace DL.P0
open PySem L2 DL
abbrev XP := Exn → Rho → Prop
def wE {α : Type} (r : Res α) (Q : α → Rho → Prop) (X : XP) : Prop := match r with
  | .ok a e => Q a e
  | .exc x e => X x e
  | .stuck => False
def oE {α : Type} (o : Option α) (Q : α → Prop) : Prop := ∃ a, o = some a ∧ Q a
def cE (b : Bool) (P Q : Prop) : Prop := bif b then P else Q
/-- the cell of a slot -/
def sE (ρ : Rho) (k : Nat) (Q : Cel → Prop) : Prop := ∃ c, ρ[k]? = some (some c) ∧ Q c
structure Post : Type where
  nx : Rho → Prop
  rt : Cel → Rho → Prop := fun _ _ => False
  bk : Rho → Prop := fun _ => False
  ct : Rho → Prop := fun _ => False
  ex : XP := fun _ _ => False
def wS (z : SR) (K : Post) : Prop := match z with
  | .nx e => K.nx e
  | .rt c e => K.rt c e
  | .bk e => K.bk e
  | .ct e => K.ct e
  | .exc x e => K.ex x e
  | .stuck => False
def nE (p : Prop) (Q : Prop) : Prop := p ∧ Q
section
variable {α β : Type} {ρ ρ1 ρ2 : Rho} {c c1 c2 : Cel} {m : Md} {d : D} {i j : Int} {X : XP} {K : Post}
@[simp] theorem nE_true {Q : Prop} : nE True Q = Q := by unfold nE; simp
theorem nE.mk {p Q : Prop} (h : p) (q : Q) : nE p Q := ⟨h, q⟩
@[simp] theorem oE_some {a : α} {Q : α → Prop} : oE (some a) Q = Q a := by unfold oE; simp
@[simp] theorem cE_true {P Q : Prop} : cE true P Q = P := rfl
@[simp] theorem cE_false {P Q : Prop} : cE false P Q = Q := rfl
theorem cE_split {b : Bool} {P Q : Prop} (h1 : b = true → P) (h2 : b = false → Q) : cE b P Q := by
  cases b with
  | true => exact h1 rfl
  | false => exact h2 rfl
theorem cE_dec {p P Q : Prop} [Decidable p] (h1 : p → P) (h2 : ¬ p → Q) : cE (decide p) P Q := cE_split (fun h => h1 (of_decide_eq_true h)) fun h => h2 (of_decide_eq_false h)
@[simp] theorem sE_zero {Q : Cel → Prop} : sE (some c :: ρ) 0 Q = Q c := by unfold sE; simp
@[simp] theorem sE_succ {x : Option Cel} {k : Nat} {Q : Cel → Prop} : sE (x :: ρ) (k + 1) Q = sE ρ k Q := by unfold sE; simp
theorem oE.mk {o : Option α} {a : α} {Q : α → Prop} (h : o = some a) (q : Q a) : oE o Q := ⟨a, h, q⟩
theorem wE.mono {r : Res α} {Q Q' : α → Rho → Prop} {X' : XP} (h : wE r Q X) (hq : ∀ a e, Q a e → Q' a e) (hx : ∀ x e, X x e → X' x e) : wE r Q' X' := by
  cases r with
  | ok a e => exact hq a e h
  | exc x e => exact hx x e h
  | stuck => exact h
/-- no exception -/
theorem wE.go {r : Res α} {Q Q' : α → Rho → Prop} {X' : XP} (h : wE r Q fun _ _ => False) (hq : ∀ a e, Q a e → Q' a e) : wE r Q' X' := h.mono hq fun _ _ z => z.elim
theorem wS.mono {z : SR} {K' : Post} (h : wS z K) (h1 : ∀ e, K.nx e → K'.nx e) (h2 : ∀ c e, K.rt c e → K'.rt c e) (h3 : ∀ e, K.bk e → K'.bk e) (h4 : ∀ e, K.ct e → K'.ct e) (h5 : ∀ x e, K.ex x e → K'.ex x e) : wS z K' := by
  cases z with
  | nx e => exact h1 e h
  | rt c e => exact h2 c e h
  | bk e => exact h3 e h
  | ct e => exact h4 e h
  | exc x e => exact h5 x e h
  | stuck => exact h
/-- the result itself -/
theorem wE_eq {r : Res α} {a : α} {e : Rho} (h : wE r (fun a' e' => a' = a ∧ e' = e) fun _ _ => False) : r = .ok a e := by
  cases r with
  | ok a' e' => obtain ⟨rfl, rfl⟩ := h; rfl
  | exc x e => exact h.elim
  | stuck => exact h.elim
theorem wE_ok {r : Res α} {a : α} {e : Rho} {Q : α → Rho → Prop} (h : r = .ok a e) (q : Q a e) : wE r Q X := by rw [h]; exact q
theorem wE_bind {r : Res α} {k : α → Rho → Res β} {Q : β → Rho → Prop} : wE (r.bind k) Q X = wE r (fun a e => wE (k a e) Q X) X := by cases r <;> rfl
theorem wE_ofO {o : Option Cel} {Q : Cel → Rho → Prop} : wE (ofO o ρ) Q X = oE o fun c => Q c ρ := by
  cases o with
  | none => unfold oE; simp [ofO, wE]
  | some a => unfold oE; simp [ofO, wE]
theorem wE_opt {o : Option α} {k : α → Res β} {Q : β → Rho → Prop} : wE (match o with | some a => k a | none => .stuck) Q X = oE o fun a => wE (k a) Q X := by
  cases o with
  | none => unfold oE; simp [wE]
  | some a => unfold oE; simp
theorem wS_opt {o : Option α} {k : α → SR} : wS (match o with | some a => k a | none => .stuck) K = oE o fun a => wS (k a) K := by
  cases o with
  | none => unfold oE; simp [wS]
  | some a => unfold oE; simp
theorem oN {Q : α → Prop} : False = oE none Q := by unfold oE; simp
theorem oS {a : α} {Q : α → Prop} : Q a = oE (some a) Q := by unfold oE; simp
@[simp] theorem w_var {k : Nat} {Q : Cel → Rho → Prop} : wE (dVar k ρ) Q X = sE ρ k fun c => Q c ρ := by
  unfold dVar sE
  split
  · rename_i c e; rw [e]; simp [wE]
  · rename_i h
    exact propext ⟨fun z => z.elim, fun ⟨c, e, _⟩ => (h c e).elim⟩
@[simp] theorem w_C {Q : Cel → Rho → Prop} : wE (dC d ρ) Q X = Q (.own 0, d) ρ := rfl
@[simp] theorem w_val {f : Rho → Res Cel} {Q : Cel → Rho → Prop} : wE (dVal f ρ) Q X = wE (f ρ) (fun c e => oE (asVal c) fun c => Q c e) X := by
  unfold dVal; rw [wE_bind]; congr 1; funext c e; cases asVal c with
  | none => exact oN
  | some a => exact Eq.symm (oE_some.trans rfl)
@[simp] theorem w_bin {g : Cel → Cel → Option Cel} {f1 f2 : Rho → Res Cel} {Q : Cel → Rho → Prop} : wE (dBin g f1 f2 ρ) Q X = wE (f1 ρ) (fun c1 e1 => wE (f2 e1) (fun c2 e2 => oE (g c1 c2) fun c => Q c e2) X) X := by
  unfold dBin; rw [wE_bind]; congr 1; funext c e; rw [wE_bind]; congr 1; funext c e; rw [wE_ofO]
@[simp] theorem w_cmp {g : D → D → Option Bool} {f1 f2 : Rho → Res Cel} {Q : Bool → Rho → Prop} : wE (dCmp g f1 f2 ρ) Q X = wE (f1 ρ) (fun c1 e1 => wE (f2 e1) (fun c2 e2 => oE (g c1.2 c2.2) fun b => Q b e2) X) X := by
  unfold dCmp; rw [wE_bind]; congr 1; funext c1 e1; rw [wE_bind]; congr 1; funext c2 e2; cases g c1.2 c2.2 with
  | none => exact oN
  | some a => exact Eq.symm (oE_some.trans rfl)
@[simp] theorem w_bool {r : Res Bool} {Q : Cel → Rho → Prop} : wE (boolR r) Q X = wE r (fun b e => Q (.own 0, .bl b) e) X := by unfold boolR; rw [wE_bind]; rfl
@[simp] theorem w_tru {f : Rho → Res Cel} {Q : Bool → Rho → Prop} : wE (dTru f ρ) Q X = wE (f ρ) (fun c e => oE (truD c.2) fun b => Q b e) X := by
  unfold dTru; rw [wE_bind]; congr 1; funext c e; cases truD c.2 with
  | none => exact oN
  | some a => exact Eq.symm (oE_some.trans rfl)
@[simp] theorem w_not {f : Rho → Res Bool} {Q : Bool → Rho → Prop} : wE (dNot f ρ) Q X = wE (f ρ) (fun b e => Q (!b) e) X := by unfold dNot; rw [wE_bind]; rfl
theorem wE_bif {b : Bool} {x y : Res α} {Q : α → Rho → Prop} : wE (bif b then x else y) Q X = cE b (wE x Q X) (wE y Q X) := by cases b <;> rfl
theorem wS_bif {b : Bool} {x y : SR} : wS (bif b then x else y) K = cE b (wS x K) (wS y K) := by cases b <;> rfl
@[simp] theorem w_and {f g : Rho → Res Bool} {Q : Bool → Rho → Prop} : wE (dAnd f g ρ) Q X = wE (f ρ) (fun b e => cE b (wE (g e) Q X) (Q false e)) X := by
  unfold dAnd; rw [wE_bind]; congr 1; funext c e; exact wE_bif
@[simp] theorem w_or {f g : Rho → Res Bool} {Q : Bool → Rho → Prop} : wE (dOr f g ρ) Q X = wE (f ρ) (fun b e => cE b (Q true e) (wE (g e) Q X)) X := by
  unfold dOr; rw [wE_bind]; congr 1; funext c e; exact wE_bif
@[simp] theorem w_notV {f : Rho → Res Cel} {Q : Cel → Rho → Prop} : wE (dNotV f ρ) Q X = wE (f ρ) (fun c e => oE (truD c.2) fun b => Q (.own 0, .bl (!b)) e) X := by
  unfold dNotV; rw [w_bool, w_not, w_tru]
@[simp] theorem w_andV {f g : Rho → Res Cel} {Q : Cel → Rho → Prop} : wE (dAndV f g ρ) Q X = wE (f ρ) (fun c e => oE (truD c.2) fun b => cE b (wE (g e) Q X) (Q c e)) X := by
  unfold dAndV; rw [wE_bind]; congr 1; funext c e; cases truD c.2 with
  | none => exact oN
  | some b => (refine Eq.symm (oE_some.trans ?_); cases b <;> rfl)
@[simp] theorem w_orV {f g : Rho → Res Cel} {Q : Cel → Rho → Prop} : wE (dOrV f g ρ) Q X = wE (f ρ) (fun c e => oE (truD c.2) fun b => cE b (Q c e) (wE (g e) Q X)) X := by
  unfold dOrV; rw [wE_bind]; congr 1; funext c e; cases truD c.2 with
  | none => exact oN
  | some b => (refine Eq.symm (oE_some.trans ?_); cases b <;> rfl)
@[simp] theorem w_if {c : Rho → Res Bool} {f g : Rho → Res Cel} {Q : Cel → Rho → Prop} : wE (dIf c f g ρ) Q X = wE (c ρ) (fun b e => cE b (wE (f e) Q X) (wE (g e) Q X)) X := by
  unfold dIf; rw [wE_bind]; congr 1; funext b e; rw [wE_bif]
@[simp] theorem w_chain {g g' : D → D → Option Bool} {f1 f2 f3 : Rho → Res Cel} {Q : Bool → Rho → Prop} : wE (dChain g g' f1 f2 f3 ρ) Q X = wE (f1 ρ) (fun c1 e1 => wE (f2 e1) (fun c2 e2 => oE (g c1.2 c2.2) fun b => cE b (wE (f3 e2) (fun c3 e3 => oE (g' c2.2 c3.2) fun b => Q b e3) X) (Q false e2)) X) X := by
  unfold dChain; rw [wE_bind]; congr 1; funext c1 e1; rw [wE_bind]; congr 1; funext c2 e2
  cases g c1.2 c2.2 with
  | none => unfold oE; simp [wE]
  | some b =>
    rw [oE_some]
    cases b with
    | false => rfl
    | true =>
      simp only [cE_true]; rw [wE_bind]; congr 1; funext c3 e3
      cases g' c2.2 c3.2 with
      | none => exact oN
      | some a => exact Eq.symm (oE_some.trans rfl)
@[simp] theorem w_pvar {k : Nat} {Q : Cel × Tag → Rho → Prop} : wE (dpVar k ρ) Q X = sE ρ k fun c => Q (c, []) ρ := by
  unfold dpVar sE
  split
  · rename_i c e; rw [e]; simp [wE]
  · rename_i h
    exact propext ⟨fun z => z.elim, fun ⟨c, e, _⟩ => (h c e).elim⟩
@[simp] theorem w_pix {k : Nat} {f1 : Rho → Res (Cel × Tag)} {f2 : Rho → Res Cel} {Q : Cel × Tag → Rho → Prop} : wE (dIxP k f1 f2 ρ) Q X = wE (f1 ρ) (fun cp e1 => wE (f2 e1) (fun c2 e2 => oE (gIx cp.1 c2) fun jc => Q (jc.2, cp.2 ++ [jc.1]) (keepAt k e1 e2)) X) X := by
  unfold dIxP; rw [wE_bind]; congr 1; funext cp e1; rw [wE_bind]; congr 1; funext c2 e2; cases gIx cp.1 c2 with
  | none => exact oN
  | some a => exact Eq.symm (oE_some.trans rfl)
@[simp] theorem w_path {f : Rho → Res (Cel × Tag)} {Q : Cel → Rho → Prop} : wE (dPath f ρ) Q X = wE (f ρ) (fun cp e => Q cp.1 e) X := by unfold dPath; rw [wE_bind]; rfl
@[simp] theorem w_ix {f1 f2 : Rho → Res Cel} {Q : Cel → Rho → Prop} : wE (dIx f1 f2 ρ) Q X = wE (f1 ρ) (fun c1 e1 => wE (f2 e1) (fun c2 e2 => oE (gIx c1 c2) fun jc => oE (asVal jc.2) fun c => Q c e2) X) X := by
  unfold dIx; rw [wE_bind]; congr 1; funext c1 e1; rw [wE_bind]; congr 1; funext c2 e2; cases gIx c1 c2 with
  | none => exact oN
  | some a => exact Eq.symm (oE_some.trans wE_ofO.symm)
@[simp] theorem w_onone {Q : Option Int → Rho → Prop} : wE (dONone ρ) Q X = Q none ρ := rfl
@[simp] theorem w_osome {f : Rho → Res Cel} {Q : Option Int → Rho → Prop} : wE (dOSome f ρ) Q X = wE (f ρ) (fun c e => ∃ i, c.2 = .int i ∧ Q (some i) e) X := by
  unfold dOSome; rw [wE_bind]; congr 1; funext c e
  obtain ⟨m, d⟩ := c
  cases d <;> simp [wE]
@[simp] theorem w_neg {f : Rho → Res Cel} {Q : Cel → Rho → Prop} : wE (dNeg f ρ) Q X = wE (f ρ) (fun c e => ∃ i, c.2 = .int i ∧ Q (.own 0, .int (-i)) e) X := by
  unfold dNeg; rw [wE_bind]; congr 1; funext c e
  obtain ⟨m, d⟩ := c
  cases d <;> simp [wE]
@[simp] theorem w_sl {f : Rho → Res Cel} {fl fh : Rho → Res (Option Int)} {Q : Cel → Rho → Prop} : wE (dSl f fl fh ρ) Q X = wE (f ρ) (fun c e1 => wE (fl e1) (fun lo e2 => wE (fh e2) (fun hi e3 => oE (gSl c lo hi) fun c => Q c e3) X) X) X := by
  unfold dSl; rw [wE_bind]; congr 1; funext c e; rw [wE_bind]; congr 1; funext c e; rw [wE_bind]; congr 1; funext c e; rw [wE_ofO]
@[simp] theorem w_nil {Q : List Cel → Rho → Prop} : wE (dNil ρ) Q X = Q [] ρ := rfl
@[simp] theorem w_cons {f : Rho → Res Cel} {g : Rho → Res (List Cel)} {Q : List Cel → Rho → Prop} : wE (dCons f g ρ) Q X = wE (f ρ) (fun c e1 => wE (g e1) (fun cs e2 => Q (c :: cs) e2) X) X := by
  unfold dCons; rw [wE_bind]; congr 1; funext c e; rw [wE_bind]; rfl
@[simp] theorem w_consL {k : Nat} {g : Rho → Res (List Cel)} {Q : List Cel → Rho → Prop} : wE (dConsL k g ρ) Q X = sE ρ k fun _ => wE (g ρ) (fun cs e2 => sE e2 k fun c => Q (c :: cs) e2) X := by
  unfold dConsL
  split
  · rename_i c e
    unfold sE
    rw [e, wE_bind]
    have : (∃ c', some (some c) = some (some c') ∧ wE (g ρ) (fun cs e2 => ∃ c, e2[k]? = some (some c) ∧ Q (c :: cs) e2) X) = wE (g ρ) (fun cs e2 => ∃ c, e2[k]? = some (some c) ∧ Q (c :: cs) e2) X := by simp
    rw [this]
    congr 1; funext cs e2
    split
    · rename_i c e; rw [e]; simp [wE]
    · rename_i h
      exact propext ⟨fun z => z.elim, fun ⟨c, e, _⟩ => (h c e).elim⟩
  · rename_i h
    unfold sE
    exact propext ⟨fun z => z.elim, fun ⟨c, e, _⟩ => (h c e).elim⟩
@[simp] theorem w_cb {g : List Cel → Option Cel} {fa : Rho → Res (List Cel)} {Q : Cel → Rho → Prop} : wE (dCb g fa ρ) Q X = wE (fa ρ) (fun cs e => oE (g cs) fun c => Q c e) X := by
  unfold dCb; rw [wE_bind]; congr 1; funext c e; rw [wE_ofO]
@[simp] theorem w_isi {T : String} {f : Rho → Res Cel} {Q : Bool → Rho → Prop} : wE (dIsi T f ρ) Q X = wE (f ρ) (fun c e => nE (tyKnown c.2 = true) (Q (isiB (tyName c.2) T) e)) X := by
  unfold dIsi; rw [wE_bind]; congr 1; funext c e
  unfold nE
  by_cases h : tyKnown c.2 = true
  · rw [if_pos h]; simp [wE, h]
  · rw [if_neg h]; simp [wE, h]
def tupO (cs : List Cel) : Option Cel := match dispMd cs with
  | some m => if cs.length ≤ 1000 then some (m, .tup (cs.map (·.2))) else none
  | none => none
def lstO (cs : List Cel) : Option Cel := match dispMd cs with
  | some .all => if cs.length ≤ 1000 then some (.all, .lst (cs.map (·.2))) else none
  | some (.own n) => if cs.length ≤ 1000 then some (.own (n + 1), .lst (cs.map (·.2))) else none
  | _ => none
@[simp] theorem w_tup {fa : Rho → Res (List Cel)} {Q : Cel → Rho → Prop} : wE (dTup fa ρ) Q X = wE (fa ρ) (fun cs e => oE (tupO cs) fun c => Q c e) X := by
  unfold dTup; rw [wE_bind]; congr 1; funext cs e
  unfold tupO
  cases dispMd cs with
  | none => unfold oE; simp [wE]
  | some m =>
    dsimp only
    by_cases h : cs.length ≤ 1000
    · rw [if_pos h, if_pos h, oE_some]; rfl
    · rw [if_neg h, if_neg h]; unfold oE; simp [wE]
@[simp] theorem w_lst {fa : Rho → Res (List Cel)} {Q : Cel → Rho → Prop} : wE (dLst fa ρ) Q X = wE (fa ρ) (fun cs e => oE (lstO cs) fun c => Q c e) X := by
  unfold dLst; rw [wE_bind]; congr 1; funext cs e
  unfold lstO
  cases dispMd cs with
  | none => unfold oE; simp [wE]
  | some m =>
    cases m with
    | lent => unfold oE; simp [wE]
    | all =>
      dsimp only
      by_cases h : cs.length ≤ 1000
      · rw [if_pos h, if_pos h, oE_some]; rfl
      · rw [if_neg h, if_neg h]; unfold oE; simp [wE]
    | own n =>
      dsimp only
      by_cases h : cs.length ≤ 1000
      · rw [if_pos h, if_pos h, oE_some]; rfl
      · rw [if_neg h, if_neg h]; unfold oE; simp [wE]
theorem tupO_imm {cs : List Cel} (h : cs.all (fun c => imm c.2) = true) (hl : cs.length ≤ 1000) : tupO cs = some (.all, .tup (cs.map (·.2))) := by unfold tupO; rw [dispMd_imm h]; exact if_pos hl
theorem lstO_imm {cs : List Cel} (h : cs.all (fun c => imm c.2) = true) (hl : cs.length ≤ 1000) : lstO cs = some (.all, .lst (cs.map (·.2))) := by unfold lstO; rw [dispMd_imm h]; exact if_pos hl
/-! statements -/
@[simp] theorem w_set {k : Nat} {f : Rho → Res Cel} : wS (dsSet k f ρ) K = wE (f ρ) (fun c e => K.nx (e.set k (some c))) K.ex := by unfold dsSet; cases f ρ <;> rfl
@[simp] theorem w_expr {f : Rho → Res Cel} : wS (dsExpr f ρ) K = wE (f ρ) (fun _ e => K.nx e) K.ex := by unfold dsExpr; cases f ρ <;> rfl
@[simp] theorem w_ret {f : Rho → Res Cel} : wS (dsRet f ρ) K = wE (f ρ) (fun c e => K.rt c e) K.ex := by unfold dsRet; cases f ρ <;> rfl
@[simp] theorem w_sif {c : Rho → Res Bool} {f g : Rho → SR} : wS (dsIf c f g ρ) K = wE (c ρ) (fun b e => cE b (wS (f e) K) (wS (g e) K)) K.ex := by
  unfold dsIf
  cases c ρ with
  | ok b e => exact wS_bif
  | exc x e => rfl
  | stuck => rfl
@[simp] theorem w_nx : wS (dsNx ρ) K = K.nx ρ := rfl
@[simp] theorem w_bk : wS (dsBk ρ) K = K.bk ρ := rfl
@[simp] theorem w_ct : wS (dsCt ρ) K = K.ct ρ := rfl
@[simp] theorem w_seq {f g : Rho → SR} : wS (dsSeq f g ρ) K = wS (f ρ) ⟨fun e => wS (g e) K, K.rt, K.bk, K.ct, K.ex⟩ := by unfold dsSeq; cases f ρ <;> rfl
@[simp] theorem w_asg {f : Rho → Res Cel} {g : Cel → Rho → Option Rho} : wS (dsAsg f g ρ) K = wE (f ρ) (fun c e => oE (asVal c) fun c => oE (g c e) K.nx) K.ex := by
  unfold dsAsg
  cases f ρ with
  | ok c e =>
    show wS (match asVal c with | some c => (match g c e with | some ρ2 => .nx ρ2 | none => .stuck) | none => .stuck) K = oE (asVal c) fun c => oE (g c e) K.nx
    cases asVal c with
    | none => exact oN
    | some a =>
      refine Eq.symm (oE_some.trans (Eq.symm ?_))
      show wS (match g a e with | some ρ2 => .nx ρ2 | none => .stuck) K = oE (g a e) K.nx
      cases g a e with
      | none => exact oN
      | some a => exact Eq.symm (oE_some.trans rfl)
  | exc x e => rfl
  | stuck => rfl
@[simp] theorem w_for {f : Rho → Res (Md × List D)} {g : Cel → Rho → Option Rho} {body : Rho → SR} : wS (dsForI f g body ρ) K = wE (f ρ) (fun q e => wS (forD q.1 g body q.2 e) K) K.ex := by unfold dsForI; cases f ρ <;> rfl
@[simp] theorem w_ival {f : Rho → Res Cel} {Q : Md × List D → Rho → Prop} : wE (diVal f ρ) Q X = wE (f ρ) (fun c e => oE (seqOf c) fun q => Q q e) X := by
  unfold diVal; rw [wE_bind]; congr 1; funext c e; cases seqOf c with
  | none => exact oN
  | some a => exact Eq.symm (oE_some.trans rfl)
@[simp] theorem w_irng {f : Rho → Res (List Cel)} {Q : Md × List D → Rho → Prop} : wE (diRng f ρ) Q X = wE (f ρ) (fun cs e => oE (rngOf cs) fun ds => Q (.own 0, ds) e) X := by
  unfold diRng; rw [wE_bind]; congr 1; funext cs e; cases rngOf cs with
  | none => exact oN
  | some a => exact Eq.symm (oE_some.trans rfl)
@[simp] theorem w_bm {ok : D → Bool} {g : Cel → List Cel → Option Cel} {f : Rho → Res Cel} {fa : Rho → Res (List Cel)} {Q : Cel → Rho → Prop} : wE (dBm ok g f fa ρ) Q X = wE (f ρ) (fun c e1 => nE (ok c.2 = true) (wE (fa e1) (fun cs e2 => oE (g c cs) fun c => Q c e2) X)) X := by
  unfold dBm; rw [wE_bind]; congr 1; funext c e
  unfold nE
  by_cases h : ok c.2 = true
  · rw [if_pos h, wE_bind]; simp only [h, true_and]; congr 1; funext cs e; rw [wE_ofO]
  · rw [if_neg h]; simp [wE, h]
@[simp] theorem w_call {F : Rho → Res Cel} {Ss : List Src} {ks : List Pk} {fa : Rho → Res (List Cel)} {Q : Cel → Rho → Prop} : wE (dCall F Ss ks fa ρ) Q X = wE (fa ρ) (fun cs e => wE (F (passAll ks cs)) (fun c ps => oE (wb Ss ks ps e) fun e2 => Q c e2) fun x ps => oE (wb Ss ks ps e) fun e2 => X x e2) X := by
  unfold dCall; rw [wE_bind]; congr 1; funext cs e
  cases F (passAll ks cs) with
  | ok c ps =>
    show wE (match wb Ss ks ps e with | some ρ2 => Res.ok c ρ2 | none => .stuck) Q X = oE (wb Ss ks ps e) fun e2 => Q c e2
    cases wb Ss ks ps e with
    | none => exact oN
    | some a => exact Eq.symm (oE_some.trans rfl)
  | exc x ps =>
    show wE (match wb Ss ks ps e with | some ρ2 => Res.exc x ρ2 | none => .stuck) Q X = oE (wb Ss ks ps e) fun e2 => X x e2
    cases wb Ss ks ps e with
    | none => exact oN
    | some a => exact Eq.symm (oE_some.trans rfl)
  | stuck => rfl
theorem w_fun {N n : Nat} {body : Rho → SR} {ps : Rho} {Q : Cel → Rho → Prop} : wE (dFun N n body ps) Q X = wS (body (ps ++ List.replicate (N - n) none)) ⟨fun e => Q (.own 0, .non) (e.take n), fun c e => oE (retCel c) fun c => Q c (e.take n), fun _ => False, fun _ => False, fun x e => X x (e.take n)⟩ := by
  unfold dFun
  cases body (ps ++ List.replicate (N - n) none) with
  | rt c e =>
    show wE (match retCel c with | some c => Res.ok c (e.take n) | none => .stuck) Q X = oE (retCel c) fun c => Q c (e.take n)
    cases retCel c with
    | none => exact oN
    | some a => exact Eq.symm (oE_some.trans rfl)
  | nx e => rfl
  | exc x e => rfl
  | bk e => rfl
  | ct e => rfl
  | stuck => rfl
def appO (k : Nat) (m : Md) (ds : List D) (p : Tag) (ρ1 : Rho) (c : Cel) (ρ2 : Rho) : Option Rho := (appMd m ds c).bind fun md => if ds.length < sizeLine then putAt k p m md (.lst (ds ++ [c.2])) ρ1 ρ2 else none
@[simp] theorem w_app {k : Nat} {fP : Rho → Res (Cel × Tag)} {fe : Rho → Res Cel} {Q : Cel → Rho → Prop} : wE (dApp k fP fe ρ) Q X = wE (fP ρ) (fun cp e1 => ∃ ds, cp.1.2 = .lst ds ∧ wE (fe e1) (fun c e2 => oE (appO k cp.1.1 ds cp.2 e1 c e2) fun e3 => Q (.own 0, .non) e3) X) X := by
  unfold dApp; rw [wE_bind]; congr 1; funext cp e1
  obtain ⟨⟨m, d⟩, p⟩ := cp
  cases d with
  | lst ds =>
    show wE ((fe e1).bind (appRes k m ds p e1)) Q X = ∃ ds', D.lst ds = .lst ds' ∧ _
    have : ∀ P : List D → Prop, (∃ ds', D.lst ds = .lst ds' ∧ P ds') = P ds := fun P => by simp
    rw [this, wE_bind]; congr 1; funext c e2
    unfold appRes appO
    cases appMd m ds c with
    | none => unfold oE; simp [wE]
    | some md =>
      simp only [Option.bind_some]
      by_cases h : ds.length < sizeLine
      · rw [if_pos h, if_pos h]
        cases putAt k p m md (.lst (ds ++ [c.2])) e1 e2 with
        | none => exact oN
        | some e3 => exact Eq.symm (oE_some.trans rfl)
      · rw [if_neg h, if_neg h]; unfold oE; simp [wE]
  | _ => simp [appGo, wE]
def lmO (op : Md → List D → List Cel → Option (Cel × Md × List D)) (k : Nat) (m : Md) (ds : List D) (p : Tag) (ρ1 : Rho) (cs : List Cel) (ρ2 : Rho) : Option (Cel × Rho) := if m.mut = true then (op m ds cs).bind fun q => (putAt k p m q.2.1 (.lst q.2.2) ρ1 ρ2).map fun e => (q.1, e) else none
@[simp] theorem w_lm {op : Md → List D → List Cel → Option (Cel × Md × List D)} {k : Nat} {fP : Rho → Res (Cel × Tag)} {fa : Rho → Res (List Cel)} {Q : Cel → Rho → Prop} : wE (dLm op k fP fa ρ) Q X = wE (fP ρ) (fun cp e1 => ∃ ds, cp.1.2 = .lst ds ∧ wE (fa e1) (fun cs e2 => oE (lmO op k cp.1.1 ds cp.2 e1 cs e2) fun q => Q q.1 q.2) X) X := by
  unfold dLm; rw [wE_bind]; congr 1; funext cp e1
  obtain ⟨⟨m, d⟩, p⟩ := cp
  cases d with
  | lst ds =>
    show wE ((fa e1).bind (lmRes op k m ds p e1)) Q X = ∃ ds', D.lst ds = .lst ds' ∧ _
    have : ∀ P : List D → Prop, (∃ ds', D.lst ds = .lst ds' ∧ P ds') = P ds := fun P => by simp
    rw [this, wE_bind]; congr 1; funext cs e2
    unfold lmRes lmO
    by_cases h : m.mut = true
    · rw [if_pos h, if_pos h]
      cases op m ds cs with
      | none => unfold oE; simp [wE]
      | some q =>
        simp only [Option.bind_some]
        cases putAt k p m q.2.1 (.lst q.2.2) e1 e2 with
        | none => unfold oE; simp [wE]
        | some e3 => rw [Option.map_some, oE_some]; rfl
    · rw [if_neg h, if_neg h]; unfold oE; simp [wE]
  | _ => simp [lmGo, wE]
@[simp] theorem w_put {k : Nat} {fe : Rho → Res Cel} {fP : Rho → Res (Cel × Tag)} {fk : Rho → Res Cel} : wS (dsPut k fe fP fk ρ) K = wE (fe ρ) (fun c e1 => wE (fP e1) (fun cp e2 => wE (fk e2) (fun k' e3 => oE (putRes k c cp e2 k' e3) K.nx) K.ex) K.ex) K.ex := by
  have key : ∀ r : Res Unit, wS (match r with | .ok _ ρ4 => .nx ρ4 | .exc x ρ4 => .exc x ρ4 | .stuck => .stuck) K = wE r (fun _ e => K.nx e) K.ex := fun r => by cases r <;> rfl
  refine (key _).trans ?_
  rw [wE_bind]; congr 1; funext c e1; rw [wE_bind]; congr 1; funext cp e2; rw [wE_bind]; congr 1; funext k' e3
  cases putRes k c cp e2 k' e3 with
  | none => exact oN
  | some a => exact Eq.symm (oE_some.trans rfl)
@[simp] theorem putRes_eq {k : Nat} {p : Tag} {k' : Cel} {ρ3 : Rho} : putRes k c ((m, d), p) ρ2 k' ρ3 = if m.mut = true then (putIt m d k' c).bind fun x => putAt k p m x.1 x.2.1 ρ2 ρ3 else none := rfl
@[simp] theorem w_lc {f : Rho → Res (Md × List D)} {g : Cel → Rho → Option Rho} {ts : Rho → Res Bool} {fe : Rho → Res Cel} {own : List Nat} {Q : Cel → Rho → Prop} : wE (dLc f g ts fe own ρ) Q X = wE (f ρ) (fun q e => wE (lcD q.1 g ts fe own e q.2 .all [] e) Q X) X := by unfold dLc; rw [wE_bind]
@[simp] theorem w_yes {Q : Bool → Rho → Prop} : wE (dYes ρ) Q X = Q true ρ := rfl
/-! loops -/
theorem for_inv {md : Md} {g : Cel → Rho → Option Rho} {body : Rho → SR} {ds : List D} (I : List D → Rho → Prop) (h0 : I [] ρ)
    (step : ∀ done d rest ρ, ds = done ++ d :: rest → I done ρ → oE (itCel md d) fun c => oE (g c ρ) fun ρ1 => wS (body ρ1) ⟨I (done ++ [d]), K.rt, K.nx, I (done ++ [d]), K.ex⟩) (hd : ∀ ρ, I ds ρ → K.nx ρ) : wS (forD md g body ds ρ) K := by
  have key : ∀ (rest done : List D) (ρ : Rho), ds = done ++ rest → I done ρ → wS (forD md g body rest ρ) K := by
    intro rest
    induction rest with
    | nil =>
      intro done ρ e h
      rw [List.append_nil] at e
      subst e
      exact hd ρ h
    | cons d rest ih =>
      intro done ρ e h
      obtain ⟨c, e1, ρ1, e2, h3⟩ := step done d rest ρ e h
      show wS (match (itCel md d).bind fun c => g c ρ with
        | none => .stuck
        | some ρ1 => match body ρ1 with
          | .nx ρ2 => forD md g body rest ρ2
          | .ct ρ2 => forD md g body rest ρ2
          | .bk ρ2 => .nx ρ2
          | .rt c ρ2 => .rt c ρ2
          | .exc x ρ2 => .exc x ρ2
          | .stuck => .stuck) K
      rw [e1]
      show wS (match g c ρ with
        | none => .stuck
        | some ρ1 => match body ρ1 with
          | .nx ρ2 => forD md g body rest ρ2
          | .ct ρ2 => forD md g body rest ρ2
          | .bk ρ2 => .nx ρ2
          | .rt c ρ2 => .rt c ρ2
          | .exc x ρ2 => .exc x ρ2
          | .stuck => .stuck) K
      rw [e2]
      show wS (match body ρ1 with
          | .nx ρ2 => forD md g body rest ρ2
          | .ct ρ2 => forD md g body rest ρ2
          | .bk ρ2 => .nx ρ2
          | .rt c ρ2 => .rt c ρ2
          | .exc x ρ2 => .exc x ρ2
          | .stuck => .stuck) K
      have e' : ds = (done ++ [d]) ++ rest := by rw [e]; simp
      cases e3 : body ρ1 with
      | nx ρ2 => rw [e3] at h3; exact ih _ _ e' h3
      | ct ρ2 => rw [e3] at h3; exact ih _ _ e' h3
      | bk ρ2 => rw [e3] at h3; exact h3
      | rt c ρ2 => rw [e3] at h3; exact h3
      | exc x ρ2 => rw [e3] at h3; exact h3
      | stuck => rw [e3] at h3; exact h3
  exact key ds [] ρ rfl h0
end
end DL.P0

/-! DL part 24: the same with what is to hold out of simp's sight. -/
namespace DL
open PySem L2
abbrev XP := Exn → Rho → Prop
class Cont (α : Type) where
  run : α → Rho → Prop
class Con1 (α : Type) where
  run : α → Prop
class Post where
  nx : Rho → Prop
  rt : Cel → Rho → Prop
  bk : Rho → Prop
  ct : Rho → Prop
  ex : XP
def Post.p (K : Post) : P0.Post := ⟨K.nx, K.rt, K.bk, K.ct, K.ex⟩
def wE {α : Type} (r : Res α) [Q : Cont α] [X : Cont Exn] : Prop := P0.wE r Q.run X.run
def oE {α : Type} (o : Option α) [Q : Con1 α] : Prop := P0.oE o Q.run
def cE (b : Bool) [P : Con1 Unit] [Q : Con1 Unit] : Prop := P0.cE b (P.run ()) (Q.run ())
def sE (ρ : Rho) (k : Nat) [Q : Con1 Cel] : Prop := P0.sE ρ k Q.run
def nE (p : Prop) [Q : Con1 Unit] : Prop := P0.nE p (Q.run ())
def wS (z : SR) [K : Post] : Prop := P0.wS z K.p
open P0 (tupO lstO appO lmO)
section
variable {α β : Type} {ρ ρ1 ρ2 : Rho} {c c1 c2 : Cel} {m : Md} {d : D} {i j : Int} {X : XP} {K : Post}
@[simp] theorem nE_true {Q : Prop} : (@nE True ⟨fun _ => Q⟩) = Q := P0.nE_true
@[simp] theorem oE_some {a : α} {Q : α → Prop} : (@oE _ (some a) ⟨Q⟩) = Q a := P0.oE_some
@[simp] theorem cE_true {P Q : Prop} : (@cE true ⟨fun _ => P⟩ ⟨fun _ => Q⟩) = P := P0.cE_true
@[simp] theorem cE_false {P Q : Prop} : (@cE false ⟨fun _ => P⟩ ⟨fun _ => Q⟩) = Q := P0.cE_false
@[simp] theorem sE_zero {Q : Cel → Prop} : (@sE (some c :: ρ) 0 ⟨Q⟩) = Q c := P0.sE_zero
@[simp] theorem sE_succ {x : Option Cel} {k : Nat} {Q : Cel → Prop} : (@sE (x :: ρ) (k + 1) ⟨Q⟩) = (@sE ρ k ⟨Q⟩) := P0.sE_succ
@[simp] theorem w_var {k : Nat} {Q : Cel → Rho → Prop} : (@wE _ (dVar k ρ) ⟨Q⟩ ⟨X⟩) = (@sE ρ k ⟨fun c => Q c ρ⟩) := P0.w_var
@[simp] theorem w_C {Q : Cel → Rho → Prop} : (@wE _ (dC d ρ) ⟨Q⟩ ⟨X⟩) = Q (.own 0, d) ρ := P0.w_C
@[simp] theorem w_val {f : Rho → Res Cel} {Q : Cel → Rho → Prop} : (@wE _ (dVal f ρ) ⟨Q⟩ ⟨X⟩) = (@wE _ (f ρ) ⟨(fun c e => (@oE _ (asVal c) ⟨fun c => Q c e⟩))⟩ ⟨X⟩) := P0.w_val
@[simp] theorem w_bin {g : Cel → Cel → Option Cel} {f1 f2 : Rho → Res Cel} {Q : Cel → Rho → Prop} : (@wE _ (dBin g f1 f2 ρ) ⟨Q⟩ ⟨X⟩) = (@wE _ (f1 ρ) ⟨(fun c1 e1 => (@wE _ (f2 e1) ⟨(fun c2 e2 => (@oE _ (g c1 c2) ⟨fun c => Q c e2⟩))⟩ ⟨X⟩))⟩ ⟨X⟩) := P0.w_bin
@[simp] theorem w_cmp {g : D → D → Option Bool} {f1 f2 : Rho → Res Cel} {Q : Bool → Rho → Prop} : (@wE _ (dCmp g f1 f2 ρ) ⟨Q⟩ ⟨X⟩) = (@wE _ (f1 ρ) ⟨(fun c1 e1 => (@wE _ (f2 e1) ⟨(fun c2 e2 => (@oE _ (g c1.2 c2.2) ⟨fun b => Q b e2⟩))⟩ ⟨X⟩))⟩ ⟨X⟩) := P0.w_cmp
@[simp] theorem w_bool {r : Res Bool} {Q : Cel → Rho → Prop} : (@wE _ (boolR r) ⟨Q⟩ ⟨X⟩) = (@wE _ r ⟨(fun b e => Q (.own 0, .bl b) e)⟩ ⟨X⟩) := P0.w_bool
@[simp] theorem w_tru {f : Rho → Res Cel} {Q : Bool → Rho → Prop} : (@wE _ (dTru f ρ) ⟨Q⟩ ⟨X⟩) = (@wE _ (f ρ) ⟨(fun c e => (@oE _ (truD c.2) ⟨fun b => Q b e⟩))⟩ ⟨X⟩) := P0.w_tru
@[simp] theorem w_not {f : Rho → Res Bool} {Q : Bool → Rho → Prop} : (@wE _ (dNot f ρ) ⟨Q⟩ ⟨X⟩) = (@wE _ (f ρ) ⟨(fun b e => Q (!b) e)⟩ ⟨X⟩) := P0.w_not
@[simp] theorem w_and {f g : Rho → Res Bool} {Q : Bool → Rho → Prop} : (@wE _ (dAnd f g ρ) ⟨Q⟩ ⟨X⟩) = (@wE _ (f ρ) ⟨(fun b e => (@cE b ⟨fun _ => ((@wE _ (g e) ⟨Q⟩ ⟨X⟩))⟩ ⟨fun _ => (Q false e)⟩))⟩ ⟨X⟩) := P0.w_and
@[simp] theorem w_or {f g : Rho → Res Bool} {Q : Bool → Rho → Prop} : (@wE _ (dOr f g ρ) ⟨Q⟩ ⟨X⟩) = (@wE _ (f ρ) ⟨(fun b e => (@cE b ⟨fun _ => (Q true e)⟩ ⟨fun _ => ((@wE _ (g e) ⟨Q⟩ ⟨X⟩))⟩))⟩ ⟨X⟩) := P0.w_or
@[simp] theorem w_notV {f : Rho → Res Cel} {Q : Cel → Rho → Prop} : (@wE _ (dNotV f ρ) ⟨Q⟩ ⟨X⟩) = (@wE _ (f ρ) ⟨(fun c e => (@oE _ (truD c.2) ⟨fun b => Q (.own 0, .bl (!b)) e⟩))⟩ ⟨X⟩) := P0.w_notV
@[simp] theorem w_andV {f g : Rho → Res Cel} {Q : Cel → Rho → Prop} : (@wE _ (dAndV f g ρ) ⟨Q⟩ ⟨X⟩) = (@wE _ (f ρ) ⟨(fun c e => (@oE _ (truD c.2) ⟨fun b => (@cE b ⟨fun _ => ((@wE _ (g e) ⟨Q⟩ ⟨X⟩))⟩ ⟨fun _ => (Q c e)⟩)⟩))⟩ ⟨X⟩) := P0.w_andV
@[simp] theorem w_orV {f g : Rho → Res Cel} {Q : Cel → Rho → Prop} : (@wE _ (dOrV f g ρ) ⟨Q⟩ ⟨X⟩) = (@wE _ (f ρ) ⟨(fun c e => (@oE _ (truD c.2) ⟨fun b => (@cE b ⟨fun _ => (Q c e)⟩ ⟨fun _ => ((@wE _ (g e) ⟨Q⟩ ⟨X⟩))⟩)⟩))⟩ ⟨X⟩) := P0.w_orV
@[simp] theorem w_if {c : Rho → Res Bool} {f g : Rho → Res Cel} {Q : Cel → Rho → Prop} : (@wE _ (dIf c f g ρ) ⟨Q⟩ ⟨X⟩) = (@wE _ (c ρ) ⟨(fun b e => (@cE b ⟨fun _ => ((@wE _ (f e) ⟨Q⟩ ⟨X⟩))⟩ ⟨fun _ => ((@wE _ (g e) ⟨Q⟩ ⟨X⟩))⟩))⟩ ⟨X⟩) := P0.w_if
@[simp] theorem w_chain {g g' : D → D → Option Bool} {f1 f2 f3 : Rho → Res Cel} {Q : Bool → Rho → Prop} : (@wE _ (dChain g g' f1 f2 f3 ρ) ⟨Q⟩ ⟨X⟩) = (@wE _ (f1 ρ) ⟨(fun c1 e1 => (@wE _ (f2 e1) ⟨(fun c2 e2 => (@oE _ (g c1.2 c2.2) ⟨fun b => (@cE b ⟨fun _ => ((@wE _ (f3 e2) ⟨(fun c3 e3 => (@oE _ (g' c2.2 c3.2) ⟨fun b => Q b e3⟩))⟩ ⟨X⟩))⟩ ⟨fun _ => (Q false e2)⟩)⟩))⟩ ⟨X⟩))⟩ ⟨X⟩) := P0.w_chain
@[simp] theorem w_pvar {k : Nat} {Q : Cel × Tag → Rho → Prop} : (@wE _ (dpVar k ρ) ⟨Q⟩ ⟨X⟩) = (@sE ρ k ⟨fun c => Q (c, []) ρ⟩) := P0.w_pvar
@[simp] theorem w_pix {k : Nat} {f1 : Rho → Res (Cel × Tag)} {f2 : Rho → Res Cel} {Q : Cel × Tag → Rho → Prop} : (@wE _ (dIxP k f1 f2 ρ) ⟨Q⟩ ⟨X⟩) = (@wE _ (f1 ρ) ⟨(fun cp e1 => (@wE _ (f2 e1) ⟨(fun c2 e2 => (@oE _ (gIx cp.1 c2) ⟨fun jc => Q (jc.2, cp.2 ++ [jc.1]) (keepAt k e1 e2)⟩))⟩ ⟨X⟩))⟩ ⟨X⟩) := P0.w_pix
@[simp] theorem w_path {f : Rho → Res (Cel × Tag)} {Q : Cel → Rho → Prop} : (@wE _ (dPath f ρ) ⟨Q⟩ ⟨X⟩) = (@wE _ (f ρ) ⟨(fun cp e => Q cp.1 e)⟩ ⟨X⟩) := P0.w_path
@[simp] theorem w_ix {f1 f2 : Rho → Res Cel} {Q : Cel → Rho → Prop} : (@wE _ (dIx f1 f2 ρ) ⟨Q⟩ ⟨X⟩) = (@wE _ (f1 ρ) ⟨(fun c1 e1 => (@wE _ (f2 e1) ⟨(fun c2 e2 => (@oE _ (gIx c1 c2) ⟨fun jc => (@oE _ (asVal jc.2) ⟨fun c => Q c e2⟩)⟩))⟩ ⟨X⟩))⟩ ⟨X⟩) := P0.w_ix
@[simp] theorem w_onone {Q : Option Int → Rho → Prop} : (@wE _ (dONone ρ) ⟨Q⟩ ⟨X⟩) = Q none ρ := P0.w_onone
@[simp] theorem w_osome {f : Rho → Res Cel} {Q : Option Int → Rho → Prop} : (@wE _ (dOSome f ρ) ⟨Q⟩ ⟨X⟩) = (@wE _ (f ρ) ⟨(fun c e => ∃ i, c.2 = .int i ∧ Q (some i) e)⟩ ⟨X⟩) := P0.w_osome
@[simp] theorem w_neg {f : Rho → Res Cel} {Q : Cel → Rho → Prop} : (@wE _ (dNeg f ρ) ⟨Q⟩ ⟨X⟩) = (@wE _ (f ρ) ⟨(fun c e => ∃ i, c.2 = .int i ∧ Q (.own 0, .int (-i)) e)⟩ ⟨X⟩) := P0.w_neg
@[simp] theorem w_sl {f : Rho → Res Cel} {fl fh : Rho → Res (Option Int)} {Q : Cel → Rho → Prop} : (@wE _ (dSl f fl fh ρ) ⟨Q⟩ ⟨X⟩) = (@wE _ (f ρ) ⟨(fun c e1 => (@wE _ (fl e1) ⟨(fun lo e2 => (@wE _ (fh e2) ⟨(fun hi e3 => (@oE _ (gSl c lo hi) ⟨fun c => Q c e3⟩))⟩ ⟨X⟩))⟩ ⟨X⟩))⟩ ⟨X⟩) := P0.w_sl
@[simp] theorem w_nil {Q : List Cel → Rho → Prop} : (@wE _ (dNil ρ) ⟨Q⟩ ⟨X⟩) = Q [] ρ := P0.w_nil
@[simp] theorem w_cons {f : Rho → Res Cel} {g : Rho → Res (List Cel)} {Q : List Cel → Rho → Prop} : (@wE _ (dCons f g ρ) ⟨Q⟩ ⟨X⟩) = (@wE _ (f ρ) ⟨(fun c e1 => (@wE _ (g e1) ⟨(fun cs e2 => Q (c :: cs) e2)⟩ ⟨X⟩))⟩ ⟨X⟩) := P0.w_cons
@[simp] theorem w_consL {k : Nat} {g : Rho → Res (List Cel)} {Q : List Cel → Rho → Prop} : (@wE _ (dConsL k g ρ) ⟨Q⟩ ⟨X⟩) = (@sE ρ k ⟨fun _ => (@wE _ (g ρ) ⟨(fun cs e2 => (@sE e2 k ⟨fun c => Q (c :: cs) e2⟩))⟩ ⟨X⟩)⟩) := P0.w_consL
@[simp] theorem w_cb {g : List Cel → Option Cel} {fa : Rho → Res (List Cel)} {Q : Cel → Rho → Prop} : (@wE _ (dCb g fa ρ) ⟨Q⟩ ⟨X⟩) = (@wE _ (fa ρ) ⟨(fun cs e => (@oE _ (g cs) ⟨fun c => Q c e⟩))⟩ ⟨X⟩) := P0.w_cb
@[simp] theorem w_isi {T : String} {f : Rho → Res Cel} {Q : Bool → Rho → Prop} : (@wE _ (dIsi T f ρ) ⟨Q⟩ ⟨X⟩) = (@wE _ (f ρ) ⟨(fun c e => (@nE (tyKnown c.2 = true) ⟨fun _ => (Q (isiB (tyName c.2) T) e)⟩))⟩ ⟨X⟩) := P0.w_isi
@[simp] theorem w_tup {fa : Rho → Res (List Cel)} {Q : Cel → Rho → Prop} : (@wE _ (dTup fa ρ) ⟨Q⟩ ⟨X⟩) = (@wE _ (fa ρ) ⟨(fun cs e => (@oE _ (tupO cs) ⟨fun c => Q c e⟩))⟩ ⟨X⟩) := P0.w_tup
@[simp] theorem w_lst {fa : Rho → Res (List Cel)} {Q : Cel → Rho → Prop} : (@wE _ (dLst fa ρ) ⟨Q⟩ ⟨X⟩) = (@wE _ (fa ρ) ⟨(fun cs e => (@oE _ (lstO cs) ⟨fun c => Q c e⟩))⟩ ⟨X⟩) := P0.w_lst
@[simp] theorem w_set {k : Nat} {f : Rho → Res Cel} : (@wS (dsSet k f ρ) K) = (@wE _ (f ρ) ⟨(fun c e => K.nx (e.set k (some c)))⟩ ⟨K.ex⟩) := P0.w_set
@[simp] theorem w_expr {f : Rho → Res Cel} : (@wS (dsExpr f ρ) K) = (@wE _ (f ρ) ⟨(fun _ e => K.nx e)⟩ ⟨K.ex⟩) := P0.w_expr
@[simp] theorem w_ret {f : Rho → Res Cel} : (@wS (dsRet f ρ) K) = (@wE _ (f ρ) ⟨(fun c e => K.rt c e)⟩ ⟨K.ex⟩) := P0.w_ret
@[simp] theorem w_sif {c : Rho → Res Bool} {f g : Rho → SR} : (@wS (dsIf c f g ρ) K) = (@wE _ (c ρ) ⟨(fun b e => (@cE b ⟨fun _ => ((@wS (f e) K))⟩ ⟨fun _ => ((@wS (g e) K))⟩))⟩ ⟨K.ex⟩) := P0.w_sif
@[simp] theorem w_nx : (@wS (dsNx ρ) K) = K.nx ρ := P0.w_nx
@[simp] theorem w_bk : (@wS (dsBk ρ) K) = K.bk ρ := P0.w_bk
@[simp] theorem w_ct : (@wS (dsCt ρ) K) = K.ct ρ := P0.w_ct
@[simp] theorem w_seq {f g : Rho → SR} : (@wS (dsSeq f g ρ) K) = (@wS (f ρ) ⟨fun e => (@wS (g e) K), K.rt, K.bk, K.ct, K.ex⟩) := P0.w_seq
@[simp] theorem w_asg {f : Rho → Res Cel} {g : Cel → Rho → Option Rho} : (@wS (dsAsg f g ρ) K) = (@wE _ (f ρ) ⟨(fun c e => (@oE _ (asVal c) ⟨fun c => (@oE _ (g c e) ⟨K.nx⟩)⟩))⟩ ⟨K.ex⟩) := P0.w_asg
@[simp] theorem w_for {f : Rho → Res (Md × List D)} {g : Cel → Rho → Option Rho} {body : Rho → SR} : (@wS (dsForI f g body ρ) K) = (@wE _ (f ρ) ⟨(fun q e => (@wS (forD q.1 g body q.2 e) K))⟩ ⟨K.ex⟩) := P0.w_for
@[simp] theorem w_ival {f : Rho → Res Cel} {Q : Md × List D → Rho → Prop} : (@wE _ (diVal f ρ) ⟨Q⟩ ⟨X⟩) = (@wE _ (f ρ) ⟨(fun c e => (@oE _ (seqOf c) ⟨fun q => Q q e⟩))⟩ ⟨X⟩) := P0.w_ival
@[simp] theorem w_irng {f : Rho → Res (List Cel)} {Q : Md × List D → Rho → Prop} : (@wE _ (diRng f ρ) ⟨Q⟩ ⟨X⟩) = (@wE _ (f ρ) ⟨(fun cs e => (@oE _ (rngOf cs) ⟨fun ds => Q (.own 0, ds) e⟩))⟩ ⟨X⟩) := P0.w_irng
@[simp] theorem w_bm {ok : D → Bool} {g : Cel → List Cel → Option Cel} {f : Rho → Res Cel} {fa : Rho → Res (List Cel)} {Q : Cel → Rho → Prop} : (@wE _ (dBm ok g f fa ρ) ⟨Q⟩ ⟨X⟩) = (@wE _ (f ρ) ⟨(fun c e1 => (@nE (ok c.2 = true) ⟨fun _ => ((@wE _ (fa e1) ⟨(fun cs e2 => (@oE _ (g c cs) ⟨fun c => Q c e2⟩))⟩ ⟨X⟩))⟩))⟩ ⟨X⟩) := P0.w_bm
@[simp] theorem w_call {F : Rho → Res Cel} {Ss : List Src} {ks : List Pk} {fa : Rho → Res (List Cel)} {Q : Cel → Rho → Prop} : (@wE _ (dCall F Ss ks fa ρ) ⟨Q⟩ ⟨X⟩) = (@wE _ (fa ρ) ⟨(fun cs e => (@wE _ (F (passAll ks cs)) ⟨(fun c ps => (@oE _ (wb Ss ks ps e) ⟨fun e2 => Q c e2⟩))⟩ ⟨fun x ps => (@oE _ (wb Ss ks ps e) ⟨fun e2 => X x e2⟩)⟩))⟩ ⟨X⟩) := P0.w_call
@[simp] theorem w_app {k : Nat} {fP : Rho → Res (Cel × Tag)} {fe : Rho → Res Cel} {Q : Cel → Rho → Prop} : (@wE _ (dApp k fP fe ρ) ⟨Q⟩ ⟨X⟩) = (@wE _ (fP ρ) ⟨(fun cp e1 => ∃ ds, cp.1.2 = .lst ds ∧ (@wE _ (fe e1) ⟨(fun c e2 => (@oE _ (appO k cp.1.1 ds cp.2 e1 c e2) ⟨fun e3 => Q (.own 0, .non) e3⟩))⟩ ⟨X⟩))⟩ ⟨X⟩) := P0.w_app
@[simp] theorem w_lm {op : Md → List D → List Cel → Option (Cel × Md × List D)} {k : Nat} {fP : Rho → Res (Cel × Tag)} {fa : Rho → Res (List Cel)} {Q : Cel → Rho → Prop} : (@wE _ (dLm op k fP fa ρ) ⟨Q⟩ ⟨X⟩) = (@wE _ (fP ρ) ⟨(fun cp e1 => ∃ ds, cp.1.2 = .lst ds ∧ (@wE _ (fa e1) ⟨(fun cs e2 => (@oE _ (lmO op k cp.1.1 ds cp.2 e1 cs e2) ⟨fun q => Q q.1 q.2⟩))⟩ ⟨X⟩))⟩ ⟨X⟩) := P0.w_lm
@[simp] theorem w_put {k : Nat} {fe : Rho → Res Cel} {fP : Rho → Res (Cel × Tag)} {fk : Rho → Res Cel} : (@wS (dsPut k fe fP fk ρ) K) = (@wE _ (fe ρ) ⟨(fun c e1 => (@wE _ (fP e1) ⟨(fun cp e2 => (@wE _ (fk e2) ⟨(fun k' e3 => (@oE _ (putRes k c cp e2 k' e3) ⟨K.nx⟩))⟩ ⟨K.ex⟩))⟩ ⟨K.ex⟩))⟩ ⟨K.ex⟩) := P0.w_put
@[simp] theorem putRes_eq {k : Nat} {p : Tag} {k' : Cel} {ρ3 : Rho} : putRes k c ((m, d), p) ρ2 k' ρ3 = if m.mut = true then (putIt m d k' c).bind fun x => putAt k p m x.1 x.2.1 ρ2 ρ3 else none := P0.putRes_eq
@[simp] theorem w_lc {f : Rho → Res (Md × List D)} {g : Cel → Rho → Option Rho} {ts : Rho → Res Bool} {fe : Rho → Res Cel} {own : List Nat} {Q : Cel → Rho → Prop} : (@wE _ (dLc f g ts fe own ρ) ⟨Q⟩ ⟨X⟩) = (@wE _ (f ρ) ⟨(fun q e => (@wE _ (lcD q.1 g ts fe own e q.2 .all [] e) ⟨Q⟩ ⟨X⟩))⟩ ⟨X⟩) := P0.w_lc
@[simp] theorem w_yes {Q : Bool → Rho → Prop} : (@wE _ (dYes ρ) ⟨Q⟩ ⟨X⟩) = Q true ρ := P0.w_yes
theorem nE.mk {p Q : Prop} (h : p) (q : Q) : (@nE p ⟨fun _ => Q⟩) := ⟨h, q⟩
theorem oE.mk {o : Option α} {a : α} {Q : α → Prop} (h : o = some a) (q : Q a) : (@oE _ o ⟨Q⟩) := ⟨a, h, q⟩
theorem cE_split {b : Bool} {P Q : Prop} (h1 : b = true → P) (h2 : b = false → Q) : (@cE b ⟨fun _ => P⟩ ⟨fun _ => Q⟩) := P0.cE_split h1 h2
theorem cE_dec {p P Q : Prop} [Decidable p] (h1 : p → P) (h2 : ¬ p → Q) : (@cE (decide p) ⟨fun _ => P⟩ ⟨fun _ => Q⟩) := P0.cE_dec h1 h2
theorem wE.mono {r : Res α} {Q Q' : α → Rho → Prop} {X' : XP} (h : (@wE _ r ⟨Q⟩ ⟨X⟩)) (hq : ∀ a e, Q a e → Q' a e) (hx : ∀ x e, X x e → X' x e) : (@wE _ r ⟨Q'⟩ ⟨X'⟩) := P0.wE.mono h hq hx
/-- no exception -/
theorem wE.go {r : Res α} {Q Q' : α → Rho → Prop} {X' : XP} (h : (@wE _ r ⟨Q⟩ ⟨(fun _ _ => False)⟩)) (hq : ∀ a e, Q a e → Q' a e) : (@wE _ r ⟨Q'⟩ ⟨X'⟩) := P0.wE.go h hq
theorem wE_eq {r : Res α} {a : α} {e : Rho} (h : (@wE _ r ⟨(fun a' e' => a' = a ∧ e' = e)⟩ ⟨(fun _ _ => False)⟩)) : r = .ok a e := P0.wE_eq h
theorem wE_ok {r : Res α} {a : α} {e : Rho} {Q : α → Rho → Prop} (h : r = .ok a e) (q : Q a e) : (@wE _ r ⟨Q⟩ ⟨X⟩) := P0.wE_ok h q
theorem w_fun {N n : Nat} {body : Rho → SR} {ps : Rho} {Q : Cel → Rho → Prop} : (@wE _ (dFun N n body ps) ⟨Q⟩ ⟨X⟩) = (@wS (body (ps ++ List.replicate (N - n) none)) ⟨fun e => Q (.own 0, .non) (e.take n), fun c e => (@oE _ (retCel c) ⟨(fun c => Q c (e.take n))⟩), fun _ => False, fun _ => False, fun x e => X x (e.take n)⟩) := P0.w_fun
/-- a statement, then the rest, from what is known between -/
theorem w_cut {z : SR} {K : Post} (P : Rho → Prop) (h1 : (@wS z ⟨P, K.rt, K.bk, K.ct, K.ex⟩)) (h2 : ∀ e, P e → K.nx e) : (@wS z K) := P0.wS.mono h1 h2 (fun _ _ h => h) (fun _ h => h) (fun _ h => h) (fun _ _ h => h)
theorem for_inv {md : Md} {g : Cel → Rho → Option Rho} {body : Rho → SR} {ds : List D} (I : List D → Rho → Prop) (h0 : I [] ρ)
    (step : ∀ done d rest ρ, ds = done ++ d :: rest → I done ρ → (@oE _ (itCel md d) ⟨(fun c => (@oE _ (g c ρ) ⟨(fun ρ1 => (@wS (body ρ1) ⟨I (done ++ [d]), K.rt, K.nx, I (done ++ [d]), K.ex⟩))⟩))⟩)) (hd : ∀ ρ, I ds ρ → K.nx ρ) : (@wS (forD md g body ds ρ) K) := P0.for_inv I h0 step hd
/-- over data of one kind -/
theorem for_map {τ : Type} {en : τ → D} {xs : List τ} {md : Md} {g : Cel → Rho → Option Rho} {body : Rho → SR} (I : List τ → Rho → Prop) (h0 : I [] ρ)
    (step : ∀ done x rest ρ, xs = done ++ x :: rest → I done ρ → (@oE _ (itCel md (en x)) ⟨(fun c => (@oE _ (g c ρ) ⟨(fun ρ1 => (@wS (body ρ1) ⟨I (done ++ [x]), K.rt, K.nx, I (done ++ [x]), K.ex⟩))⟩))⟩)) (hd : ∀ ρ, I xs ρ → K.nx ρ) : (@wS (forD md g body (xs.map en) ρ) K) := by
  refine for_inv (fun l ρ => I (xs.take l.length) ρ) (by simpa using h0) (fun done d rest ρ e h => ?_) fun ρ h => hd ρ (by simpa using h)
  have hlen : done.length < xs.length := by
    have := congrArg List.length e
    simp at this; omega
  have hd' : en xs[done.length] = d := by
    have : (xs.map en)[done.length]? = (done ++ d :: rest)[done.length]? := by rw [e]
    rw [List.getElem?_map, List.getElem?_eq_getElem hlen, List.getElem?_append_right (Nat.le_refl _), Nat.sub_self] at this
    exact Option.some.inj this
  have := step (xs.take done.length) xs[done.length] (xs.drop (done.length + 1)) ρ (by rw [← List.drop_eq_getElem_cons hlen, List.take_append_drop]) h
  rw [hd'] at this
  have et : xs.take done.length ++ [xs[done.length]] = xs.take (done ++ [d]).length := by rw [List.length_append, List.length_singleton, List.take_succ, List.getElem?_eq_getElem hlen]; rfl
  rw [et] at this
  exact this
/-- over a range -/
theorem for_rng {lo : Int} {n : Nat} {md : Md} {g : Cel → Rho → Option Rho} {body : Rho → SR} (I : Nat → Rho → Prop) (h0 : I 0 ρ)
    (step : ∀ k ρ, k < n → I k ρ → (@oE _ (g (.own 0, .int (lo + (k : Nat))) ρ) ⟨(fun ρ1 => (@wS (body ρ1) ⟨I (k + 1), K.rt, K.nx, I (k + 1), K.ex⟩))⟩)) (hd : ∀ ρ, I n ρ → K.nx ρ) : (@wS (forD md g body ((List.range n).map fun k => .int (lo + (k : Nat))) ρ) K) := by
  refine for_map (fun l ρ => I l.length ρ) h0 (fun done x rest ρ e h => ?_) fun ρ h => hd ρ (by simpa using h)
  have hx : x = done.length ∧ done.length < n := by
    have : (List.range n)[done.length]? = (done ++ x :: rest)[done.length]? := by rw [e]
    rw [List.getElem?_append_right (Nat.le_refl _), Nat.sub_self] at this
    have hl : done.length < n := by
      have := congrArg List.length e
      simp at this; omega
    rw [List.getElem?_range hl] at this
    exact ⟨(Option.some.inj this).symm, hl⟩
  obtain ⟨rfl, hl⟩ := hx
  refine ⟨_, rfl, ?_⟩
  rw [List.length_append, List.length_singleton]
  exact step _ ρ hl h
end
end DL

/-! DL part 25: texts as lists of code points. -/
namespace DL
open PySem L2
/-- a claim out of simp's sight -/
class PP where
  p : Prop
def Hd [P : PP] : Prop := P.p
theorem Hd.i {p : Prop} (h : p) : @Hd ⟨p⟩ := h
theorem Hd.o {p : Prop} (h : @Hd ⟨p⟩) : p := h
def S (l : List Nat) : Str := ⟨l.toArray⟩
theorem S_of (x : Str) : x = S x.cps.toList := by
  unfold S; cases x; simp
theorem S_inj {a b : List Nat} : S a = S b ↔ a = b := by
  unfold S
  constructor
  · intro h
    have := congrArg (fun x => x.cps.toList) h
    simpa using this
  · rintro rfl; rfl
@[simp] theorem S_len {a : List Nat} : (S a).length = a.length := by unfold S Str.length; simp
@[simp] theorem S_cps {a : List Nat} : (S a).cps = a.toArray := rfl
theorem S_add {a b : List Nat} : S a ++ S b = S (a ++ b) := by
  show Str.append (S a) (S b) = _
  unfold Str.append S; simp
@[simp] theorem S_dec {a b : List Nat} : (decide (S a = S b)) = decide (a = b) := by simp [S_inj]
theorem sz : sizeLine = 16777216 := by decide
section
variable {m m2 : Md} {i : Int} {a b l : List Nat}
theorem gAdd_S (h : a.length + b.length ≤ 16777216) : gAdd (m, .str (S a)) (m2, .str (S b)) = some (.own 0, .str (S (a ++ b))) := by
  rw [gAdd_str (by rw [S_len, S_len, sz]; exact h), S_add]
theorem gLen_S (h : l.length ≤ 16777216) : gLen [(m, .str (S l))] = some (.own 0, .int l.length) := by
  rw [gLen_str (by rw [S_len, sz]; exact h), S_len]
theorem atI_pos {α : Type} {xs : List α} {i : Int} (h0 : 0 ≤ i) (h1 : i < xs.length) : atI xs i = some (xs[i.toNat]'(by omega)) := by
  unfold atI ixN
  rw [if_pos h0, if_pos h1]
  exact List.getElem?_eq_getElem (by omega)
theorem atI_neg {α : Type} {xs : List α} {i : Int} (h0 : i < 0) (h1 : -(xs.length : Int) ≤ i) : atI xs i = some (xs[(i + xs.length).toNat]'(by omega)) := by
  unfold atI ixN
  rw [if_neg (by omega), if_pos h1]
  exact List.getElem?_eq_getElem (by omega)
theorem gIx_S (hz : l.length ≤ 16777216) (h0 : 0 ≤ i) (h1 : i < l.length) : gIx (m, .str (S l)) (m2, .int i) = some (0, (.own 0, .str (S [l[i.toNat]'(by omega)]))) := by
  show (if (S l).length ≤ sizeLine then (atI l i).map fun c => (0, (Md.own 0, D.str ⟨#[c]⟩)) else none) = _
  rw [if_pos (by rw [S_len, sz]; exact hz), atI_pos h0 h1]; rfl
/-- from the end -/
theorem gIx_Sn (hz : l.length ≤ 16777216) (h0 : i < 0) (h1 : -(l.length : Int) ≤ i) : gIx (m, .str (S l)) (m2, .int i) = some (0, (.own 0, .str (S [l[(i + l.length).toNat]'(by omega)]))) := by
  show (if (S l).length ≤ sizeLine then (atI l i).map fun c => (0, (Md.own 0, D.str ⟨#[c]⟩)) else none) = _
  rw [if_pos (by rw [S_len, sz]; exact hz), atI_neg h0 h1]; rfl
theorem sub_S {k : Nat} : PySem.Builtin.Str.subAt (S a) (S b) k = decide ((a.drop k).take b.length = b) := by
  unfold PySem.Builtin.Str.subAt
  rw [S_len, S_cps, S_cps]
  have e : a.toArray.extract k (k + b.length) = ((a.drop k).take b.length).toArray := by
    rw [List.extract_toArray, List.extract_eq_take_drop]; simp
  rw [e]
  by_cases h : (a.drop k).take b.length = b
  · rw [h]; simp
  · rw [decide_eq_false h]
    simp only [beq_eq_false_iff_ne]
    intro q
    exact h (by simpa using q)
theorem starts_S : Txt.startswith (S a) (S b) = decide (a.take b.length = b) := by
  unfold Txt.startswith
  rw [sub_S, S_len, S_len, List.drop_zero]
  by_cases h : a.take b.length = b
  · have := congrArg List.length h
    rw [List.length_take] at this
    rw [decide_eq_true h]
    simp; omega
  · rw [decide_eq_false h, Bool.and_false]
theorem ends_S : Txt.endswith (S a) (S b) = decide (b.length ≤ a.length ∧ a.drop (a.length - b.length) = b) := by
  unfold Txt.endswith
  rw [sub_S, S_len, S_len]
  by_cases hl : b.length ≤ a.length
  · have : (a.drop (a.length - b.length)).take b.length = a.drop (a.length - b.length) := List.take_of_length_le (by rw [List.length_drop]; omega)
    rw [this]
    simp [hl]
  · simp [hl]
theorem gSl_S {lo hi : Option Int} (hz : l.length ≤ 16777216) : gSl (m, .str (S l)) lo hi = some (.own 0, .str (S (cutL l lo hi))) := by
  show (if (S l).length ≤ sizeLine then some (Md.own 0, D.str (cutS (S l) lo hi)) else none) = _
  rw [if_pos (by rw [S_len, sz]; exact hz)]
  unfold cutS cutL
  rw [S_len, S_cps]
  rfl
theorem truD_S (hz : l.length ≤ 16777216) : truD (.str (S l)) = some (!l.isEmpty) := by
  show (if (S l).length ≤ sizeLine then some (((S l).length : Int) != 0) else none) = _
  rw [if_pos (by rw [S_len, sz]; exact hz), S_len]
  cases l with
  | nil => rfl
  | cons c l => simp; omega
end
/-! slices -/
section
variable {α : Type} {xs : List α}
theorem sIx_to {n d : Nat} {v : Int} (h : 0 ≤ v) : HT.sIx n d (some v) = min v.toNat n := by
  show (if v < 0 then (v + (n : Int)).toNat else min v.toNat n) = _
  rw [if_neg (by omega)]
theorem cut_to {v : Int} (h : 0 ≤ v) : cutL xs none (some v) = xs.take v.toNat := by
  unfold cutL
  rw [HT.sIx_none, sIx_to h, List.drop_zero, Nat.sub_zero]
  by_cases q : v.toNat ≤ xs.length
  · rw [Nat.min_eq_left q]
  · rw [Nat.min_eq_right (by omega), List.take_length, List.take_of_length_le (by omega)]
theorem cut_from {v : Int} (h : 0 ≤ v) : cutL xs (some v) none = xs.drop v.toNat := by
  unfold cutL
  rw [HT.sIx_none, sIx_to h]
  by_cases q : v.toNat ≤ xs.length
  · rw [Nat.min_eq_left q, List.take_of_length_le (by rw [List.length_drop]; omega)]
  · rw [Nat.min_eq_right (by omega), Nat.sub_self, List.take_zero, List.drop_of_length_le (by omega)]
theorem cut_len {lo hi : Option Int} : (cutL xs lo hi).length ≤ xs.length := by
  unfold cutL
  rw [List.length_take, List.length_drop]
  omega
theorem cut_mem {lo hi : Option Int} {x : α} (h : x ∈ cutL xs lo hi) : x ∈ xs := List.mem_of_mem_drop (List.mem_of_mem_take h)
end
@[simp] theorem S_empty : Str.ofString "" = S [] := by decide +kernel
theorem rng1 {m : Md} {i : Int} (h : 0 ≤ i) (h2 : i ≤ 1000000) : rngOf [(m, .int i)] = some ((List.range i.toNat).map fun k => .int ((k : Nat) : Int)) := by
  show (if rngOk i = true then some (rngItems 0 i) else none) = _
  rw [if_pos (by unfold rngOk; rw [decide_eq_true (by omega), decide_eq_true (by omega)]; rfl)]
  unfold rngItems
  rw [Int.sub_zero]
  simp
theorem for_rng0 {n : Nat} {md : Md} {g : Cel → Rho → Option Rho} {body : Rho → SR} {ρ : Rho} {K : Post} (I : Nat → Rho → Prop) (h0 : I 0 ρ)
    (step : ∀ k ρ, k < n → I k ρ → (@oE _ (g (.own 0, .int (k : Nat)) ρ) ⟨(fun ρ1 => (@wS (body ρ1) ⟨I (k + 1), K.rt, K.nx, I (k + 1), K.ex⟩))⟩)) (hd : ∀ ρ, I n ρ → K.nx ρ) : (@wS (forD md g body ((List.range n).map fun k => .int ((k : Nat) : Int)) ρ) K) := by
  have := for_rng (lo := 0) (n := n) (md := md) (g := g) (body := body) (ρ := ρ) (K := K) I h0 (fun k ρ hk hi => by rw [Int.zero_add]; exact step k ρ hk hi) hd
  simpa using this
theorem pick_ints (L : List Int) {m m2 : Md} {g : Int} (h0 : 0 ≤ g) (h1 : g < L.length) {Q : Nat × Cel → Prop} (k : ∀ v ∈ L, Q (g.toNat, (m.sub, .int v))) : (@oE _ (gIx (m, .lst (L.map .int)) (m2, .int g)) ⟨Q⟩) := by
  have hl : g.toNat < L.length := by omega
  refine oE.mk (gIx_lst (k := g.toNat) (d := .int L[g.toNat]) ?_ (by omega)) (k _ (List.getElem_mem hl))
  rw [List.getElem?_map, List.getElem?_eq_getElem hl]; rfl
theorem pick_map {τ : Type} {en : τ → D} (L : List τ) {m m2 : Md} {g : Int} (h0 : 0 ≤ g) (h1 : g < L.length) {Q : Nat × Cel → Prop} (k : ∀ v ∈ L, Q (g.toNat, (m.sub, en v))) : (@oE _ (gIx (m, .lst (L.map en)) (m2, .int g)) ⟨Q⟩) := by
  have hl : g.toNat < L.length := by omega
  refine oE.mk (gIx_lst (k := g.toNat) (d := en L[g.toNat]) ?_ (by omega)) (k _ (List.getElem_mem hl))
  rw [List.getElem?_map, List.getElem?_eq_getElem hl]; rfl
/-! ### equal data -/
mutual
theorem deq_refl : ∀ (d : D) (n : Nat), dgood n d = true → PyData.eqv (toPy d) (toPy d) = true
  | .non, _, _ => rfl
  | .bl b, _, _ => by show (b == b) = true; simp
  | .int i, _, _ => by show (i == i) = true; simp
  | .str x, _, _ => by show (x == x) = true; simp
  | .tup ds, n, h => by
    have h : (decide (0 < n) && dgoodL (n - 1) ds) = true := h
    rw [Bool.and_eq_true] at h
    exact deqL_refl ds _ h.2
  | .lst ds, n, h => by
    have h : (decide (0 < n) && dgoodL (n - 1) ds) = true := h
    rw [Bool.and_eq_true] at h
    exact deqL_refl ds _ h.2
theorem deqL_refl : ∀ (ds : List D) (n : Nat), dgoodL n ds = true → PyData.eqvAll (toPyL ds) (toPyL ds) = true
  | [], _, _ => rfl
  | d :: ds, n, h => by
    have h : (dgood n d && dgoodL n ds) = true := h
    rw [Bool.and_eq_true] at h
    show (PyData.eqv (toPy d) (toPy d) && PyData.eqvAll (toPyL ds) (toPyL ds)) = true
    rw [deq_refl d n h.1, deqL_refl ds n h.2]; rfl
end
theorem dgoodL_all {n : Nat} : ∀ {ds : List D}, (∀ d ∈ ds, dgood n d = true) → dgoodL n ds = true
  | [], _ => rfl
  | d :: ds, h => by
    show (dgood n d && dgoodL n ds) = true
    rw [h d List.mem_cons_self, dgoodL_all fun d hd => h d (List.mem_cons_of_mem _ hd)]; rfl
theorem gEq_lst {ds es : List D} (h1 : dgoodL 63 ds = true) (h2 : dgoodL 63 es = true) : gEq (.lst ds) (.lst es) = some (deq (.lst ds) (.lst es)) := by
  show (if (dgood 64 (.lst ds) && dgood 64 (.lst es)) = true then some _ else none) = _
  have e1 : dgood 64 (.lst ds) = true := by show (decide (0 < 64) && dgoodL (64 - 1) ds) = true; rw [h1]; rfl
  have e2 : dgood 64 (.lst es) = true := by show (decide (0 < 64) && dgoodL (64 - 1) es) = true; rw [h2]; rfl
  rw [e1, e2]; rfl
theorem gEq_tup {ds es : List D} (h1 : dgoodL 63 ds = true) (h2 : dgoodL 63 es = true) : gEq (.tup ds) (.tup es) = some (deq (.tup ds) (.tup es)) := by
  show (if (dgood 64 (.tup ds) && dgood 64 (.tup es)) = true then some _ else none) = _
  have e1 : dgood 64 (.tup ds) = true := by show (decide (0 < 64) && dgoodL (64 - 1) ds) = true; rw [h1]; rfl
  have e2 : dgood 64 (.tup es) = true := by show (decide (0 < 64) && dgoodL (64 - 1) es) = true; rw [h2]; rfl
  rw [e1, e2]; rfl
theorem gNe_same {ds : List D} (h1 : dgoodL 63 ds = true) : gNe (.lst ds) (.lst ds) = some false := by
  show (gEq _ _).map (! ·) = _
  rw [gEq_lst h1 h1]
  have : deq (.lst ds) (.lst ds) = true := deqL_refl ds 63 h1
  rw [this]; rfl
theorem dgood_S {n : Nat} {l : List Nat} (h : ∀ c ∈ l, c < 1114112) : dgood n (.str (S l)) = true := by
  show PyData.strOk (S l) = true
  unfold PyData.strOk S
  simp
  exact h
/-! ### list comprehensions -/
@[simp] theorem wipeR_nil {ρ : Rho} : wipeR ρ [] = ρ := rfl
@[simp] theorem wipeR_cons {ρ : Rho} {i : Nat} {own : List Nat} : wipeR ρ (i :: own) = (wipeR ρ own).set i none := rfl
@[simp] theorem backR_nil {ρ0 ρ : Rho} : backR ρ0 ρ [] = ρ := rfl
@[simp] theorem backR_cons {ρ0 ρ : Rho} {i : Nat} {own : List Nat} : backR ρ0 ρ (i :: own) = (backR ρ0 ρ own).set i (match ρ0[i]? with | some (some c) => if imm c.2 = true then some (.own 0, c.2) else none | _ => none) := rfl
section
variable {md : Md} {g : Cel → Rho → Option Rho} {ts : Rho → Res Bool} {fe : Rho → Res Cel} {own : List Nat} {ρ0 ρ : Rho} {Q : Cel → Rho → Prop} {X : XP}
theorem lc_inv {ds : List D} (I : List D → Md → List D → Rho → Prop) (h0 : I [] .all [] ρ)
    (step : ∀ done d rest m acc ρ, ds = done ++ d :: rest → I done m acc ρ → (@oE _ (itCel md d) ⟨(fun c => (@oE _ (g c (wipeR ρ own)) ⟨(fun ρ1 => (@wE _ (ts ρ1) ⟨(fun b ρ2 => (@cE b ⟨fun _ => ((@wE _ (fe ρ2) ⟨(fun c ρ3 => (@oE _ (appMd m acc c) ⟨(fun m' => (@nE (acc.length < sizeLine) ⟨fun _ => (I (done ++ [d]) m' (acc ++ [c.2]) ρ3)⟩))⟩))⟩ ⟨(fun _ _ => False)⟩))⟩ ⟨fun _ => (I (done ++ [d]) m acc ρ2)⟩))⟩ ⟨(fun _ _ => False)⟩))⟩))⟩))
    (hd : ∀ m acc ρ, I ds m acc ρ → Q (m, .lst acc) (backR ρ0 ρ own)) : (@wE _ (lcD md g ts fe own ρ0 ds .all [] ρ) ⟨Q⟩ ⟨X⟩) := by
  have key : ∀ (rest done : List D) (m : Md) (acc : List D) (ρ : Rho), ds = done ++ rest → I done m acc ρ → P0.wE (lcD md g ts fe own ρ0 rest m acc ρ) Q X := by
    intro rest
    induction rest with
    | nil =>
      intro done m acc ρ e h
      rw [List.append_nil] at e
      subst e
      exact hd m acc ρ h
    | cons d rest ih =>
      intro done m acc ρ e h
      obtain ⟨c, e1, ρ1, e2, h3⟩ := step done d rest m acc ρ e h
      have e' : ds = (done ++ [d]) ++ rest := by rw [e]; simp
      unfold lcD
      rw [e1]
      simp only [Option.bind_some]
      rw [e2]
      simp only
      have h3 : P0.wE (ts ρ1) (fun b ρ2 => P0.cE b (P0.wE (fe ρ2) (fun c ρ3 => P0.oE (appMd m acc c) (fun m' => P0.nE (acc.length < sizeLine) (I (done ++ [d]) m' (acc ++ [c.2]) ρ3))) (fun _ _ => False)) (I (done ++ [d]) m acc ρ2)) (fun _ _ => False) := h3
      cases e3 : ts ρ1 with
      | stuck => rw [e3] at h3; exact h3.elim
      | exc x e => rw [e3] at h3; exact h3.elim
      | ok b ρ2 =>
        rw [e3] at h3
        cases b with
        | false => exact ih _ m acc ρ2 e' h3
        | true =>
          have h3 : P0.wE (fe ρ2) (fun c ρ3 => P0.oE (appMd m acc c) (fun m' => P0.nE (acc.length < sizeLine) (I (done ++ [d]) m' (acc ++ [c.2]) ρ3))) (fun _ _ => False) := h3
          simp only
          cases e4 : fe ρ2 with
          | stuck => rw [e4] at h3; exact h3.elim
          | exc x e => rw [e4] at h3; exact h3.elim
          | ok c' ρ3 =>
            rw [e4] at h3
            obtain ⟨m', e5, e6, h7⟩ := h3
            simp only
            rw [e5]
            simp only
            rw [if_pos e6]
            exact ih _ m' _ ρ3 e' h7
  exact key ds [] .all [] ρ rfl h0
theorem lc_map {τ : Type} {en : τ → D} {xs : List τ} (I : List τ → Md → List D → Rho → Prop) (h0 : I [] .all [] ρ)
    (step : ∀ done x rest m acc ρ, xs = done ++ x :: rest → I done m acc ρ → (@oE _ (itCel md (en x)) ⟨(fun c => (@oE _ (g c (wipeR ρ own)) ⟨(fun ρ1 => (@wE _ (ts ρ1) ⟨(fun b ρ2 => (@cE b ⟨fun _ => ((@wE _ (fe ρ2) ⟨(fun c ρ3 => (@oE _ (appMd m acc c) ⟨(fun m' => (@nE (acc.length < sizeLine) ⟨fun _ => (I (done ++ [x]) m' (acc ++ [c.2]) ρ3)⟩))⟩))⟩ ⟨(fun _ _ => False)⟩))⟩ ⟨fun _ => (I (done ++ [x]) m acc ρ2)⟩))⟩ ⟨(fun _ _ => False)⟩))⟩))⟩))
    (hd : ∀ m acc ρ, I xs m acc ρ → Q (m, .lst acc) (backR ρ0 ρ own)) : (@wE _ (lcD md g ts fe own ρ0 (xs.map en) .all [] ρ) ⟨Q⟩ ⟨X⟩) := by
  refine lc_inv (fun l m acc ρ => I (xs.take l.length) m acc ρ) (by simpa using h0) (fun done d rest m acc ρ e h => ?_) fun m acc ρ h => hd m acc ρ (by simpa using h)
  have hlen : done.length < xs.length := by
    have := congrArg List.length e
    simp at this; omega
  have hd' : en xs[done.length] = d := by
    have : (xs.map en)[done.length]? = (done ++ d :: rest)[done.length]? := by rw [e]
    rw [List.getElem?_map, List.getElem?_eq_getElem hlen, List.getElem?_append_right (Nat.le_refl _), Nat.sub_self] at this
    exact Option.some.inj this
  have := step (xs.take done.length) xs[done.length] (xs.drop (done.length + 1)) m acc ρ (by rw [← List.drop_eq_getElem_cons hlen, List.take_append_drop]) h
  rw [hd'] at this
  have et : xs.take done.length ++ [xs[done.length]] = xs.take (done ++ [d]).length := by rw [List.length_append, List.length_singleton, List.take_succ, List.getElem?_eq_getElem hlen]; rfl
  rw [et] at this
  exact this
theorem lc_rng0 {n : Nat} (I : Nat → Md → List D → Rho → Prop) (h0 : I 0 .all [] ρ)
    (step : ∀ k m acc ρ, k < n → I k m acc ρ → (@oE _ (g (.own 0, .int (k : Nat)) (wipeR ρ own)) ⟨(fun ρ1 => (@wE _ (ts ρ1) ⟨(fun b ρ2 => (@cE b ⟨fun _ => ((@wE _ (fe ρ2) ⟨(fun c ρ3 => (@oE _ (appMd m acc c) ⟨(fun m' => (@nE (acc.length < sizeLine) ⟨fun _ => (I (k + 1) m' (acc ++ [c.2]) ρ3)⟩))⟩))⟩ ⟨(fun _ _ => False)⟩))⟩ ⟨fun _ => (I (k + 1) m acc ρ2)⟩))⟩ ⟨(fun _ _ => False)⟩))⟩))
    (hd : ∀ m acc ρ, I n m acc ρ → Q (m, .lst acc) (backR ρ0 ρ own)) : (@wE _ (lcD md g ts fe own ρ0 ((List.range n).map fun k => .int ((k : Nat) : Int)) .all [] ρ) ⟨Q⟩ ⟨X⟩) := by
  refine lc_map (fun l m acc ρ => I l.length m acc ρ) h0 (fun done x rest m acc ρ e h => ?_) fun m acc ρ h => hd m acc ρ (by simpa using h)
  have hx : x = done.length ∧ done.length < n := by
    have : (List.range n)[done.length]? = (done ++ x :: rest)[done.length]? := by rw [e]
    rw [List.getElem?_append_right (Nat.le_refl _), Nat.sub_self] at this
    have hl : done.length < n := by
      have := congrArg List.length e
      simp at this; omega
    rw [List.getElem?_range hl] at this
    exact ⟨(Option.some.inj this).symm, hl⟩
  obtain ⟨rfl, hl⟩ := hx
  refine ⟨_, rfl, ?_⟩
  rw [List.length_append, List.length_singleton]
  exact step _ m acc ρ hl h
end
end DL

/-! DL part 26: enumerate, zip, reversed. -/
namespace DL
open PySem L2
/-- the items of a sequence, held so that they may be handed on -/
def flSeq (c : Cel) : Option (Md × List D) := (seqOf c).bind fun q => if immL q.2 = true then some (.own 0, q.2) else match q.1 with
  | .own 0 => some q
  | .lent => some q
  | _ => none
theorem flSeq_flat {c : Cel} {q : Md × List D} (e : flSeq c = some q) : q.1.flat := by
  unfold flSeq at e
  cases e1 : seqOf c with
  | none => rw [e1] at e; cases e
  | some p =>
    rw [e1] at e
    simp only [Option.bind_some] at e
    split at e
    · cases e; trivial
    · split at e
      · rename_i h; cases e; rw [h]; trivial
      · rename_i h; cases e; rw [h]; trivial
      · cases e
theorem flSeq_rl {K : PySem.W.Frag} {w : Om} {H : Hp} {c : Cel} {q p : Md × List D} {t : Tag} {i : Nat} {vs : List V} (e1 : seqOf c = some p) (e : flSeq c = some q) (h : RpL K w H p.1 t i p.2 vs) : RpL K w H q.1 [0] 0 q.2 vs ∧ q.2 = p.2 := by
  unfold flSeq at e
  rw [e1] at e
  simp only [Option.bind_some] at e
  split at e
  · rename_i hi
    cases e
    exact ⟨RpL.imm ⟨fun _ _ x => x, fun _ _ _ x => x⟩ _ hi h, rfl⟩
  · split at e
    · rename_i hm; cases e; rw [hm] at h; exact ⟨by rw [hm]; exact RpL.retagF (show Md.flat (.own 0) from trivial) (ds := q.2) (vs := vs) h, rfl⟩
    · rename_i hm; cases e; rw [hm] at h; exact ⟨by rw [hm]; exact RpL.retagF (show Md.flat .lent from trivial) (ds := q.2) (vs := vs) h, rfl⟩
    · cases e
/-- what a list or a tuple at a holds -/
inductive SeqAt' (K : PySem.W.Frag) (H : Hp) (a : Addr) (xs : List V) : Bool → Prop where
  | l : SqL K H a xs → SeqAt' K H a xs true
  | t : SqT K H a xs → SeqAt' K H a xs false
def isL : D → Option Bool
  | .lst _ => some true
  | .frz _ => some true
  | .tup _ => some false
  | _ => none
theorem frz_rl {K : PySem.W.Frag} {w : Om} {H : Hp} {m : Md} {t : Tag} {i : Nat} : ∀ {ns : List Int}, RpL K w H m t i (ns.map .int) (ns.map V.int)
  | [] => rfl
  | n :: ns => ⟨_, _, rfl, rfl, frz_rl⟩
theorem seq_at {K : PySem.W.Frag} {w : Om} {H : Hp} {c : Cel} {t : Tag} {v : V} {b : Bool} (hb : isL c.2 = some b) (h : Rp K w H c.1 t c.2 v) : ∃ a xs p, v = .ref a ∧ SeqAt' K H a xs b ∧ seqOf c = some p ∧ ∃ t', RpL K w H p.1 t' 0 p.2 xs := by
  obtain ⟨m, d⟩ := c
  cases d <;> first | (cases hb; done) | skip
  · cases hb
    obtain ⟨a, vs, e, ob, r⟩ := h
    exact ⟨a, vs, _, e, .t ob.sq, rfl, t, r⟩
  · cases hb
    obtain ⟨a, vs, e, nd, ob, r⟩ := h
    exact ⟨a, vs, _, e, .l (SqL.of ob), rfl, t, r⟩
  · cases hb
    obtain ⟨a, e, ob⟩ := h
    exact ⟨a, _, _, e, .l ob.sq, rfl, t, frz_rl⟩
section
variable {K : PySem.W.Frag} {w : Om} {H : Hp} {r : Nat}
/-- a new tuple of shared or lent items -/
theorem new_pair {md : Md} {d1 d2 : D} {x y : V} {T : Addr} (dm : Dom w H r) (hT : H T = none) (h1 : Rp K w H md [0] d1 x) (h2 : Rp K w H md [0] d2 y) (hf : md.flat) :
    ∃ w', Dom w' (upd H T (.tup [x, y])) r ∧ Stp (fun _ => True) w H w' (upd H T (.tup [x, y])) ∧ Rp K w' (upd H T (.tup [x, y])) md [0] (.tup [d1, d2]) (.ref T) := by
  refine ⟨setO w T none, dm.new hT (fun t' e => (by cases e)), Stp.new hT (fun k p e => (by cases e)), T, [x, y], rfl, .inl upd_same, ?_⟩
  have m1 : Rp K (setO w T none) (upd H T (.tup [x, y])) md [0] d1 x := Rp.map (Mp.alloc hT) d1 ⟨rfl, rfl⟩ h1
  have m2 : Rp K (setO w T none) (upd H T (.tup [x, y])) md [0] d2 y := Rp.map (Mp.alloc hT) d2 ⟨rfl, rfl⟩ h2
  exact ⟨x, [y], rfl, m1.retagF hf, y, [], rfl, m2.retagF hf, rfl⟩
end
def enumItems (ds : List D) : List D := ds.zipIdx.map fun p => .tup [.int (p.2 : Nat), p.1]
def diEnum (f : Rho → Res (List Cel)) : Rho → Res (Md × List D) := fun ρ => (f ρ).bind fun cs ρ1 => match cs with
  | [c] => (match isL c.2, flSeq c with
    | some true, some q => .ok (q.1, enumItems q.2) ρ1
    | _, _ => .stuck)
  | _ => .stuck
theorem enum_get {ds : List D} {i : Nat} (h : i < ds.length) : (enumItems ds)[i]? = some (.tup [.int (i : Nat), ds[i]]) := by
  unfold enumItems
  rw [List.getElem?_map, List.getElem?_zipIdx, List.getElem?_eq_getElem h]
  simp
section
variable {X : Cx} {W : WX}
theorem di_enum {elts : List Expr} {kk : Nat} {tpos : Pos} {e : Expr} {f : Rho → Res (List Cel)} {T : List Nat} {S : Src} {p pos2 : Pos} (hgl : Gl X "enumerate") (hm : X.mg "enumerate" = none)
    (A : DA X W T [S] [e] f) (hS : S.lt X.N.length := by first | exact trivial | exact ltS rfl) (hs : starEach [e] X.env = [(false, eval e X.env)] := by rfl) : DI X W T [S] (.Tuple elts kk tpos) (.Call (.Name "enumerate" p) [e] [] pos2) (diEnum f) := by
  obtain ⟨ta, pa, A⟩ := A.ex
  refine ⟨fun S' h => by rw [List.mem_singleton.mp h]; exact hS, _, pi_enum hgl hm pa hs, fun r w H σ ρ R hr s gg => A r w H σ ρ _ hr s ?_⟩
  unfold diEnum at gg
  cases e1 : f ρ with
  | stuck => rw [e1] at gg; exact gg
  | exc x e' => rw [e1] at gg; exact gg
  | ok cs ρ1 =>
    rw [e1] at gg
    intro w1 H1 vs s1 a1 st1
    match cs, vs, a1 with
    | [c], [v], ⟨⟨t, o, h⟩, _⟩ =>
      have gg : GoodI X W T [S] r w H σ R (match isL c.2, flSeq c with
        | some true, some q => .ok (q.1, enumItems q.2) ρ1
        | _, _ => .stuck) := gg
      split at gg
      · rename_i q hL hq
        obtain ⟨a, xs, p', ev, sq, hp, t', rl⟩ := seq_at hL h
        cases sq with
        | l hq1 =>
          subst ev
          obtain ⟨pt, et⟩ := Src.tagOf o
          subst et
          have len : ∀ {w H} {xs' : List V}, Rp X.K w H c.1 (S.root r :: pt) c.2 (.ref a) → ∃ xs, SqL X.K H a xs ∧ RpL X.K w H q.1 [0] 0 q.2 xs := fun {w H xs'} h => by
            obtain ⟨a', xs, p'', ev, sq, hp, t', rl⟩ := seq_at hL h
            cases ev
            cases sq with
            | l hq2 => exact ⟨xs, hq2, (flSeq_rl hp hq rl).1⟩
          refine ⟨a, xs, rfl, hq1, gg w1 H1 (Ite X.K a) (fun w H => Rp X.K w H c.1 (S.root r :: pt) c.2 (.ref a)) s1 st1 h (rp_keeps (c := c) ⟨0, S, rfl, rfl⟩) ⟨fun i w H hi z => ?_, fun w H z => ?_, fun i w H x H' r' hi dm z y => ?_⟩⟩
          · obtain ⟨xs, h1, h2⟩ := len (xs' := []) z
            have hi : i < q.2.length := by unfold enumItems at hi; simpa using hi
            have hx : i < xs.length := by rw [h2.length]; exact hi
            exact ⟨xs, xs[i], h1, List.getElem?_eq_getElem hx⟩
          · obtain ⟨xs, h1, h2⟩ := len (xs' := []) z
            refine ⟨xs, h1, ?_⟩
            rw [h2.length]
            show q.2.length ≤ (enumItems q.2).length
            unfold enumItems; simp
          · obtain ⟨xs, h1, h2⟩ := len (xs' := []) z
            have hi : i < q.2.length := by unfold enumItems at hi; simpa using hi
            obtain ⟨T', x', ex, hT, eH, hget⟩ := y
            subst ex; subst eH
            obtain ⟨u, h3, h4⟩ := h2.get (List.getElem?_eq_getElem hi)
            have := hget xs h1
            rw [h3] at this
            cases this
            obtain ⟨w', d', st', rp⟩ := new_pair (d1 := .int (i : Nat)) (x := .int (i : Nat)) dm hT rfl (h4.retagF (flSeq_flat hq)) (flSeq_flat hq)
            exact ⟨w', d', st', _, _, enum_get hi, rp⟩
      · exact gg.elim
    | [], _, z => exact gg.elim
    | _ :: _, [], z => exact z.elim
    | [_], _ :: _ :: _, z => exact z.2.elim
    | _ :: _ :: _, _ :: _, z => exact z.2.elim
/-- both sequences' items, pair by pair -/
def zipMd (q1 q2 : Md × List D) : Option Md := if immL q1.2 = true then some q2.1 else if immL q2.2 = true then some q1.1 else if q1.1 = q2.1 then some q1.1 else none
def zipItems (ds es : List D) : List D := (ds.zip es).map fun p => .tup [p.1, p.2]
def diZip (f : Rho → Res (List Cel)) : Rho → Res (Md × List D) := fun ρ => (f ρ).bind fun cs ρ1 => match cs with
  | [c1, c2] => (match isL c1.2, isL c2.2, flSeq c1, flSeq c2 with
    | some b1, some b2, some q1, some q2 => if b1 = b2 then (match zipMd q1 q2 with
      | some md => .ok (md, zipItems q1.2 q2.2) ρ1
      | none => .stuck) else .stuck
    | _, _, _, _ => .stuck)
  | _ => .stuck
theorem zip_get {ds es : List D} {i : Nat} (h1 : i < ds.length) (h2 : i < es.length) : (zipItems ds es)[i]? = some (.tup [ds[i], es[i]]) := by
  unfold zipItems
  rw [List.getElem?_map, List.getElem?_eq_getElem (by rw [List.length_zip]; omega)]
  simp
theorem zip_len {ds es : List D} : (zipItems ds es).length = min ds.length es.length := by unfold zipItems; simp
theorem zipMd_ok {q1 q2 : Md × List D} {md : Md} (e : zipMd q1 q2 = some md) (f1 : q1.1.flat) (f2 : q2.1.flat) : md.flat ∧ (∀ d ∈ q1.2, imm d = true ∨ q1.1 = md) ∧ ∀ d ∈ q2.2, imm d = true ∨ q2.1 = md := by
  have im : ∀ {ds : List D}, immL ds = true → ∀ d ∈ ds, imm d = true := fun h d hd => by
    obtain ⟨j, hj⟩ := List.mem_iff_getElem?.mp hd
    exact immL_get h hj
  unfold zipMd at e
  split at e
  · rename_i h
    cases e
    exact ⟨f2, fun d hd => .inl (im h d hd), fun d hd => .inr rfl⟩
  · split at e
    · rename_i h
      cases e
      exact ⟨f1, fun d hd => .inr rfl, fun d hd => .inl (im h d hd)⟩
    · split at e
      · rename_i h
        cases e
        exact ⟨f1, fun d hd => .inr rfl, fun d hd => .inr h.symm⟩
      · cases e
theorem Rp.toMd {K : PySem.W.Frag} {w : Om} {H : Hp} {m md : Md} {t : Tag} {d : D} {v : V} (h : Rp K w H m t d v) (f : m.flat) (hm : DL.imm d = true ∨ m = md) : Rp K w H md [0] d v := by
  rcases hm with hm | hm
  · exact Rp.imm ⟨fun _ _ x => x, fun _ _ _ x => x⟩ _ hm h
  · subst hm; exact h.retagF f
theorem keeps_and {Z1 Z2 : Om → Hp → Prop} {ro : Nat → Prop} (h1 : Keeps Z1 ro) (h2 : Keeps Z2 ro) : Keeps (fun w H => Z1 w H ∧ Z2 w H) ro := fun kp r' w1 H1 w2 H2 d st k0 hk z => ⟨h1 kp r' w1 H1 w2 H2 d st k0 hk z.1, h2 kp r' w1 H1 w2 H2 d st k0 hk z.2⟩
theorem di_zip {elts : List Expr} {kk : Nat} {tpos : Pos} {e e2 : Expr} {f : Rho → Res (List Cel)} {T : List Nat} {S1 S2 : Src} {p pos2 : Pos} (hgl : Gl X "zip") (hm : X.mg "zip" = none)
    (A : DA X W T [S1, S2] [e, e2] f) (hS1 : S1.lt X.N.length := by first | exact trivial | exact ltS rfl) (hS2 : S2.lt X.N.length := by first | exact trivial | exact ltS rfl) (hs : starEach [e, e2] X.env = (false, eval e X.env) :: starEach [e2] X.env := by rfl) (hpl : (backTo pos2 (starEach [e2] X.env)).any (·.1) = false := by rfl) :
    DI X W T [S1, S2] (.Tuple elts kk tpos) (.Call (.Name "zip" p) [e, e2] [] pos2) (diZip f) := by
  obtain ⟨ta, pa, A⟩ := A.ex
  refine ⟨fun S' h => by
    rcases List.mem_cons.mp h with h | h
    · rw [h]; exact hS1
    · rw [List.mem_singleton.mp h]; exact hS2, _, RZ.pi_zipA hgl hm pa hs hpl, fun r w H σ ρ R hr s gg => A r w H σ ρ _ hr s ?_⟩
  unfold diZip at gg
  cases e1 : f ρ with
  | stuck => rw [e1] at gg; exact gg
  | exc x e' => rw [e1] at gg; exact gg
  | ok cs ρ1 =>
    rw [e1] at gg
    intro w1 H1 vs s1 a1 st1
    match cs, vs, a1 with
    | [c1, c2], [v1, v2], ⟨⟨t1, o1, h1⟩, ⟨t2, o2, h2⟩, _⟩ =>
      have gg : GoodI X W T [S1, S2] r w H σ R (match isL c1.2, isL c2.2, flSeq c1, flSeq c2 with
        | some b1, some b2, some q1, some q2 => if b1 = b2 then (match zipMd q1 q2 with
          | some md => .ok (md, zipItems q1.2 q2.2) ρ1
          | none => .stuck) else .stuck
        | _, _, _, _ => .stuck) := gg
      split at gg
      · rename_i b1 b2 q1 q2 hL1 hL2 hq1 hq2
        split at gg
        · rename_i hb
          subst hb
          split at gg
          · rename_i md hmd
            obtain ⟨hf, m1, m2⟩ := zipMd_ok hmd (flSeq_flat hq1) (flSeq_flat hq2)
            obtain ⟨a, xs, p1, ev1, sq1, hp1, _, rl1⟩ := seq_at hL1 h1
            obtain ⟨b, ys, p2, ev2, sq2, hp2, _, rl2⟩ := seq_at hL2 h2
            subst ev1; subst ev2
            obtain ⟨pt1, et1⟩ := Src.tagOf o1
            obtain ⟨pt2, et2⟩ := Src.tagOf o2
            subst et1; subst et2
            have at1 : ∀ {w H}, Rp X.K w H c1.1 (S1.root r :: pt1) c1.2 (.ref a) → ∃ xs, SeqAt' X.K H a xs b1 ∧ RpL X.K w H q1.1 [0] 0 q1.2 xs := fun {w H} h => by
              obtain ⟨a', xs, p'', ev, sq, hp, t', rl⟩ := seq_at hL1 h
              cases ev
              exact ⟨xs, sq, (flSeq_rl hp hq1 rl).1⟩
            have at2 : ∀ {w H}, Rp X.K w H c2.1 (S2.root (r + 1) :: pt2) c2.2 (.ref b) → ∃ xs, SeqAt' X.K H b xs b1 ∧ RpL X.K w H q2.1 [0] 0 q2.2 xs := fun {w H} h => by
              obtain ⟨a', xs, p'', ev, sq, hp, t', rl⟩ := seq_at hL2 h
              cases ev
              exact ⟨xs, sq, (flSeq_rl hp hq2 rl).1⟩
            have ky : Keeps (fun w H => Rp X.K w H c1.1 (S1.root r :: pt1) c1.2 (.ref a) ∧ Rp X.K w H c2.1 (S2.root (r + 1) :: pt2) c2.2 (.ref b)) (rootsOf r [S1, S2]) :=
              keeps_and (rp_keeps (c := c1) ⟨0, S1, rfl, rfl⟩) (rp_keeps (c := c2) ⟨1, S2, rfl, rfl⟩)
            have ends : ∀ {i : Nat}, i < (zipItems q1.2 q2.2).length → i < q1.2.length ∧ i < q2.2.length := fun h => by rw [zip_len] at h; omega
            have yl : ∀ {i w H r'} {T' : Addr} {x y : V} {xs ys : List V} (h1 : i < q1.2.length) (h2 : i < q2.2.length), Dom w H r' → H T' = none → RpL X.K w H q1.1 [0] 0 q1.2 xs → RpL X.K w H q2.1 [0] 0 q2.2 ys → xs[i]? = some x → ys[i]? = some y →
                ∃ w', Dom w' (upd H T' (.tup [x, y])) r' ∧ Stp (fun _ => True) w H w' (upd H T' (.tup [x, y])) ∧ ∃ d t', (zipItems q1.2 q2.2)[i]? = some d ∧ Rp X.K w' (upd H T' (.tup [x, y])) md t' d (.ref T') := fun {i w H r' T' x y xs ys} h1 h2 dm hT rx ry ex ey => by
              obtain ⟨u, g1, g2⟩ := rx.get (List.getElem?_eq_getElem h1)
              obtain ⟨u', g3, g4⟩ := ry.get (List.getElem?_eq_getElem h2)
              rw [ex] at g1; cases g1
              rw [ey] at g3; cases g3
              obtain ⟨w', d', st', rp⟩ := new_pair dm hT (g2.toMd (flSeq_flat hq1) (m1 _ (List.getElem_mem h1))) (g4.toMd (flSeq_flat hq2) (m2 _ (List.getElem_mem h2))) hf
              exact ⟨w', d', st', _, _, zip_get h1 h2, rp⟩
            cases b1 with
            | true =>
              cases sq1 with
              | l k1 =>
                cases sq2 with
                | l k2 =>
                  refine ⟨a, b, xs, ys, rfl, .inl ⟨k1, k2, gg w1 H1 (Itz X.K a b) _ s1 st1 ⟨h1, h2⟩ ky ⟨fun i w H hi z => ?_, fun w H z => ?_, fun i w H x H' r' hi dm z y => ?_⟩⟩⟩
                  · obtain ⟨xs, s1, r1⟩ := at1 z.1
                    obtain ⟨ys, s2, r2⟩ := at2 z.2
                    cases s1; cases s2
                    rename_i s1 s2
                    obtain ⟨l1, l2⟩ := ends hi
                    have l1 : i < xs.length := by rw [r1.length]; exact l1
                    have l2 : i < ys.length := by rw [r2.length]; exact l2
                    exact ⟨xs, ys, xs[i], ys[i], s1, s2, List.getElem?_eq_getElem l1, List.getElem?_eq_getElem l2⟩
                  · obtain ⟨xs, s1, r1⟩ := at1 z.1
                    obtain ⟨ys, s2, r2⟩ := at2 z.2
                    cases s1; cases s2
                    rename_i s1 s2
                    refine ⟨xs, ys, s1, s2, ?_⟩
                    rw [r1.length, r2.length]
                    show q1.2.length ≤ (zipItems q1.2 q2.2).length ∨ q2.2.length ≤ (zipItems q1.2 q2.2).length
                    rw [zip_len]; omega
                  · obtain ⟨xs, s1, r1⟩ := at1 z.1
                    obtain ⟨ys, s2, r2⟩ := at2 z.2
                    cases s1; cases s2
                    rename_i s1 s2
                    obtain ⟨T', u, v, ex, hT, eH, g1, g2⟩ := y
                    subst ex; subst eH
                    obtain ⟨l1, l2⟩ := ends hi
                    exact yl l1 l2 dm hT r1 r2 (g1 xs s1) (g2 ys s2)
            | false =>
              cases sq1 with
              | t k1 =>
                cases sq2 with
                | t k2 =>
                  refine ⟨a, b, xs, ys, rfl, .inr ⟨k1, k2, gg w1 H1 (RZ.ItzT X.K a b) _ s1 st1 ⟨h1, h2⟩ ky ⟨fun i w H hi z => ?_, fun w H z => ?_, fun i w H x H' r' hi dm z y => ?_⟩⟩⟩
                  · obtain ⟨xs, s1, r1⟩ := at1 z.1
                    obtain ⟨ys, s2, r2⟩ := at2 z.2
                    cases s1; cases s2
                    rename_i s1 s2
                    obtain ⟨l1, l2⟩ := ends hi
                    have l1 : i < xs.length := by rw [r1.length]; exact l1
                    have l2 : i < ys.length := by rw [r2.length]; exact l2
                    exact ⟨xs, ys, xs[i], ys[i], s1, s2, List.getElem?_eq_getElem l1, List.getElem?_eq_getElem l2⟩
                  · obtain ⟨xs, s1, r1⟩ := at1 z.1
                    obtain ⟨ys, s2, r2⟩ := at2 z.2
                    cases s1; cases s2
                    rename_i s1 s2
                    refine ⟨xs, ys, s1, s2, ?_⟩
                    rw [r1.length, r2.length]
                    show q1.2.length ≤ (zipItems q1.2 q2.2).length ∨ q2.2.length ≤ (zipItems q1.2 q2.2).length
                    rw [zip_len]; omega
                  · obtain ⟨xs, s1, r1⟩ := at1 z.1
                    obtain ⟨ys, s2, r2⟩ := at2 z.2
                    cases s1; cases s2
                    rename_i s1 s2
                    obtain ⟨T', u, v, ex, hT, eH, g1, g2⟩ := y
                    subst ex; subst eH
                    obtain ⟨l1, l2⟩ := ends hi
                    exact yl l1 l2 dm hT r1 r2 (g1 xs s1) (g2 ys s2)
          · exact gg.elim
        · exact gg.elim
      · exact gg.elim
    | [], _, z => exact gg.elim
    | [_], _, z => exact gg.elim
    | _ :: _ :: _ :: _, _, z => exact gg.elim
    | [_, _], [], z => exact z.elim
    | [_, _], [_], z => exact z.2.elim
    | [_, _], _ :: _ :: _ :: _, z => exact z.2.2.elim
/-- from the last to the first -/
def diRev (f : Rho → Res Cel) : Rho → Res (Md × List D) := fun ρ => (f ρ).bind fun c ρ1 => match isL c.2, seqOf c with
  | some _, some q => .ok (q.1, q.2.reverse) ρ1
  | _, _ => .stuck
theorem di_rev {tg e : Expr} {f : Rho → Res Cel} {T : List Nat} {S : Src} {p pos2 : Pos} (hgl : Gl X "reversed") (hm : X.mg "reversed" = none) (A : DE X W T S e f) (hS : S.lt X.N.length := by first | exact trivial | exact ltS rfl)
    (hs : starEach [e] X.env = (false, eval e X.env) :: starEach [] X.env := by rfl) : DI X W T [S] tg (.Call (.Name "reversed" p) [e] [] pos2) (diRev f) := by
  obtain ⟨ta, pa, A⟩ := A.ex
  refine ⟨fun S' h => by rw [List.mem_singleton.mp h]; exact hS, _, RT.pi_revA hgl hm pa hs, fun r w H σ ρ R hr s gg => A r w H σ ρ _ hr s ?_⟩
  unfold diRev at gg
  cases e1 : f ρ with
  | stuck => rw [e1] at gg; exact gg
  | exc x e' => rw [e1] at gg; exact gg
  | ok c ρ1 =>
    rw [e1] at gg
    intro w1 H1 v t s1 o h st1
    have gg : GoodI X W T [S] r w H σ R (match isL c.2, seqOf c with
      | some _, some q => .ok (q.1, q.2.reverse) ρ1
      | _, _ => .stuck) := gg
    split at gg
    · rename_i b q hL hq
      obtain ⟨a, xs, p', ev, sq, hp, t', rl⟩ := seq_at hL h
      rw [hq] at hp; cases hp
      subst ev
      obtain ⟨pt, et⟩ := Src.tagOf o
      subst et
      have at1 : ∀ {w H}, Rp X.K w H c.1 (S.root r :: pt) c.2 (.ref a) → ∃ xs t', SeqAt' X.K H a xs b ∧ RpL X.K w H q.1 t' 0 q.2 xs := fun {w H} h => by
        obtain ⟨a', xs, p'', ev, sq, hp, t', rl⟩ := seq_at hL h
        rw [hq] at hp; cases hp
        cases ev
        exact ⟨xs, t', sq, rl⟩
      have hl : xs.length = q.2.length := rl.length
      have ky : Keeps (fun w H => Rp X.K w H c.1 (S.root r :: pt) c.2 (.ref a)) (rootsOf r [S]) := rp_keeps (c := c) ⟨0, S, rfl, rfl⟩
      have yl : ∀ {i w H} {x : V} {xs : List V} {t' : Tag}, i < q.2.reverse.length → RpL X.K w H q.1 t' 0 q.2 xs → xs[q.2.length - 1 - i]? = some x → ∃ d t', q.2.reverse[i]? = some d ∧ Rp X.K w H q.1 t' d x := fun {i w H x xs t'} hi rl ex => by
        rw [List.length_reverse] at hi
        obtain ⟨u, g1, g2⟩ := rl.get (List.getElem?_eq_getElem (show q.2.length - 1 - i < q.2.length by omega))
        rw [ex] at g1; cases g1
        exact ⟨_, _, by rw [List.getElem?_reverse hi, List.getElem?_eq_getElem], g2⟩
      cases b with
      | true =>
        cases sq with
        | l k1 =>
          refine ⟨a, xs, rfl, .inl ⟨k1, gg w1 H1 (Itv X.K a xs.length) _ s1 st1 h ky ⟨fun i w H hi z => ?_, fun w H z => ?_, fun i w H x H' r' hi dm z y => ?_⟩⟩⟩
          · obtain ⟨ys, t', s2, r2⟩ := at1 z
            cases s2
            rename_i s2
            rw [List.length_reverse] at hi
            have : xs.length - 1 - i < ys.length := by rw [r2.length]; omega
            exact ⟨by omega, ys, ys[xs.length - 1 - i], s2, List.getElem?_eq_getElem this⟩
          · show xs.length ≤ q.2.reverse.length
            rw [List.length_reverse]; omega
          · obtain ⟨ys, t', s2, r2⟩ := at1 z
            cases s2
            rename_i s2
            obtain ⟨eH, y⟩ := y
            subst eH
            exact ⟨w, dm, Stp.refl, yl hi r2 (by rw [← hl]; exact y ys s2)⟩
      | false =>
        cases sq with
        | t k1 =>
          refine ⟨a, xs, rfl, .inr ⟨k1, gg w1 H1 (RT.ItvT X.K a xs.length) _ s1 st1 h ky ⟨fun i w H hi z => ?_, fun w H z => ?_, fun i w H x H' r' hi dm z y => ?_⟩⟩⟩
          · obtain ⟨ys, t', s2, r2⟩ := at1 z
            cases s2
            rename_i s2
            rw [List.length_reverse] at hi
            have : xs.length - 1 - i < ys.length := by rw [r2.length]; omega
            exact ⟨by omega, ys, ys[xs.length - 1 - i], s2, List.getElem?_eq_getElem this⟩
          · show xs.length ≤ q.2.reverse.length
            rw [List.length_reverse]; omega
          · obtain ⟨ys, t', s2, r2⟩ := at1 z
            cases s2
            rename_i s2
            obtain ⟨eH, y⟩ := y
            subst eH
            exact ⟨w, dm, Stp.refl, yl hi r2 (by rw [← hl]; exact y ys s2)⟩
    · exact gg.elim
end
end DL

/-! DL part 27: dicts, constants. -/
namespace DL
open PySem L2
section
variable {X : Cx} {W : WX}
theorem de_gstr {x s : Str} {pos : Pos} (hg : Gl X x) (h : ∃ t, X.mg x = some (.str s t)) (hd : (x == ("__debug__" : Str)) = false := by decide) : DE X W [] .tmp (.Name x pos) (dC (.str s)) := by
  obtain ⟨t, e⟩ := h
  exact de_glob (v := .str s) hg e ⟨t, rfl⟩ (fun _ _ _ _ => rfl) hd
theorem de_gint {x : Str} {i : Int} {pos : Pos} (hg : Gl X x) (h : ∃ t, X.mg x = some (.int i t)) (hd : (x == ("__debug__" : Str)) = false := by decide) : DE X W [] .tmp (.Name x pos) (dC (.int i)) := by
  obtain ⟨t, e⟩ := h
  exact de_glob (v := .int i) hg e ⟨t, rfl⟩ (fun _ _ _ _ => rfl) hd
theorem newAll {d : D} {o : HO} {e : Expr} (h : PE X e fun _ H Q => ∀ p, H p = none → Q (.ref p) (upd H p o)) (mo : Mut (some o)) (hd : ∀ K w H r p, w p = some [r] → H p = some o → Rp K w H .all [r] d (.ref p)) : DE X W [] .tmp e (fun ρ => .ok (.all, d) ρ) :=
  ⟨_, h, fun r w H σ ρ Q hr s g p hp => by
    have st : Stp (fun k => k < r) w H (setO w p (some [r])) (upd H p o) := Stp.new hp fun k p' e => by
      cases e; exact Nat.lt_irrefl _
    have dn : Dom (setO w p (some [r])) (upd H p o) (r + 1) := (s.dom.sub (Nat.le_succ _)).new hp fun t' e => by
      cases e; exact ⟨mo, r, [], rfl, Nat.lt_succ_self _⟩
    exact g _ _ (.ref p) [r] (s.stp st (fun k hk => by omega) dn) rfl (hd _ _ _ _ _ setO_same upd_same) (st.mono fun k h => h.1)⟩
/-- {} -/
theorem de_dnewK {pos : Pos} : DE X W [] .tmp (.Dict [] [] pos) (fun ρ => .ok (.all, .dK []) ρ) := newAll pe_dnewK trivial fun _ _ _ _ p h1 h2 => ⟨p, [], rfl, h1, h2, rfl⟩
theorem de_dnewT {pos : Pos} : DE X W [] .tmp (.Dict [] [] pos) (fun ρ => .ok (.all, .dT []) ρ) := newAll pe_dnewT trivial fun _ _ _ _ p h1 h2 => ⟨p, [], rfl, h1, h2, rfl⟩
end
/-! ### reading dicts -/
theorem valV_none {κ : Type} [DecidableEq κ] {kvs : List (κ × D)} {ws : List (κ × V)} {k : κ} (h : ws.map Prod.fst = kvs.map Prod.fst) (e : posK kvs k = none) : valV ws k = none := by
  have := any_keys (k := k) h
  rw [posK_none e] at this
  unfold valV
  rw [List.any_eq_false] at this
  have : ws.find? (fun kv => decide (kv.1 = k)) = none := List.find?_eq_none.mpr fun x hx => this x hx
  rw [this]; rfl
/-- what a dict says of a key: no dict or key, not there, there -/
def dLook (c k : Cel) : Option (Option Cel) := match c.2 with
  | .dK kvs => (keyOf k.2).bind fun k => some ((itK kvs k).map fun p => (c.1.sub, p.2))
  | .dT kvs => (match k.2 with
    | .tup ks => if ks.isEmpty = true then none else (keysOf ks).bind fun k => some ((itK kvs k).map fun p => (c.1.sub, p.2))
    | _ => none)
  | _ => none
theorem itK_none {κ : Type} [DecidableEq κ] {kvs : List (κ × D)} {k : κ} (e : itK kvs k = none) : posK kvs k = none := by
  unfold itK at e
  cases q : posK kvs k with
  | none => rfl
  | some j =>
    rw [q] at e
    obtain ⟨d, hd⟩ := posK_at q
    simp only [Option.bind_some] at e
    rw [hd] at e
    cases e
def LookR (K : PySem.W.Frag) (w : Om) (H : Hp) : Option Cel → Option V → Prop
  | none, ov => ov = none
  | some c, ov => ∃ v t', ov = some v ∧ Rp K w H c.1 t' c.2 v
theorem dLook_ok {K : PySem.W.Frag} {w : Om} {H : Hp} {c k : Cel} {t t2 : Tag} {v1 v2 : V} {o : Option Cel} (h1 : Rp K w H c.1 t c.2 v1) (h2 : Rp K w H k.1 t2 k.2 v2) (e : dLook c k = some o) :
    ∃ a ov, v1 = .ref a ∧ IsD H a ∧ DGet H a v2 ov ∧ LookR K w H o ov := by
  obtain ⟨m, d⟩ := c
  obtain ⟨km, kd⟩ := k
  unfold dLook at e
  cases d <;> first | (cases e; done) | skip
  · rename_i kvs
    obtain ⟨a, ws, ea, nd, ob, rk⟩ := h1
    dsimp only at e h2
    cases e1 : keyOf kd with
    | none => rw [e1] at e; cases e
    | some key =>
      rw [e1] at e
      cases e
      have ev := keyOf_kV e1 h2
      subst ev
      cases e2 : itK kvs key with
      | none => exact ⟨a, _, ea, .inl ⟨ws, .inl ob⟩, DGet.k ob, valV_none (RpK.iffL.mp rk).1 (itK_none e2)⟩
      | some p =>
        obtain ⟨q3, k2, q4⟩ := itK_some e2
        obtain ⟨v, z1, z2, z3⟩ := posK_val rk q3 q4
        subst z1
        obtain ⟨v', y1, y2⟩ := rk.get q4
        rw [z2] at y1
        cases y1
        exact ⟨a, _, ea, .inl ⟨ws, .inl ob⟩, DGet.k ob, v, _, z3, y2⟩
  · rename_i kvs
    obtain ⟨a, ws, ea, nd, ob, rk⟩ := h1
    dsimp only at e h2
    cases kd <;> first | (cases e; done) | skip
    rename_i ks
    simp only at e
    split at e
    · cases e
    · rename_i hne
      cases e1 : keysOf ks with
      | none => rw [e1] at e; cases e
      | some key =>
        rw [e1] at e
        cases e
        obtain ⟨ba, us, eb, tob, ru⟩ := h2
        subst eb
        have ev := keysOf_kV e1 ru
        subst ev
        have tb : H ba = some (.tup (key.map kV)) := by
          rcases tob with tob | ⟨z, _⟩
          · exact tob
          · cases ks with
            | nil => exact (hne rfl).elim
            | cons a as =>
              obtain ⟨v', r', ev', _, _⟩ := ru
              rw [z] at ev'; cases ev'
        cases e2 : itK kvs key with
        | none => exact ⟨a, _, ea, .inr ⟨ws, .inl ob⟩, DGet.t ob tb, valV_none (RpT.iffL.mp rk).1 (itK_none e2)⟩
        | some p =>
          obtain ⟨q3, k2, q4⟩ := itK_some e2
          obtain ⟨v, z1, z2, z3⟩ := posT_val rk q3 q4
          subst z1
          obtain ⟨v', y1, y2⟩ := rk.get q4
          rw [z2] at y1
          cases y1
          exact ⟨a, _, ea, .inr ⟨ws, .inl ob⟩, DGet.t ob tb, v, _, z3, y2⟩
/-! ### in -/
def rInDict (f : Bool → Bool) : R2 := fun x y H Q => ∃ a o, y = .ref a ∧ DGet H a x o ∧ Q (.bl (f o.isSome)) H
theorem op_inDict {X : Cx} (hu : X.A.units + 1 < cLine) : OpR X (compareOp .In) (rInDict id) := by
  intro pins s σ H x y v u Q I rx ry h
  obtain ⟨a, o, ey, g, q⟩ := h
  subst ey
  cases (show u = Value.ref a from ry)
  exact d_in hu I g rx fun s' I' => ⟨.bl o.isSome, H, I', rfl, q⟩
theorem op_notInDict {X : Cx} (hu : X.A.units + 1 < cLine) : OpR X (compareOp .NotIn) (rInDict not) := by
  intro pins s σ H x y v u Q I rx ry h
  obtain ⟨a, o, ey, g, q⟩ := h
  subst ey
  cases (show u = Value.ref a from ry)
  exact d_notIn hu I g rx fun s' I' => ⟨.bl (!o.isSome), H, I', rfl, q⟩
def gInDict (f : Bool → Bool) (d e : D) : Option Bool := (dLook (.own 0, e) (.own 0, d)).map fun o => f o.isSome
theorem dLook_md {c k : Cel} {m m2 : Md} {o : Option Cel} (e : dLook (m, c.2) (m2, k.2) = some o) : ∃ o', dLook c k = some o' ∧ o'.isSome = o.isSome := by
  obtain ⟨cm, cd⟩ := c
  obtain ⟨km, kd⟩ := k
  unfold dLook at e ⊢
  dsimp only at e ⊢
  cases cd <;> first | (cases e; done) | skip
  · cases e1 : keyOf kd with
    | none => rw [e1] at e; cases e
    | some key =>
      rw [e1] at e
      simp only [Option.bind_some] at e ⊢
      cases e
      exact ⟨_, rfl, by simp⟩
  · cases kd <;> first | (cases e; done) | skip
    rename_i ks
    simp only at e ⊢
    by_cases h : ks.isEmpty = true
    · rw [if_pos h] at e; cases e
    · rw [if_neg h] at e ⊢
      cases e1 : keysOf ks with
      | none => rw [e1] at e; cases e
      | some key =>
        rw [e1] at e
        simp only [Option.bind_some] at e ⊢
        cases e
        exact ⟨_, rfl, by simp⟩
theorem ok_inDict {K : PySem.W.Frag} {f : Bool → Bool} : CmpOk K (rInDict f) (gInDict f) := by
  intro w H md1 md2 d1 d2 t1 t2 v1 v2 b Q h1 h2 e k
  unfold gInDict at e
  cases e1 : dLook (.own 0, d2) (.own 0, d1) with
  | none => rw [e1] at e; cases e
  | some o =>
    rw [e1] at e
    cases e
    obtain ⟨o', e2, e3⟩ := dLook_md (c := (md2, d2)) (k := (md1, d1)) e1
    obtain ⟨a, ov, ev, _, g, lr⟩ := dLook_ok (c := (md2, d2)) (k := (md1, d1)) h2 h1 e2
    refine ⟨a, ov, ev, g, ?_⟩
    have : ov.isSome = o.isSome := by
      rw [← e3]
      cases o' with
      | none => rw [show ov = none from lr]; rfl
      | some c => obtain ⟨v, _, e4, _⟩ := lr; rw [e4]; rfl
    rw [this]; exact k
/-- flat items by == -/
def flatD : D → Bool
  | .non => true
  | .bl _ => true
  | .int _ => true
  | .str _ => true
  | _ => false
theorem flat_eqV {K : PySem.W.Frag} {w : Om} {H : Hp} {m1 m2 : Md} {t1 t2 : Tag} {d e : D} {v u : V} (f1 : flatD d = true) (f2 : flatD e = true) (h1 : Rp K w H m1 t1 d v) (h2 : Rp K w H m2 t2 e u) : flatV v = true ∧ flatV u = true ∧ eqV v u = deq d e := by
  cases d <;> first | (cases f1; done) | skip
  all_goals (cases e <;> first | (cases f2; done) | skip)
  all_goals (have h1 := (show _ = _ from h1); have h2 := (show _ = _ from h2); subst h1; subst h2; exact ⟨rfl, rfl, rfl⟩)
theorem flat_all {K : PySem.W.Frag} {w : Om} {H : Hp} {m1 m2 : Md} {t1 t2 : Tag} {e : D} {u : V} (f2 : flatD e = true) (h2 : Rp K w H m2 t2 e u) : ∀ {ds : List D} {i : Nat} {vs : List V}, ds.all flatD = true → RpL K w H m1 t1 i ds vs → vs.all flatV = true ∧ inV u vs = ds.any fun z => deq z e
  | [], _, _, _, h => by rw [show _ = _ from h]; exact ⟨rfl, rfl⟩
  | d :: ds, i, _, f, ⟨v, r, ev, h, hr⟩ => by
    subst ev
    rw [List.all_cons, Bool.and_eq_true] at f
    obtain ⟨g1, g2, g3⟩ := flat_eqV f.1 f2 h h2
    obtain ⟨q1, q2⟩ := flat_all f2 h2 f.2 hr
    refine ⟨by rw [List.all_cons, g1, q1]; rfl, ?_⟩
    show (eqV v u || inV u r) = (deq d e || ds.any fun z => deq z e)
    rw [g3, q2]
def gInFlat (f : Bool → Bool) (d e : D) : Option Bool := match e with
  | .tup es => if (flatD d && es.all flatD) = true then some (f (es.any fun z => deq z d)) else none
  | .lst es => if (flatD d && es.all flatD) = true then some (f (es.any fun z => deq z d)) else none
  | _ => none
theorem inFlat_core {K : PySem.W.Frag} {w : Om} {H : Hp} {md1 md2 : Md} {d1 d2 : D} {t1 t2 : Tag} {v1 v2 : V} {b : Bool} {f : Bool → Bool} (h1 : Rp K w H md1 t1 d1 v1) (h2 : Rp K w H md2 t2 d2 v2) (e : gInFlat f d1 d2 = some b) :
    ∃ p xs, v2 = .ref p ∧ (SqL K H p xs ∨ SqT K H p xs) ∧ flatV v1 = true ∧ xs.all flatV = true ∧ b = f (inV v1 xs) := by
  have fl : ∀ {d : D} {v : V}, flatD d = true → Rp K w H md1 t1 d v → flatV v = true := fun {d v} h r => (flat_eqV h h r r).1
  unfold gInFlat at e
  split at e
  · split at e
    · rename_i hf
      rw [Bool.and_eq_true] at hf
      obtain ⟨a, vs, ea, ob, rl⟩ := h2
      obtain ⟨q1, q2⟩ := flat_all hf.1 h1 hf.2 rl
      cases e
      exact ⟨a, vs, ea, .inr ob.sq, fl hf.1 h1, q1, by rw [q2]⟩
    · cases e
  · split at e
    · rename_i hf
      rw [Bool.and_eq_true] at hf
      obtain ⟨a, vs, ea, nd, ob, rl⟩ := h2
      obtain ⟨q1, q2⟩ := flat_all hf.1 h1 hf.2 rl
      cases e
      exact ⟨a, vs, ea, .inl (SqL.of ob), fl hf.1 h1, q1, by rw [q2]⟩
    · cases e
  · cases e
theorem ok_inFlat {K : PySem.W.Frag} : CmpOk K (rIn K false) (gInFlat id) := by
  intro w H md1 md2 d1 d2 t1 t2 v1 v2 b Q h1 h2 e k
  obtain ⟨p, xs, ev, hs, f1, f2, eb⟩ := inFlat_core h1 h2 e
  exact ⟨p, xs, ev, hs, f1, f2, by rw [eb] at k; exact k⟩
theorem ok_notInFlat {K : PySem.W.Frag} : CmpOk K (rIn K true) (gInFlat not) := by
  intro w H md1 md2 d1 d2 t1 t2 v1 v2 b Q h1 h2 e k
  obtain ⟨p, xs, ev, hs, f1, f2, eb⟩ := inFlat_core h1 h2 e
  exact ⟨p, xs, ev, hs, f1, f2, by rw [eb] at k; exact k⟩
/-- in, of texts, flat items, dicts, deep data -/
def gInA (d e : D) : Option Bool := (gInFlat id d e).orElse fun _ => (gInDict id d e).orElse fun _ => gIn d e
def gNotInA (d e : D) : Option Bool := (gInFlat not d e).orElse fun _ => (gInDict not d e).orElse fun _ => gNotIn d e
theorem op_inX {X : Cx} (h1 : X.A.units + 1 < cLine) (h2 : X.A.units + 65 < cLine) : OpR X (compareOp .In) (fun x y H Q => rIn X.K false x y H Q ∨ (rInDict id x y H Q ∨ rInA X.K x y H Q)) := op_in_seq.or ((op_inDict h1).or (op_inA h2))
theorem op_notInX {X : Cx} (h1 : X.A.units + 1 < cLine) (h2 : X.A.units + 65 < cLine) : OpR X (compareOp .NotIn) (fun x y H Q => rIn X.K true x y H Q ∨ (rInDict not x y H Q ∨ rNotInA X.K x y H Q)) := op_notIn_seq.or ((op_notInDict h1).or (op_notInA h2))
theorem ok_inX {K : PySem.W.Frag} : CmpOk K (fun x y H Q => rIn K false x y H Q ∨ (rInDict id x y H Q ∨ rInA K x y H Q)) gInA := ok_inFlat.or (ok_inDict.or ok_in)
theorem ok_notInX {K : PySem.W.Frag} : CmpOk K (fun x y H Q => rIn K true x y H Q ∨ (rInDict not x y H Q ∨ rNotInA K x y H Q)) gNotInA := ok_notInFlat.or (ok_inDict.or ok_notIn)
end DL

/-! DL part 28: errors that are raised and caught. -/
namespace DL
open PySem L2
/-- an error class of the text -/
structure ECl (K : PySem.W.Frag) (mg : Str → Option Value) (x : Str) (C : Addr) : Prop where
  g : mg x = some (.ref C)
  kp : PySem.W.keepIn K (.ref C) = true
  sb : PySem.W.subIn K (.ref C) (.type "BaseException") = some true
  ty : PySem.W.typeIn K (.ref C) = some (.type "type")
  ic : PySem.W.isClsIn K C = true
  sf : PySem.W.subIn K (.ref C) (.ref C) = some true
abbrev veBase : List Value := [.type "ValueError", .type "Exception", .type "BaseException", .type "object"]
/-- one that is raised with a text -/
structure ERs (K : PySem.W.Frag) (mg : Str → Option Value) (x : Str) (C : Addr) : Prop extends ECl K mg x C where
  ex : PySem.W.excIn K C veBase "ValueError.__new__" = true
/-- one whose errors are asked for their class -/
structure EIs (K : PySem.W.Frag) (C : Addr) : Prop where
  hg : PySem.W.findIn K (.ref C) "__getattribute__" = some (some (.builtin "BaseException.__getattribute__"))
  hk : PySem.W.findIn K (.ref C) "__getattr__" = some none
  hd : PySem.W.hasDictIn K C = true
  ha : PySem.W.findIn K (.ref C) "__class__" = some (some (.builtin "object.__class__"))
  hn : PySem.W.specialIn K (.builtin "object.__class__") "__get__" = some (some (.builtin "getset_descriptor.__get__"))
  ht : PySem.W.takesIn K (.builtin "object.__class__") = some true
  hm : PySem.W.mroIn K C (.type "object") = some true
/-- x's class is below c's: b -/
inductive SubT (K : PySem.W.Frag) (mg : Str → Option Value) (x c : Str) (b : Bool) : Prop where
  | own (X C : Addr) (h1 : ECl K mg x X) (h2 : ECl K mg c C) (h : PySem.W.subIn K (.ref X) (.ref C) = some b)
  | blt (X : Addr) (T : String) (h1 : ECl K mg x X) (h2 : mg c = none) (h3 : bootBuiltins c = some (.type T)) (h4 : PySem.W.kitMeta T = true) (h : PySem.W.subIn K (.ref X) (.type T) = some b)
theorem ECl.exm {K : PySem.W.Frag} {mg : Str → Option Value} {c : Str} {C : Addr} (h : ECl K mg c C) {cls : Value} {b : Bool} (e : PySem.W.subIn K cls (.ref C) = some b) : PySem.W.exmOne K cls (.ref C) = some b := by
  have q1 : (PySem.W.subIn K (.ref C) (.type "BaseException") == some true) = true := by rw [h.sb] <;> rfl
  have q2 : ((PySem.W.clsIn K C).isSome && PySem.W.typeIn K (.ref C) == some (.type "type")) = true := by
    have z : (PySem.W.clsIn K C).isSome = true := h.ic
    rw [z, h.ty] <;> rfl
  unfold PySem.W.exmOne PySem.W.kitCls
  rw [if_pos q1]
  simp only
  rw [if_pos q2]
  exact e
theorem SubT.kit {K : PySem.W.Frag} {mg : Str → Option Value} {x c : Str} {b : Bool} (h : SubT K mg x c b) {X : Addr} (hx : mg x = some (.ref X)) {cv : Value} (hc : mg c = some cv ∨ (mg c = none ∧ bootBuiltins c = some cv)) : PySem.W.kitOne K (.ref X) cv = some b := by
  cases h with
  | own X' C h1 h2 h =>
    rw [h1.g] at hx
    cases hx
    rcases hc with hc | ⟨hc, _⟩
    · rw [h2.g] at hc
      cases hc
      unfold PySem.W.kitOne
      by_cases e : X = C
      · subst e
        rw [h1.sf] at h
        cases h
        simp
      · have e' : (Value.ref X == Value.ref C) = false := by
          rw [beq_eq_false_iff_ne]
          exact fun z => e (Value.ref.inj z)
        have q2 : ((PySem.W.clsIn K C).isSome && PySem.W.typeIn K (.ref C) == some (.type "type")) = true := by
          have z : (PySem.W.clsIn K C).isSome = true := h2.ic
          rw [z, h2.ty] <;> rfl
        rw [if_neg (by rw [e']; exact Bool.false_ne_true)]
        unfold PySem.W.kitCls
        simp only
        rw [if_pos q2]
        exact h
    · rw [h2.g] at hc; cases hc
  | blt X' T h1 h2 h3 h4 h =>
    rw [h1.g] at hx
    cases hx
    rcases hc with hc | ⟨_, hc⟩
    · rw [h2] at hc; cases hc
    · rw [h3] at hc
      cases hc
      unfold PySem.W.kitOne
      rw [if_neg (by intro z; have := beq_iff_eq.mp z; cases this)]
      unfold PySem.W.kitCls
      simp only
      rw [if_pos h4]
      exact h
/-! ### raise -/
def dsRaise (x : Str) : Rho → SR := fun ρ => .exc ⟨x, []⟩ ρ
section
variable {X : Cx} {W : WX} {M : List Nat}
theorem ds_raise {x m : Str} {j : Nat} {p p2 pos pos' : Pos} (hc : X.calm = true) (tk : L2N.Takes X W) (E : ∃ C, ERs X.K X.mg x C) (hg : Gl X x) (hdb : (x == ("__debug__" : Str)) = false := by decide) : DS X W M [] (.Raise (some (.Call (.Name x p) [.Constant (.str m) j p2] [] pos)) none pos') (dsRaise x) := by
  obtain ⟨C, E⟩ := E
  refine ⟨_, L2N.ps_raise hc tk (L2N.pmk_own PySem.F.excBase_ValueError E.ex E.g E.kp (raises_own E.sb E.ty) hg hdb), fun r w H σ ρ D hr s g => ?_⟩
  exact g w H σ (.ref C) none s ⟨E.g, fun z => (z rfl).elim, fun _ => rfl⟩ Stp.refl Fx.refl
/-! ### isinstance of the caught error -/
def dIsE (i : Nat) (a : Addr) (b : Option Bool) : Rho → Res Bool := fun ρ => match ρ[i]? with
  | some (some (_, .adr a')) => if a' = a then (match b with
    | some b => .ok b ρ
    | none => .stuck) else .stuck
  | _ => .stuck
def subN (sub : Str → Str → Option Bool) (x : Exn) (c : Str) : Option Bool := if x.fs.isEmpty = true then sub x.cls c else none
/-- what a suite knows of its error -/
structure Caught (X : Cx) (a : Addr) (oe : Obj) (cls : Value) (d : Option Addr) (x : Exn) : Prop where
  z : L2N.Zn cls d oe
  f : ∃ vs, oe.data = .fields vs
  g : X.mg x.cls = some cls
  n : x.fs = [] → d = none
theorem de_isE {a : Addr} {oe : Obj} {cls : Value} {d : Option Addr} {pn : List (Addr × Obj)} {xn : Exn} {y2 c : Str} {p1 p2 p3 pos : Pos} (i : Nat) (sub : Str → Str → Option Bool) (ct : Caught X a oe cls d xn) (hEI : ∀ x b, sub x c = some b → SubT X.K X.mg x c b ∧ ∃ C, ECl X.K X.mg x C ∧ EIs X.K C)
    (hgl : Gl X "isinstance") (hm : X.mg "isinstance" = none) (hN : X.N[i]? = some y2) (hv : Vis X.env.scope y2) (hgc : Gl X c) (hcb : (∃ C, X.mg c = some (.ref C)) ∨ (X.mg c = none ∧ ∃ T, bootBuiltins c = some (.type T) ∧ c ≠ "__name__"))
    (hdc : (c == ("__debug__" : Str)) = false := by decide) (hdy : (y2 == ("__debug__" : Str)) = false := by decide) (hcy : (y2 == ("__classdict__" : Str)) = false := by decide) :
    DE (X.suite a ((a, oe) :: pn)) W [] .tmp (.Call (.Name "isinstance" p1) [.Name y2 p2, .Name c p3] [] pos) (fun ρ => boolR (dIsE i a (subN sub xn c) ρ)) := by
  cases e' : subN sub xn c with
  | none =>
    refine ⟨fun _ _ _ => False, ⟨fun pins s σ H Q I h => h.elim⟩, fun r w H σ ρ Q hr s g => ?_⟩
    unfold boolR dIsE at g
    split at g
    · split at g
      · exact g
      · exact g
    · exact g
  | some b =>
    have hx : xn.fs = [] ∧ sub xn.cls c = some b := by
      unfold subN at e'
      split at e'
      · rename_i q; exact ⟨List.isEmpty_iff.mp q, e'⟩
      · cases e'
    obtain ⟨hx, e⟩ := hx
    obtain ⟨st, C, ec, ei⟩ := hEI _ _ e
    have hcls : cls = .ref C := by
      have := ct.g
      rw [ec.g] at this
      exact (Option.some.inj this).symm
    have hd := ct.n hx
    subst hcls hd
    have hE : ∃ (v : V) (cv : Value), PE (X.suite a ((a, oe) :: pn)) (.Name c p3) (tC v) ∧ (∀ u, RelV v u → u = cv) ∧ (X.mg c = some cv ∨ (X.mg c = none ∧ bootBuiltins c = some cv)) := by
      rcases hcb with ⟨C', h⟩ | ⟨h, T, hb, hn⟩
      · exact ⟨.ref C', .ref C', pe_glob hgc h rfl hdc, fun u h => h, .inl h⟩
      · exact ⟨.ty T, .type T, pe_bltn hgc h hb (v := .ty T) rfl hn hdc, fun u h => h, .inr ⟨h, hb⟩⟩
    obtain ⟨v, cv, pc, hv1, hv2⟩ := hE
    have EC : ExcC X.K C := ⟨ei.hg, ei.hk, ec.sb, ei.hd, ei.ha, ei.hn, ei.ht, ei.hm⟩
    refine ⟨_, pe_callB (call_isE EC ct.z.zc ct.f) hgl hm (by decide) (pa_cons (pe_var hN hv hdy hcy) (pa_cons pc pa_nil)), fun r w H σ ρ Q hr s g => ?_⟩
    unfold boolR dIsE at g
    split at g
    · rename_i m a' ea
      split at g
      · rename_i eq
        subst eq
        obtain ⟨u, h1, h2⟩ := s.slot i _ ea
        cases (show u = .ref a' from h2)
        exact ⟨_, h1, v, cv, b, rfl, hv1, st.kit ec.g hv2, g w H (.bl b) [r] (s.up (Nat.le_succ _)) rfl rfl Stp.refl⟩
      · exact g.elim
    · exact g.elim
/-! ### try -/
def clrS (i : Nat) : SR → SR
  | .nx e => .nx (e.set i none)
  | .bk e => .bk (e.set i none)
  | .ct e => .ct (e.set i none)
  | .rt c e => .rt c (e.set i none)
  | .exc _ _ => .stuck
  | .stuck => .stuck
open Classical in
noncomputable def catchS (i : Nat) (fs : Addr → Exn → Rho → SR) (x : Exn) (e : Rho) : SR := if h : ∃ z, ∀ a, clrS i (fs a x (e.set i (some (.own 0, .adr a)))) = z then h.choose else .stuck
theorem catchS_eq {i : Nat} {fs : Addr → Exn → Rho → SR} {x : Exn} {e : Rho} {z : SR} (h : ∀ a, clrS i (fs a x (e.set i (some (.own 0, .adr a)))) = z) : catchS i fs x e = z := by
  have q : ∃ z, ∀ a, clrS i (fs a x (e.set i (some (.own 0, .adr a)))) = z := ⟨z, h⟩
  unfold catchS
  rw [dif_pos q, ← q.choose_spec 0, h 0]
noncomputable def dsTry (sub : Str → Option Bool) (i : Nat) (f : Rho → SR) (fs : Addr → Exn → Rho → SR) : Rho → SR := fun ρ => match f ρ with
  | .exc x e => (match sub x.cls with
    | none => .stuck
    | some false => .exc x e
    | some true => catchS i fs x e)
  | z => z
theorem Sat.del {K : PySem.W.Frag} {N r : Nat} {w : Om} {H : Hp} {σ : St} {ρ : Rho} {i : Nat} {x : Option V} (s : Sat K N r w H σ ρ) : Sat K N r w H (σ.set i x) (ρ.set i none) :=
  ⟨by rw [List.length_set]; exact s.ls, by rw [List.length_set]; exact s.lr, s.dom, fun j c e => by
    by_cases h : j = i
    · subst h
      rw [List.getElem?_set] at e
      simp at e
    · rw [List.getElem?_set_ne (Ne.symm h)] at e
      obtain ⟨v, h1, h2⟩ := s.slot j c e
      exact ⟨v, by rw [List.getElem?_set_ne (Ne.symm h)]; exact h1, h2⟩⟩
theorem Sat.adr {K : PySem.W.Frag} {N r : Nat} {w : Om} {H : Hp} {σ : St} {ρ : Rho} {i : Nat} {a : Addr} (s : Sat K N r w H σ ρ) : Sat K N r w H (σ.set i (some (.ref a))) (ρ.set i (some (.own 0, .adr a))) :=
  ⟨by rw [List.length_set]; exact s.ls, by rw [List.length_set]; exact s.lr, s.dom, fun j c e => by
    by_cases h : j = i
    · subst h
      have hj : j < ρ.length := by
        have := (List.getElem?_eq_some_iff.mp e).1
        rw [List.length_set] at this; exact this
      rw [List.getElem?_set_self hj] at e
      cases e
      exact ⟨.ref a, List.getElem?_set_self (by rw [s.ls, ← s.lr]; exact hj), rfl⟩
    · rw [List.getElem?_set_ne (Ne.symm h)] at e
      obtain ⟨v, h1, h2⟩ := s.slot j c e
      exact ⟨v, by rw [List.getElem?_set_ne (Ne.symm h)]; exact h1, h2⟩⟩
theorem try_suite {a : Addr} {pn : List (Addr × Obj)} {T : List Nat} {i r : Nat} {w w1 : Om} {H H1 : Hp} {σ σ1 : St} {D : Ends} {z : SR} (hM : M.contains i = false) (st : Stp (kpE T r) w H w1 H1) (fx : Fx M σ σ1) (g : GoodS X W M T r w H σ D (clrS i z)) :
    GoodS (X.suite a pn) W0 M T r w1 H1 σ1 { nx := fun σ' H' => D.nx (σ'.set i none) H', rt := D.rt, bk := fun σ' H' => D.bk (σ'.set i none) H', ct := fun σ' H' => D.ct (σ'.set i none) H' } z := by
  cases z with
  | stuck => exact g
  | exc x e => exact g.elim
  | nx e => exact fun w' H' σ' s' st' fx' => g w' H' _ s'.del (st.trans st') ((fx.trans fx').trans (Fx.set hM))
  | bk e => exact fun w' H' σ' s' st' fx' => g w' H' _ s'.del (st.trans st') ((fx.trans fx').trans (Fx.set hM))
  | ct e => exact fun w' H' σ' s' st' fx' => g w' H' _ s'.del (st.trans st') ((fx.trans fx').trans (Fx.set hM))
  | rt c e => exact fun w' H' σ' v s' h st' fx' => g w' H' _ v s'.del h (st.trans st') ((fx.trans fx').trans (Fx.set (x := none) hM))
theorem ds_try {n c : Str} {body suite : List Stmt} {b0 : Stmt} {np pos' pos : Pos} {Tb Ts : List Nat} {f : Rho → SR} {fs : Addr → Exn → Rho → SR} (i : Nat) (sub : Str → Option Bool) (tk : L2N.Takes X W) (hgl : Gl X c) (hC : ∃ C, ECl X.K X.mg c C) (hsub : ∀ x b, sub x = some b → SubT X.K X.mg x c b)
    (hs : X.stack = X.env :: X.outer) (hf : X.env.frame = some X.env.locals) (hNd : X.N.Nodup) (hln : X.env.kindOf n = some .local)
    (B : ∀ (W : WX) (pn : List (Addr × Obj)) (xe : Value → Shared → Prop), L2N.Takes (X.tr pn xe) W → PassesOwn (model X.prog X.w) X.A X.env xe → DSs (X.tr pn xe) W M Tb body f)
    (S : ∀ (a : Addr) (oe : Obj) (cls : Value) (d : Option Addr) (pn : List (Addr × Obj)) (x : Exn), Caught X a oe cls d x → DSs (X.suite a ((a, oe) :: pn)) W0 M Ts (b0 :: suite) (fs a x))
    (hi : X.N[i]? = some n := by rfl) (hM : M.contains i = false := by rfl) (hdb : (c == ("__debug__" : Str)) = false := by decide) :
    DS X W M (Tb ++ (i :: Ts)) (.Try body [.ExceptHandler (some (.Name c np)) (some n) (b0 :: suite) pos'] [] [] pos) (dsTry sub i f fs) := by
  obtain ⟨C, ec⟩ := hC
  refine ⟨_, L2N.ps_try_as (tb := fun W' D σ H => ∀ (pn : List (Addr × Obj)) (xe : Value → Shared → Prop) (tk' : L2N.Takes (X.tr pn xe) W') (hp : PassesOwn (model X.prog X.w) X.A X.env xe), (B W' pn xe tk' hp).ex.choose D σ H)
    (ts := fun a cls d D σ H => ∃ (x : Exn) (g : X.mg x.cls = some cls) (n : x.fs = [] → d = none), ∀ (oe : Obj) (pn : List (Addr × Obj)) (z : L2N.Zn cls d oe) (q : ∃ vs, oe.data = .fields vs), (S a oe cls d pn x ⟨z, q, g, n⟩).ex.choose D σ H)
    hs hf hNd hi hln ⟨hgl, hdb, .inl ec.g⟩ tk (fun W' pn xe tk' hp => ⟨fun pins s σ H D I h => (B W' pn xe tk' hp).ex.choose_spec.1.run pins s σ H D I (h pn xe tk' hp)⟩)
    (fun a oe cls d pn z q => ⟨fun pins s σ H D I ⟨x, g, n, h⟩ => (S a oe cls d pn x ⟨z, q, g, n⟩).ex.choose_spec.1.run pins s σ H D I (h oe pn z q)⟩), fun r w H σ ρ D hr s g pn xe tk' hp => ?_⟩
  refine (B _ pn xe tk' hp).ex.choose_spec.2 r w H σ ρ D hr s ?_
  have hT : ∀ j ∈ Tb, j ∈ Tb ++ (i :: Ts) := fun j hj => List.mem_append_left _ hj
  unfold dsTry at g
  cases e : f ρ with
  | stuck => rw [e] at g; exact g
  | nx e' => rw [e] at g; exact GoodS.weak (z := .nx e') hT g
  | bk e' => rw [e] at g; exact GoodS.weak (z := .bk e') hT g
  | ct e' => rw [e] at g; exact GoodS.weak (z := .ct e') hT g
  | rt c e' => rw [e] at g; exact GoodS.weak (z := .rt c e') hT g
  | exc x e' =>
    rw [e] at g
    intro w' H' σ' cls da s' xo st fx
    have g : GoodS X W M (Tb ++ (i :: Ts)) r w H σ D (match sub x.cls with
      | none => .stuck
      | some false => .exc x e'
      | some true => catchS i fs x e') := g
    have st' : Stp (kpE (Tb ++ (i :: Ts)) r) w H w' H' := st.mono fun k h => h.l
    cases e2 : sub x.cls with
    | none => rw [e2] at g; exact g.elim
    | some b =>
      rw [e2] at g
      have hb : PySem.W.exmOne X.K cls (.ref C) = some b := by
        cases hsub _ _ e2 with
        | own X' C' h1 h2 h =>
          have q1 := h1.g
          rw [xo.1] at q1
          cases q1
          have q2 := h2.g
          rw [ec.g] at q2
          cases q2
          exact ec.exm h
        | blt X' T h1 h2 _ _ _ => rw [ec.g] at h2; cases h2
      refine ⟨b, hb, fun hb1 a na => ?_, fun hb1 => ?_⟩
      · subst hb1
        have g : GoodS X W M (Tb ++ (i :: Ts)) r w H σ D (catchS i fs x e') := g
        refine ⟨x, xo.1, xo.2.2, fun oe pn' z q => ?_⟩
        refine (S a oe cls da pn' x ⟨z, q, xo.1, xo.2.2⟩).ex.choose_spec.2 r w' H' _ (e'.set i (some (.own 0, .adr a))) _ hr s'.adr ?_
        by_cases hz : ∃ z, ∀ a, clrS i (fs a x (e'.set i (some (.own 0, .adr a)))) = z
        · obtain ⟨z0, hz0⟩ := hz
          rw [catchS_eq hz0, ← hz0 a] at g
          exact try_suite (T := Ts) hM Stp.refl Fx.refl (GoodS.weak (fun j hj => List.mem_append_right _ (List.mem_cons_of_mem _ hj)) (GoodS.up g st' (fx.trans (Fx.set hM))))
        · unfold catchS at g
          rw [dif_neg hz] at g
          exact g.elim
      · subst hb1
        exact g w' H' σ' cls da s' xo st' fx
end
end DL

/-! DL part 29: any and all within a suite, more of texts, calls without arguments, recursion. -/
namespace DL
open PySem PySem.Spec PyProof.Rows L2 HotX L2H
section
variable {prog : Program} {w : World} {A : Around} {E : Value → Shared → Prop} {s : Shared}
theorem list_end_hot {it l x1 : Addr} {i : Nat} {xs : Array Value} {Q : Option Value → Shared → Prop} (hot : HotAt A x1 s.heap) (hne : x1 ≠ it) (hit : s.heap.IsListIter it l i) (hl : s.heap.IsList l xs) (hx : xs[i]? = none)
    (hQ : ∀ h', Heap.ExtBut it s.heap h' → Q none { s with heap := h' }) : wpAny (model prog w) A (pyNext (.ref it)) Q E s := by
  obtain ⟨o, ho, hc, hd⟩ := id hit
  obtain ⟨ol, hol, cl, nl, hdl⟩ := hl
  obtain ⟨hh, o1, vs1, h1, d1, c1⟩ := hot
  unfold pyNext
  refine wpAny_bind (wpAny_attempt (wpAny_callSpecial?_slot (name := Str.ofString "__next__") hit.typeIs slot_listiter_next (wpAny_call_entry slot_listiter_next hit.typeIs entry_listiter_next ?_ (args_listiter_next _))))
  show wpAny _ _ (field (.ref it) 0 >>= _) _ _ s; refine wpAny_bind (wpAny_field ho hd (x := .ref l) rfl ?_)
  show wpAny _ _ (if (Value.ref l == Value.none) = true then _ else _) _ _ s; rw [if_neg (show ¬ ((Value.ref l == Value.none) = true) from Bool.false_ne_true)]
  show wpAny _ _ (field (.ref it) 1 >>= _) _ _ s; refine wpAny_bind (wpAny_field ho hd (x := .int i 0) rfl ?_)
  show wpAny _ _ (seqItems? (.ref l) >>= _) _ _ s; refine wpAny_bind (wpAny_seqItems hol hdl ?_); simp only [Int.toNat_natCast, hx]
  have k1 : ∀ {h' : Heap}, Heap.SameBut it s.heap h' → h'.get? x1 = some o1 := fun q => (q.2 x1 hne).trans h1
  refine wpAny_bind (wpAny_rule (wpAny_bind (wpAny_setField ho hd (by simp) ?_))); show wpAny _ _ (newExc (.type "StopIteration") [] >>= _) _ _ _
  refine wpAny_bind ?_; simp only [newExc, newTuple]; refine wpAny_bind (wpAny_newObj_type ?_ (by size_fits))
  refine wpAny_bind (m := firstArgMember _ _) (wpAny_of_eq (a := Value.none) (by first | rfl | (simp only [firstArgMember]; rfl)) ?_); refine wpAny_newObj_type ?_ (by size_fits)
  have kx := k1 (Heap.SameBut.update s.heap it (Obj.mapFields (·.setIfInBounds 0 .none)))
  refine raiseNew_hot (x1 := x1) ⟨hh, o1, vs1, Heap.get?_push_of_some _ (Heap.get?_push_of_some _ kx), d1, c1⟩ (Nat.ne_of_lt (Heap.lt_size (Heap.get?_push_of_some _ kx))) (Heap.get?_push_size _ rfl) rfl (by first | (simp; done) | (simp; omega) | (simp only [Array.size_append]; simp; omega)) ?_
  refine wpAny_bind (wpAny_isInstance (T := "StopIteration") (b := true) ⟨_, Heap.get?_update_self _ (Heap.get?_push_size _ rfl) rfl, rfl⟩ isSubtype_stop ?_)
  refine wpAny_pure (hQ _ ?_)
  intro b o' hb eb
  have q1 := Heap.get?_push_of_some ({ cls := .type "tuple", data := .seq #[] 0 } : Obj) ((Heap.SameBut.update s.heap it (Obj.mapFields (·.setIfInBounds 0 .none))).extBut b o' hb eb)
  refine (Heap.get?_update_other _ _ ?_).trans ?_
  · exact Nat.ne_of_gt (Heap.lt_size (Heap.get?_push_of_some _ ((Heap.SameBut.update s.heap it (Obj.mapFields (·.setIfInBounds 0 .none))).extBut b o' hb eb)))
  · exact Heap.get?_push_of_some _ (Heap.get?_push_of_some _ ((Heap.SameBut.update s.heap it (Obj.mapFields (·.setIfInBounds 0 .none))).extBut b o' hb eb))
theorem walks_list_hot {x1 : Addr} {oh : Obj} {vh : Array Value} (hh : A.handled = some (.ref x1)) (d1 : oh.data = .fields vh) (c1 : vh[2]? = some .none) (I ax : Addr) (hne : ax ≠ I) (hx : x1 ≠ I) (items : Array Value) :
    PySem.Walks prog w A I [I, ax, x1] [I] items.size (fun i v => items[i]? = some v) (fun i h => h.IsListIter I ax i ∧ h.IsList ax items ∧ h.get? x1 = some oh) where
  sub := fun b hb => by simp at hb; simp [hb]
  frame := fun j h1 h2 st hk => ⟨st.1.at fun o e => hk I (by simp) o e, st.2.1.at fun o e => hk ax (by simp) o e, hk x1 (by simp) oh st.2.2⟩
  item := fun i s Q E hi st hQ => by
    refine wpAny_pyNext_list_item st.1 st.2.1 (x := items[i]) (by simp [hi]) fun h' hit' hs' => ?_
    exact hQ _ h' s.toks (by simp [hi]) ⟨hit', st.2.1.extBut hs'.extBut hne, hs'.extBut x1 oh hx st.2.2⟩ fun b o hb e => hs'.extBut b o (fun h => hb (by simp [h])) e
  done := fun s Q E st hQ => list_end_hot (x1 := x1) ⟨hh, oh, vh, st.2.2, d1, c1⟩ hx st.1 st.2.1 (by simp) fun h' he' => hQ h' s.toks fun b o hb e => he' b o (fun h => hb (by simp [h])) e
  self := fun j s Q E st hQ => wpAny_pyIter_listiter st.1 hQ
end
theorem cr_anyH {X : Cx} (hc : HotC X) : CallR X (.builtin "any") (rAny X.K) := by
  intro pins s σ H vs us Q I r h
  obtain ⟨a, bs, rfl, hs, q⟩ := h
  obtain ⟨its, rv, hl, hz⟩ := I.list hs
  rw [Vals.ref1 r]; have hb := rv.bls
  obtain ⟨⟨p1, p2⟩, ⟨hh, v1, e1, c1⟩, hp⟩ := hc
  have hg := (I.pin (p1, p2) (List.mem_append_left _ hp)).1
  refine call_any_walk (iter_any hl.isList fun s2 e2 st hne => ?_)
  subst e2
  refine ⟨_, _, _, _, _, _, _, rfl, walks_list_hot (A := X.A.in1) (oh := p2) hh e1 c1 _ a hne (Nat.ne_of_lt (Heap.lt_size hg)) its.toArray, ⟨st.1, st.2, Heap.get?_push_of_some _ hg⟩, truth_bools hb, fun h' tk hk => ?_⟩
  refine ⟨.bl (bs.any id), H, I.kept fun b o eo => hk b o (fun hmem => ?_) (Heap.get?_push_of_some _ eo), ?_, q⟩
  · rcases List.mem_cons.mp hmem with e1 | hmem
    · exact absurd (e1 ▸ Heap.lt_size eo) (Nat.lt_irrefl _)
    · cases hmem
  · show Value.bool _ = Value.bool _; rw [← L2.any_range, hb, List.size_toArray, List.length_map]
theorem hotC {X : Cx} {a : Addr} {oe : Obj} {pn : List (Addr × Obj)} {cls : Value} {d : Option Addr} {x : Exn} (ct : Caught X a oe cls d x) : HotC (X.suite a ((a, oe) :: pn)) := by
  obtain ⟨vs, e⟩ := ct.f
  exact ⟨(a, oe), ⟨rfl, vs, e, ct.z.2.2 vs e⟩, List.mem_cons_self⟩
/-! ### any, all -/
def allBl : List D → Option (List Bool)
  | [] => some []
  | .bl b :: ds => (allBl ds).map (b :: ·)
  | _ => none
theorem allBl_ok {K : PySem.W.Frag} {w : Om} {H : Hp} {md : Md} {t : Tag} : ∀ {ds : List D} {i : Nat} {vs : List V} {bs : List Bool}, allBl ds = some bs → RpL K w H md t i ds vs → vs = bs.map V.bl
  | [], _, _, _, e, h => by cases e; exact h
  | d :: ds, i, vs, bs, e, ⟨v, r, ev, h, hr⟩ => by
    cases d <;> first | (cases e; done) | skip
    rename_i b
    have e : (allBl ds).map (b :: ·) = some bs := e
    cases e1 : allBl ds with
    | none => rw [e1] at e; cases e
    | some cs =>
      rw [e1] at e
      cases e
      rw [ev, show v = V.bl b from h, allBl_ok e1 hr]; rfl
def gBls (f : List Bool → Bool) : List Cel → Option Cel
  | [c] => (match c.2 with
    | .lst ds => (allBl ds).map fun bs => (.own 0, .bl (f bs))
    | _ => none)
  | _ => none
theorem ok_bls {K : PySem.W.Frag} {f : List Bool → Bool} : CbOk K (fun vs H Q => ∃ (a : Addr) (bs : List Bool), vs = [V.ref a] ∧ SqL K H a (bs.map V.bl) ∧ Q (.bl (f bs)) H) (gBls f) := by
  intro r w H cs vs c Q hr d a e k
  unfold gBls at e
  split at e
  · rename_i c0
    obtain ⟨m0, d0⟩ := c0
    obtain ⟨v, t, rfl, h⟩ := argR1 a
    dsimp only at e h
    split at e
    · rename_i ds
      obtain ⟨b, us, eb, nd, ob, ru⟩ := h
      cases e1 : allBl ds with
      | none => rw [e1] at e; cases e
      | some bs =>
        rw [e1] at e
        cases e
        subst eb
        have := allBl_ok e1 ru
        subst this
        exact ⟨b, bs, rfl, SqL.of ob, sameHeap (K := K) (d := .bl (f bs)) (t := [r]) d rfl k⟩
    · cases e
  · cases e
abbrev gAny := gBls (fun bs => bs.any id)
abbrev gAll := gBls (fun bs => bs.all id)
theorem ok_any {K : PySem.W.Frag} : CbOk K (rAny K) gAny := ok_bls
theorem ok_all {K : PySem.W.Frag} : CbOk K (rAll K) gAll := ok_bls
end DL

/-! DL part 30: calls without arguments, recursion, join, split, str, index. -/
namespace DL
open PySem L2
section
variable {X : Cx} {W : WX}
theorem passN {X : Cx} : Passes (L2N.CX X.prog X.w) X (fun _ _ _ => False) := fun _ _ _ _ _ _ _ h => by
  obtain ⟨_, _, _, _, _, _, _, _, _, _, _, _, z⟩ := h
  exact z.elim
def dCall0 (F : Rho → Res Cel) : Rho → Res Cel := fun ρ => match F [] with
  | .ok c _ => .ok c ρ
  | _ => .stuck
theorem de_call0 {x : Str} {p pos : Pos} {k : Nat} {F : Rho → Res Cel} (FD : FnD X.prog X.w X.K X.mg X.base x k 0 [] F) (hr : Room k X.A) (hgl : Gl X x) (hdb : (x == ("__debug__" : Str)) = false := by decide) :
    DE X W [] .tmp (.Call (.Name x p) [] [] pos) (dCall0 F) := by
  obtain ⟨f, fd, ps, hmg, hk, hb, hn, FO⟩ := FD.ex
  refine ⟨_, pe_call0 (E := fun _ _ _ => False) FO hr hgl hmg hk hb .nil passN hdb, fun r w H σ ρ Q hr s gg => ?_⟩
  refine call_core (W := W0) (Ss := []) (ks := []) (cs := []) (vs := []) (T := []) (ρ1 := ρ) (σ := σ) (r := r) (w := w) FD.nl hr rfl (fun j h => (by cases h)) rfl (fun i ⟨m, h⟩ => (by simp at h)) (fun i h => (by cases h)) s trivial Stp.refl ?_
  unfold dCall0 at gg
  show GoodE X W0 [] .tmp r w H σ Q (match F [] with
      | .stuck => .stuck
      | .ok c ps => .ok c ρ
      | .exc x ps => .exc x ρ)
  cases e : F [] with
  | stuck => rw [e] at gg; exact gg
  | exc x e' => rw [e] at gg; exact gg.elim
  | ok c ps => rw [e] at gg; exact gg
end
theorem fnD_stuck {P : Program} {w : World} {K : PySem.W.Frag} {mg : Str → Option Value} {base : Heap} {x : Str} {st : Stmt} {f : Addr} {fd : FuncData} {N ps : List Str} {k n : Nat} {mj : List Nat} (F : Fun K x x st f fd) (hmg : mg x = some (.ref f)) (S : FnScope N ps (defScope st)) (hn : ps.length = n) (b : Binds K fd ps []) :
    FnD P w K mg base x (k + 1) n mj (fun _ => .stuck) :=
  ⟨⟨f, fd, ps, hmg, F.kp, b, hn, fun_okN F S (fun vs H Q E h => h.1.trans hn.symm) fun cdv A outer s H vs Q E hr h => (by
    obtain ⟨_, _, _, _, g⟩ := h
    exact g.elim)⟩, fun _ _ _ h => (by cases h)⟩
/-! ### texts -/
def allStr : List D → Option (List Str)
  | [] => some []
  | .str b :: ds => (allStr ds).map (b :: ·)
  | _ => none
theorem allStr_ok {K : PySem.W.Frag} {w : Om} {H : Hp} {md : Md} {t : Tag} : ∀ {ds : List D} {i : Nat} {vs : List V} {bs : List Str}, allStr ds = some bs → RpL K w H md t i ds vs → vs = bs.map V.str
  | [], _, _, _, e, h => by cases e; exact h
  | d :: ds, i, vs, bs, e, ⟨v, r, ev, h, hr⟩ => by
    cases d <;> first | (cases e; done) | skip
    rename_i b
    have e : (allStr ds).map (b :: ·) = some bs := e
    cases e1 : allStr ds with
    | none => rw [e1] at e; cases e
    | some cs =>
      rw [e1] at e
      cases e
      rw [ev, show v = V.str b from h, allStr_ok e1 hr]; rfl
def joinO (a : Str) (o : Option (List Str)) : Option Cel := o.bind fun ys => if (ys.map (·.length)).sum + ys.length * a.length ≤ 16777216 then some (.own 0, .str (Txt.join a ys)) else none
def gJoin : Cel → List Cel → Option Cel
  | c, [c'] => (match c.2, c'.2 with
    | .str a, .lst ds => joinO a (allStr ds)
    | .str a, .tup ds => joinO a (allStr ds)
    | _, _ => none)
  | _, _ => none
theorem ok_join {K : PySem.W.Frag} : MtOk K (fun x xs H Q => ∃ a p, ∃ ys : List Str, x = .str a ∧ xs = [.ref p] ∧ (SqL K H p (ys.map V.str) ∨ SqT K H p (ys.map V.str)) ∧ (ys.map (·.length)).sum + ys.length * a.length ≤ 16777216 ∧ Q (.str (Txt.join a ys)) H) gJoin := by
  intro r w H c0 cs t0 v0 vs c Q hr d h a e k
  unfold gJoin at e
  split at e
  · rename_i c'
    obtain ⟨m0, d0⟩ := c0
    obtain ⟨m1, d1⟩ := c'
    obtain ⟨v, t, rfl, h'⟩ := argR1 a
    dsimp only at e h h'
    split at e
    · rename_i z ds
      cases (show _ = _ from h)
      obtain ⟨p, us, eb, nd, ob, ru⟩ := h'
      unfold joinO at e
      cases e1 : allStr ds with
      | none => rw [e1] at e; cases e
      | some ys =>
        rw [e1] at e
        simp only [Option.bind_some] at e
        split at e
        · rename_i hz
          cases e
          have := allStr_ok e1 ru
          subst this
          exact ⟨z, p, ys, rfl, by rw [eb], .inl (SqL.of ob), hz, sameHeap' (K := K) (c := (.own 0, .str (Txt.join z ys))) d rfl k⟩
        · cases e
    · rename_i z ds
      cases (show _ = _ from h)
      obtain ⟨p, us, eb, ob, ru⟩ := h'
      unfold joinO at e
      cases e1 : allStr ds with
      | none => rw [e1] at e; cases e
      | some ys =>
        rw [e1] at e
        simp only [Option.bind_some] at e
        split at e
        · rename_i hz
          cases e
          have := allStr_ok e1 ru
          subst this
          exact ⟨z, p, ys, rfl, by rw [eb], .inr ob.sq, hz, sameHeap' (K := K) (c := (.own 0, .str (Txt.join z ys))) d rfl k⟩
        · cases e
    · cases e
  · cases e
def strsD (ys : List Str) : List D := ys.map .str
theorem strsD_rl {K : PySem.W.Frag} {w : Om} {H : Hp} {md : Md} {t : Tag} : ∀ {ys : List Str} {i : Nat}, RpL K w H md t i (strsD ys) (ys.map V.str)
  | [], _ => rfl
  | y :: ys, i => ⟨_, _, rfl, rfl, strsD_rl⟩
def gSplit : Cel → List Cel → Option Cel
  | c, [c'] => (match c.2, c'.2 with
    | .str a, .str b => if (b.length == 0) = false ∧ a.length + 2 ≤ sizeLine then some (.own 1, .lst (strsD (Txt.split a b))) else none
    | _, _ => none)
  | _, _ => none
theorem ok_split {K : PySem.W.Frag} : MtOk K (fun x xs H Q => ∃ a b, x = .str a ∧ xs = [.str b] ∧ (b.length == 0) = false ∧ a.length + 2 ≤ sizeLine ∧ rNewStrs (Txt.split a b) H Q) gSplit := by
  intro r w H c0 cs t0 v0 vs c Q hr d h a e k
  unfold gSplit at e
  split at e
  · rename_i c'
    obtain ⟨m0, d0⟩ := c0
    obtain ⟨m1, d1⟩ := c'
    obtain ⟨v, t, rfl, h'⟩ := argR1 a
    dsimp only at e h h'
    split at e
    · rename_i y z
      split at e
      · rename_i hz
        cases e
        cases (show _ = _ from h); cases (show _ = _ from h')
        exact ⟨y, z, rfl, rfl, hz.1, hz.2, fun p hp => newList (K := K) (t' := [0]) (i := 0) hr d strsD_rl k p hp⟩
      · cases e
    · cases e
  · cases e
/-- str(i) -/
def gStrI : List Cel → Option Cel
  | [c] => (match c.2 with
    | .int i => if i.natAbs.log2 < 1920 then some (.own 0, .str (toString i)) else none
    | _ => none)
  | _ => none
theorem ok_strI {K : PySem.W.Frag} : CbOk K (fun xs H Q => ∃ i, xs = [.int i] ∧ i.natAbs.log2 < 1920 ∧ Q (.str (toString i)) H) gStrI := by
  intro r w H cs vs c Q hr d a e k
  unfold gStrI at e
  split at e
  · rename_i c0
    obtain ⟨m0, d0⟩ := c0
    obtain ⟨v, t, rfl, h⟩ := argR1 a
    dsimp only at e h
    split at e
    · rename_i i
      split at e
      · rename_i hz
        cases e
        cases (show _ = _ from h)
        exact ⟨i, rfl, hz, sameHeap (K := K) (d := .str (toString i)) (t := [r]) d rfl k⟩
      · cases e
    · cases e
  · cases e
/-- int(text) -/
def gIntS : List Cel → Option Cel
  | [c] => (match c.2 with
    | .str x => (PySem.intText? x).bind fun n => if x.length ≤ 640 then some (.own 0, .int n) else none
    | _ => none)
  | _ => none
theorem ok_intS {K : PySem.W.Frag} : CbOk K (fun xs H Q => ∃ a n, xs = [.str a] ∧ PySem.intText? a = some n ∧ a.length ≤ 640 ∧ Q (.int n) H) gIntS := by
  intro r w H cs vs c Q hr d a e k
  unfold gIntS at e
  split at e
  · rename_i c0
    obtain ⟨m0, d0⟩ := c0
    obtain ⟨v, t, rfl, h⟩ := argR1 a
    dsimp only at e h
    split at e
    · rename_i x
      cases e1 : PySem.intText? x with
      | none => rw [e1] at e; cases e
      | some n =>
        rw [e1] at e
        simp only [Option.bind_some] at e
        split at e
        · rename_i hz
          cases e
          cases (show _ = _ from h)
          exact ⟨x, n, rfl, e1, hz, sameHeap (K := K) (d := .int n) (t := [r]) d rfl k⟩
        · cases e
    · cases e
  · cases e
/-- the place of an item -/
def ixOf (d : D) (ds : List D) : Option Nat := ds.findIdx? fun z => deq z d
def gIndex : Cel → List Cel → Option Cel
  | c, [c'] => (match c.2 with
    | .lst ds => if (dgoodL 63 ds && dgood 64 c'.2) = true then (ixOf c'.2 ds).map fun (j : Nat) => (.own 0, .int (j : Nat)) else none
    | _ => none)
  | _, _ => none
theorem toPyL_get : ∀ {ds : List D} {j : Nat} {d : D}, ds[j]? = some d → (toPyL ds)[j]? = some (toPy d)
  | [], _, _, e => by simp at e
  | d :: ds, 0, _, e => by simp at e; subst e; rfl
  | d :: ds, j + 1, _, e => by
    have := toPyL_get (ds := ds) (j := j) (by simpa using e)
    show (toPy d :: toPyL ds)[j + 1]? = _
    simpa using this
theorem toPyL_len : ∀ {ds : List D}, (toPyL ds).length = ds.length
  | [] => rfl
  | d :: ds => by show (toPy d :: toPyL ds).length = _; simp [toPyL_len (ds := ds)]
theorem ok_index {K : PySem.W.Frag} : MtOk K (rIndexD K) gIndex := by
  intro r w H c0 cs t0 v0 vs c Q hr d h a e k
  unfold gIndex at e
  split at e
  · rename_i c'
    obtain ⟨m0, d0⟩ := c0
    obtain ⟨m1, d1⟩ := c'
    obtain ⟨v, t, rfl, h'⟩ := argR1 a
    dsimp only at e h h'
    split at e
    · rename_i ds
      split at e
      · rename_i hg
        rw [Bool.and_eq_true] at hg
        cases e1 : ixOf d1 ds with
        | none => rw [e1] at e; cases e
        | some j =>
          rw [e1] at e
          cases e
          have hL : dgood 64 (.lst ds) = true := by show (decide (0 < 64) && dgoodL (64 - 1) ds) = true; rw [hg.1]; rfl
          have q1 := Rp.dp (.lst ds) hL h
          have q2 := Rp.dp d1 hg.2 h'
          obtain ⟨p, us, ep, _, _, _⟩ := id h
          unfold ixOf at e1
          rw [List.findIdx?_eq_some_iff_getElem] at e1
          obtain ⟨hj, hz, hn⟩ := e1
          refine ⟨p, v, toPy d1, toPyL ds, j, toPy ds[j], ep, rfl, by rw [← ep]; exact q1, q2, dgood_shaped hL, dgood_shaped hg.2, toPyL_get (List.getElem?_eq_getElem hj), hz, fun m z' hm ez => ?_, sameHeap' (K := K) (c := (.own 0, .int (j : Nat))) d rfl k⟩
          have hm' : m < ds.length := by omega
          rw [toPyL_get (List.getElem?_eq_getElem hm')] at ez
          cases ez
          have := hn m hm
          unfold deq at this
          simpa using this
      · cases e
    · cases e
  · cases e
end DL

/-! DL part 31: tables of classes; what holds behind the further computations. -/
namespace DL
open PySem L2
def eTab (tab : List (Str × Str × Bool)) (x c : Str) : Option Bool := (tab.find? fun t => decide (t.1 = x) && decide (t.2.1 = c)).map (·.2.2)
def AllT (P : Str → Str → Bool → Prop) : List (Str × Str × Bool) → Prop
  | [] => True
  | t :: ts => P t.1 t.2.1 t.2.2 ∧ AllT P ts
theorem eTab_all {P : Str → Str → Bool → Prop} : ∀ (tab : List (Str × Str × Bool)), AllT P tab → ∀ x c b, eTab tab x c = some b → P x c b
  | [], _, x, c, b, e => by cases e
  | t :: ts, h, x, c, b, e => by
    unfold eTab at e
    rw [List.find?_cons] at e
    split at e
    · rename_i q
      rw [Bool.and_eq_true] at q
      have q1 := of_decide_eq_true q.1
      have q2 := of_decide_eq_true q.2
      simp at e
      rw [← q1, ← q2, ← e]
      exact h.1
    · exact eTab_all ts h.2 x c b e
/-! ### a name whose structure is handed on -/
def dMove (i : Nat) : Rho → Res Cel := fun ρ => match ρ[i]? with
  | some (some c) => if imm c.2 = true then .ok (.own 0, c.2) ρ else (match c.1 with
    | .lent => .ok c ρ
    | .own 0 => .ok c ρ
    | _ => .ok c (ρ.set i none))
  | _ => .stuck
def mvF (r i : Nat) : Tag → Option Tag
  | [] => none
  | k :: p => if k = i + 1 then some (r :: p) else if k < r then some (k :: p) else none
theorem mvF_i {r i : Nat} {p : Tag} : mvF r i ((i + 1) :: p) = some (r :: p) := if_pos rfl
theorem mvF_k {r i k : Nat} {p : Tag} (h : k ≠ i + 1) (h2 : k < r) : mvF r i (k :: p) = some (k :: p) := by
  show (if k = i + 1 then _ else _) = _
  rw [if_neg h, if_pos h2]
theorem mvF_cases {r i : Nat} {t t' : Tag} (e : mvF r i t = some t') : (∃ p, t = (i + 1) :: p ∧ t' = r :: p) ∨ ∃ k p, t = k :: p ∧ k ≠ i + 1 ∧ k < r ∧ t' = t := by
  cases t with
  | nil => cases e
  | cons k p =>
    have e : (if k = i + 1 then some (r :: p) else if k < r then some (k :: p) else none) = some t' := e
    by_cases z : k = i + 1
    · rw [if_pos z] at e; cases e; exact .inl ⟨p, by rw [z], rfl⟩
    · rw [if_neg z] at e
      by_cases y : k < r
      · rw [if_pos y] at e; cases e; exact .inr ⟨k, p, rfl, z, y, rfl⟩
      · rw [if_neg y] at e; cases e
section
variable {X : Cx} {W : WX}
theorem de_move (i : Nat) {x : Str} {pos : Pos} (hN : X.N[i]? = some x := by rfl) (hv : Vis X.env.scope x := by first | exact Or.inl rfl | exact Or.inr (Or.inl rfl) | exact Or.inr (Or.inr rfl)) (hd : (x == ("__debug__" : Str)) = false := by decide)
    (hcd : (x == ("__classdict__" : Str)) = false := by decide) : DE X W [i] .tmp (.Name x pos) (dMove i) := by
  refine ⟨_, pe_var hN hv hd hcd, fun r w H σ ρ Q hr s g => ?_⟩
  unfold dMove at g
  split at g
  · rename_i c e
    obtain ⟨v, h1, h2⟩ := s.slot i c e
    have hiN := s.lt e
    refine ⟨v, h1, ?_⟩
    by_cases hi : imm c.2 = true
    · rw [if_pos hi] at g
      exact g w H v [r] (s.up (Nat.le_succ _)) rfl (Rp.imm ⟨fun _ _ x => x, fun _ _ _ x => x⟩ _ hi h2) Stp.refl
    · rw [if_neg hi] at g
      have move : c.1 ≠ .lent → GoodE X W [i] .tmp r w H σ Q (.ok c (ρ.set i none)) → Q v H := fun hl g => by
        have hfl : ∀ p, mvF r i (0 :: p) = none ∨ ∃ q, mvF r i (0 :: p) = some (0 :: q) := fun p => .inr ⟨p, mvF_k (by omega) (by omega)⟩
        refine g (bindO w (mvF r i)) H v [r] ⟨s.ls, by rw [List.length_set]; exact s.lr, fun a t ea => ?_, fun j c' ec => ?_⟩ rfl (Rp.move (t := [i + 1]) hfl (fun p => mvF_i) h2) (Stp.bindO (fun k p hk => ?_) fun t k p hk et => ?_)
        · cases z : w a with
          | none => rw [bindO_none z] at ea; cases ea
          | some t' =>
            rw [bindO_some z] at ea
            refine ⟨(s.dom a t' z).1, ?_⟩
            rcases mvF_cases ea with ⟨p, _, e2⟩ | ⟨k, p, e1, _, h2, e2⟩
            · exact ⟨r, p, e2, by omega⟩
            · exact ⟨k, p, by rw [e2, e1], by omega⟩
        · have hj : j ≠ i := fun z => by
            subst z
            rw [List.getElem?_set] at ec
            simp at ec
          rw [List.getElem?_set_ne (Ne.symm hj)] at ec
          obtain ⟨u, q1, q2⟩ := s.slot j c' ec
          have := s.lt ec
          exact ⟨u, q1, Rp.move (t := [j + 1]) hfl (fun p => mvF_k (by omega) (by omega)) q2⟩
        · exact mvF_k (hk.2 i List.mem_cons_self) hk.1
        · rcases mvF_cases et with ⟨p', e1, e2⟩ | ⟨k', p', e1, _, _, e2⟩
          · cases e2; have := hk.1; omega
          · exact e2.symm
      have stay : (c.1 = .lent ∨ c.1 = .own 0) → GoodE X W [i] .tmp r w H σ Q (.ok c ρ) → Q v H := fun hl g => by
        refine g w H v [r] (s.up (Nat.le_succ _)) rfl (Rp.retagF ?_ h2) Stp.refl
        rcases hl with h | h <;> rw [h] <;> trivial
      split at g
      · rename_i q; exact stay (.inl q) g
      · rename_i q; exact stay (.inr q) g
      · rename_i q _; exact move q g
  · exact g.elim
end
section
variable {α : Type} {ρ : Rho} {X : XP} {K : Post}
def mvO (i : Nat) (c : Cel) (ρ : Rho) : Cel × Rho := if imm c.2 = true then ((.own 0, c.2), ρ) else (match c.1 with
    | .lent => (c, ρ)
    | .own 0 => (c, ρ)
    | _ => (c, ρ.set i none))
@[simp] theorem mvO_int {i : Nat} {m : Md} {j : Int} : mvO i (m, .int j) ρ = ((.own 0, .int j), ρ) := rfl
@[simp] theorem mvO_str {i : Nat} {m : Md} {j : Str} : mvO i (m, .str j) ρ = ((.own 0, .str j), ρ) := rfl
@[simp] theorem mvO_bl {i : Nat} {m : Md} {j : Bool} : mvO i (m, .bl j) ρ = ((.own 0, .bl j), ρ) := rfl
@[simp] theorem mvO_non {i : Nat} {m : Md} : mvO i (m, .non) ρ = ((.own 0, .non), ρ) := rfl
@[simp] theorem mvO_all {i : Nat} {ds : List D} : mvO i (.all, .lst ds) ρ = ((.all, .lst ds), ρ.set i none) := rfl
@[simp] theorem mvO_own {i n : Nat} {ds : List D} : mvO i (.own (n + 1), .lst ds) ρ = ((.own (n + 1), .lst ds), ρ.set i none) := rfl
@[simp] theorem mvO_one {i : Nat} {ds : List D} : mvO i (.own 1, .lst ds) ρ = ((.own 1, .lst ds), ρ.set i none) := rfl
@[simp] theorem mvO_own0 {i : Nat} {d : D} : mvO i (.own 0, d) ρ = ((.own 0, d), ρ) := by unfold mvO; split <;> rfl
@[simp] theorem mvO_lent {i : Nat} {ds : List D} : mvO i (.lent, .lst ds) ρ = ((.lent, .lst ds), ρ) := rfl
theorem mvO_imm {i : Nat} {m : Md} {d : D} (h : imm d = true) : mvO i (m, d) ρ = ((.own 0, d), ρ) := if_pos h
@[simp] theorem w_move {i : Nat} {Q : Cel → Rho → Prop} : @wE _ (dMove i ρ) ⟨Q⟩ ⟨X⟩ = @sE ρ i ⟨fun c => Q (mvO i c ρ).1 (mvO i c ρ).2⟩ := by
  show P0.wE _ _ _ = P0.sE _ _ _
  unfold dMove P0.sE mvO
  cases e : ρ[i]? with
  | none => simp [P0.wE]
  | some c =>
    cases c with
    | none => simp [P0.wE]
    | some c =>
      obtain ⟨m, d⟩ := c
      by_cases h : imm d = true
      · simp [h, P0.wE]
      · cases m with
        | lent => simp [h, P0.wE]
        | all => simp [h, P0.wE]
        | own n => cases n <;> simp [h, P0.wE]
theorem w_call0 {F : Rho → Res Cel} {Q : Cel → Rho → Prop} (h : @wE _ (F []) ⟨fun c _ => Q c ρ⟩ ⟨fun _ _ => False⟩) : @wE _ (dCall0 F ρ) ⟨Q⟩ ⟨X⟩ := by
  show P0.wE _ _ _
  have h : P0.wE (F []) (fun c _ => Q c ρ) (fun _ _ => False) := h
  unfold dCall0
  cases e : F [] with
  | stuck => rw [e] at h; exact h.elim
  | exc x e' => rw [e] at h; exact h.elim
  | ok c e' => rw [e] at h; exact h
@[simp] theorem w_raise {x : Str} : @wS (dsRaise x ρ) K = K.ex ⟨x, []⟩ ρ := rfl
/-- what a caught error leads to -/
def catchK (sub : Str → Option Bool) (i : Nat) (fs : Addr → Exn → Rho → SR) (K : Post) (x : Exn) (e : Rho) : Prop := match sub x.cls with
  | none => False
  | some false => K.ex x e
  | some true => ∃ z, (∀ a, @wS (fs a x (e.set i (some (.own 0, .adr a)))) ⟨fun e' => z = .nx (e'.set i none), fun c e' => z = .rt c (e'.set i none), fun e' => z = .bk (e'.set i none), fun e' => z = .ct (e'.set i none), fun _ _ => False⟩) ∧ @wS z K
theorem w_try {sub : Str → Option Bool} {i : Nat} {f : Rho → SR} {fs : Addr → Exn → Rho → SR} (h : @wS (f ρ) ⟨K.nx, K.rt, K.bk, K.ct, catchK sub i fs K⟩) : @wS (dsTry sub i f fs ρ) K := by
  have h : P0.wS (f ρ) ⟨K.nx, K.rt, K.bk, K.ct, catchK sub i fs K⟩ := h
  show P0.wS _ K.p
  unfold dsTry
  cases e : f ρ with
  | stuck => rw [e] at h; exact h.elim
  | nx e' => rw [e] at h; exact h
  | bk e' => rw [e] at h; exact h
  | ct e' => rw [e] at h; exact h
  | rt c e' => rw [e] at h; exact h
  | exc x e' =>
    rw [e] at h
    have h : catchK sub i fs K x e' := h
    unfold catchK at h
    show P0.wS (match sub x.cls with
      | none => .stuck
      | some false => .exc x e'
      | some true => catchS i fs x e') K.p
    cases e2 : sub x.cls with
    | none => rw [e2] at h; exact h.elim
    | some b =>
      rw [e2] at h
      cases b with
      | false => exact h
      | true =>
        obtain ⟨z, h1, h2⟩ := h
        have : catchS i fs x e' = z := catchS_eq fun a => by
          have q := h1 a
          have q : P0.wS (fs a x (e'.set i (some (.own 0, .adr a)))) ⟨fun e' => z = .nx (e'.set i none), fun c e' => z = .rt c (e'.set i none), fun e' => z = .bk (e'.set i none), fun e' => z = .ct (e'.set i none), fun _ _ => False⟩ := q
          cases e3 : fs a x (e'.set i (some (.own 0, .adr a))) with
          | stuck => rw [e3] at q; exact q.elim
          | exc x e => rw [e3] at q; exact q.elim
          | nx e => rw [e3] at q; exact (show z = _ from q).symm
          | bk e => rw [e3] at q; exact (show z = _ from q).symm
          | ct e => rw [e3] at q; exact (show z = _ from q).symm
          | rt c e => rw [e3] at q; exact (show z = _ from q).symm
        show P0.wS (catchS i fs x e') K.p
        rw [this]
        exact h2
@[simp] theorem gBls_eq {f : List Bool → Bool} {m : Md} {ds : List D} : gBls f [(m, .lst ds)] = (allBl ds).map fun bs => (.own 0, .bl (f bs)) := rfl
@[simp] theorem allBl_nil : allBl [] = some [] := rfl
@[simp] theorem allBl_cons {b : Bool} {ds : List D} : allBl (.bl b :: ds) = (allBl ds).map (b :: ·) := rfl
@[simp] theorem w_isE {i : Nat} {a : Addr} {b : Option Bool} {Q : Bool → Rho → Prop} : @wE _ (dIsE i a b ρ) ⟨Q⟩ ⟨X⟩ = @sE ρ i ⟨fun c => (match c.2 with
    | .adr a' => a' = a ∧ (@oE _ b ⟨fun b => Q b ρ⟩)
    | _ => False)⟩ := by
  show P0.wE _ _ _ = P0.sE _ _ _
  unfold dIsE P0.sE
  cases e : ρ[i]? with
  | none => simp [P0.wE, e]
  | some c => 
    cases c with
    | none => simp [P0.wE, e]
    | some c =>
      obtain ⟨m, d⟩ := c
      cases d with
      | adr a' => 
        by_cases q : a' = a
        · subst q
          cases b with
          | none => simp [P0.wE, e, oE, P0.oE]
          | some b => simp [P0.wE, e, oE, P0.oE]
        · simp [P0.wE, e, q]
      | _ => simp [P0.wE, e]
end
end DL

/-! DL part 32: texts split and joined; places of a loop. -/
namespace DL
open PySem L2
def splitF (c : Nat) (ws : List (List Nat)) (x : Nat) : List (List Nat) := if x = c then ws ++ [[]] else ws.dropLast ++ [(ws.getLast?.getD []) ++ [x]]
def splitL (c : Nat) (l : List Nat) : List (List Nat) := l.foldl (splitF c) [[]]
def joinL (c : Nat) : List (List Nat) → List Nat
  | [] => []
  | [x] => x
  | x :: y :: r => x ++ c :: joinL c (y :: r)
theorem splitL_snoc {c : Nat} {l : List Nat} {x : Nat} : splitL c (l ++ [x]) = splitF c (splitL c l) x := by unfold splitL; rw [List.foldl_append]; rfl
theorem splitF_ne {c : Nat} {ws : List (List Nat)} {x : Nat} : splitF c ws x ≠ [] := by unfold splitF; split <;> simp
theorem splitL_ne {c : Nat} {l : List Nat} : splitL c l ≠ [] := by
  rcases List.eq_nil_or_concat l with h | ⟨l', x, h⟩
  · subst h; exact fun z => by cases z
  · subst h; rw [List.concat_eq_append, splitL_snoc]; exact splitF_ne
theorem joinL_snoc {c : Nat} {y : List Nat} : ∀ {ws : List (List Nat)}, ws ≠ [] → joinL c (ws ++ [y]) = joinL c ws ++ c :: y
  | [x], _ => rfl
  | x :: z :: r, _ => by
    show x ++ c :: joinL c ((z :: r) ++ [y]) = (x ++ c :: joinL c (z :: r)) ++ c :: y
    rw [joinL_snoc (ws := z :: r) (by simp)]; simp
theorem joinL_last {c : Nat} {y z : List Nat} : ∀ {ws : List (List Nat)}, joinL c (ws ++ [y ++ z]) = joinL c (ws ++ [y]) ++ z
  | [] => rfl
  | x :: r => by
    have h := joinL_last (c := c) (y := y) (z := z) (ws := r)
    cases r with
    | nil => show x ++ c :: joinL c [y ++ z] = (x ++ c :: joinL c [y]) ++ z; simp [joinL]
    | cons w r =>
      show x ++ c :: joinL c ((w :: r) ++ [y ++ z]) = (x ++ c :: joinL c ((w :: r) ++ [y])) ++ z
      rw [h]; simp
theorem drop_last {α : Type} {ws : List α} (h : ws ≠ []) (d : α) : ws.dropLast ++ [ws.getLast?.getD d] = ws := by
  rw [List.getLast?_eq_some_getLast h]
  exact List.dropLast_concat_getLast h
theorem join_splitL {c : Nat} (l : List Nat) : joinL c (splitL c l) = l := by
  suffices h : ∀ n, ∀ l : List Nat, l.length = n → joinL c (splitL c l) = l from h _ l rfl
  intro n
  induction n with
  | zero => intro l hl; rw [List.length_eq_zero_iff.mp hl]; rfl
  | succ n ih =>
    intro l hl
    rcases List.eq_nil_or_concat l with h | ⟨l', x, h⟩
    · subst h; simp at hl
    · subst h
      rw [List.concat_eq_append] at hl ⊢
      have e := ih l' (by simp at hl; omega)
      rw [splitL_snoc]
      unfold splitF
      split
      · rename_i hx; rw [joinL_snoc splitL_ne, e, hx]
      · rw [joinL_last, drop_last splitL_ne, e]
theorem splitL_free {c : Nat} (l : List Nat) : ∀ w ∈ splitL c l, c ∉ w := by
  suffices h : ∀ n, ∀ l : List Nat, l.length = n → ∀ w ∈ splitL c l, c ∉ w from h _ l rfl
  intro n
  induction n with
  | zero => intro l hl w hw; rw [List.length_eq_zero_iff.mp hl] at hw; have : w = [] := by simpa [splitL] using hw
            subst this; simp
  | succ n ih =>
    intro l hl w hw
    rcases List.eq_nil_or_concat l with h | ⟨l', x, h⟩
    · subst h; simp at hl
    · subst h
      rw [List.concat_eq_append] at hl hw
      have e := ih l' (by simp at hl; omega)
      rw [splitL_snoc] at hw
      unfold splitF at hw
      split at hw
      · rcases List.mem_append.mp hw with hw | hw
        · exact e w hw
        · rw [List.mem_singleton.mp hw]; simp
      · rename_i hx
        rcases List.mem_append.mp hw with hw | hw
        · exact e w ((List.dropLast_sublist _).subset hw)
        · rw [List.mem_singleton.mp hw]
          rw [List.getLast?_eq_some_getLast splitL_ne]
          have := e _ (List.getLast_mem splitL_ne)
          simp only [Option.getD_some, List.mem_append, List.mem_singleton, not_or]
          exact ⟨this, fun z => hx z.symm⟩
theorem free_cut {c : Nat} : ∀ {x x' a a' : List Nat}, c ∉ x → c ∉ x' → x ++ c :: a = x' ++ c :: a' → x = x' ∧ a = a'
  | [], [], _, _, _, _, h => ⟨rfl, by simpa using h⟩
  | [], y :: x', _, _, _, h2, h => by simp at h; exact (h2 (by rw [h.1]; simp)).elim
  | y :: x, [], _, _, h1, _, h => by simp at h; exact (h1 (by rw [h.1]; simp)).elim
  | y :: x, z :: x', a, a', h1, h2, h => by
    simp at h h1 h2
    obtain ⟨q1, q2⟩ := free_cut (c := c) (x := x) (x' := x') h1.2 h2.2 h.2
    exact ⟨by rw [h.1, q1], q2⟩
theorem joinL_inj {c : Nat} : ∀ {ws vs : List (List Nat)}, ws ≠ [] → vs ≠ [] → (∀ w ∈ ws, c ∉ w) → (∀ w ∈ vs, c ∉ w) → joinL c ws = joinL c vs → ws = vs
  | [x], [y], _, _, _, _, h => by rw [show x = y from h]
  | [x], y :: y2 :: r, _, _, h1, _, h => by
    have h : x = y ++ c :: joinL c (y2 :: r) := h
    exact (h1 x (by simp) (by rw [h]; simp)).elim
  | x :: x2 :: r, [y], _, _, _, h2, h => by
    have h : x ++ c :: joinL c (x2 :: r) = y := h
    exact (h2 y (by simp) (by rw [← h]; simp)).elim
  | x :: x2 :: r, y :: y2 :: r', _, _, h1, h2, h => by
    have h : x ++ c :: joinL c (x2 :: r) = y ++ c :: joinL c (y2 :: r') := h
    obtain ⟨q1, q2⟩ := free_cut (h1 x (by simp)) (h2 y (by simp)) h
    have := joinL_inj (ws := x2 :: r) (vs := y2 :: r') (by simp) (by simp) (fun w hw => h1 w (List.mem_cons_of_mem _ hw)) (fun w hw => h2 w (List.mem_cons_of_mem _ hw)) q2
    rw [q1, this]
/-- a text's signs -/
abbrev L (x : Str) : List Nat := x.cps.toList
@[simp] theorem L_S {l : List Nat} : L (S l) = l := by simp [S]
@[simp] theorem S_L {x : Str} : S (L x) = x := (S_of x).symm
theorem join_L {c : Nat} : ∀ (zs : List Str), L (Str.join (S [c]) zs) = joinL c (zs.map L)
  | [] => rfl
  | [x] => rfl
  | x :: y :: r => by
    show L (x ++ S [c] ++ Str.join (S [c]) (y :: r)) = L x ++ c :: joinL c ((y :: r).map L)
    rw [← join_L (y :: r)]
    have : ∀ a b : Str, L (a ++ b) = L a ++ L b := fun a b => by rw [S_of a, S_of b, S_add]; simp
    rw [this, this, L_S]; simp
theorem join_S {c : Nat} {ws : List (List Nat)} : Txt.join (S [c]) (ws.map S) = S (joinL c ws) := by
  show Builtin.Str.glued _ _ = _
  rw [StrLaws.glued_eq_join, S_of (Str.join _ _)]
  show S (L _) = _
  rw [join_L, List.map_map]
  congr 2
  exact List.map_id'' (fun l => L_S) ws
theorem split_S {c : Nat} {l : List Nat} : Txt.split (S l) (S [c]) = (splitL c l).map S := by
  have h1 : Str.join (S [c]) (Txt.split (S l) (S [c])) = S l := StrLaws.join_split (S l) (S [c])
  have h2 := StrLaws.split_free (S l) c
  have h3 : Txt.split (S l) (S [c]) ≠ [] := by
    have := PyProof.Rows.split_pos (S l) (S [c])
    intro z; rw [z] at this; simp at this
  have e1 := congrArg L h1
  rw [join_L, L_S] at e1
  have e : (Txt.split (S l) (S [c])).map L = splitL c l := by
    refine joinL_inj (by simpa using h3) splitL_ne (fun w hw => ?_) (splitL_free l) (by rw [e1, join_splitL])
    obtain ⟨z, hz, rfl⟩ := List.mem_map.mp hw
    exact h2 z hz
  rw [← e, List.map_map]
  have : (S ∘ L) = id := funext fun x => S_L
  rw [this, List.map_id]
theorem splitL_sum {c : Nat} (l : List Nat) : ((splitL c l).map (·.length)).sum ≤ l.length ∧ (splitL c l).length ≤ l.length + 1 := by
  have key : ∀ ws : List (List Nat), ws ≠ [] → (ws.map (·.length)).sum + ws.length = (joinL c ws).length + 1 := by
    intro ws
    induction ws with
    | nil => intro h; exact (h rfl).elim
    | cons x r ih =>
      intro _
      cases r with
      | nil => simp [joinL]
      | cons y r => have := ih (by simp); simp [joinL] at this ⊢; omega
  have h := key (splitL c l) splitL_ne
  rw [join_splitL] at h
  have : 0 < (splitL c l).length := List.length_pos_iff.mpr splitL_ne
  omega
theorem splitL_le {c : Nat} {l : List Nat} : ∀ w ∈ splitL c l, w.length ≤ l.length ∧ ∀ x ∈ w, x ∈ l := by
  intro w hw
  have key : ∀ ws : List (List Nat), w ∈ ws → w.length ≤ (joinL c ws).length ∧ ∀ x ∈ w, x ∈ joinL c ws := by
    intro ws
    induction ws with
    | nil => intro h; cases h
    | cons x r ih =>
      intro h
      cases r with
      | nil => rw [List.mem_singleton.mp h]; exact ⟨Nat.le_refl _, fun x hx => hx⟩
      | cons y r =>
        show w.length ≤ (x ++ c :: joinL c (y :: r)).length ∧ ∀ z ∈ w, z ∈ x ++ c :: joinL c (y :: r)
        rcases List.mem_cons.mp h with h | h
        · subst h; refine ⟨by simp, fun z hz => by simp [hz]⟩
        · have := ih h; refine ⟨by simp; omega, fun z hz => by simp [this.2 z hz]⟩
  have := key _ hw
  rw [join_splitL] at this
  exact this
/-! ### in -/
theorem gInA_sign {c : Nat} {cs : List Nat} : gInA (.str (S [c])) (.str (S cs)) = some (decide (c ∈ cs)) := by
  show (gInFlat id _ _).orElse _ = _
  show gIn (.str (S [c])) (.str (S cs)) = _
  unfold gIn
  simp [S]
  exact decide_eq_decide.mpr Iff.rfl
theorem gNotInA_sign {c : Nat} {cs : List Nat} : gNotInA (.str (S [c])) (.str (S cs)) = some (!decide (c ∈ cs)) := by
  show (gIn (.str (S [c])) (.str (S cs))).map _ = _
  have : gIn (.str (S [c])) (.str (S cs)) = some (decide (c ∈ cs)) := gInA_sign
  rw [this]; rfl
/-- a text sign by sign -/
theorem strItems_S {l : List Nat} : strItems (S l) = l.map fun c => .str (S [c]) := by
  unfold strItems
  rw [show (S l).cps.toList = l from L_S]; rfl
@[simp] theorem seqOf_S {m : Md} {l : List Nat} : seqOf (m, .str (S l)) = some (.own 0, l.map fun c => .str (S [c])) := by
  show some (Md.own 0, strItems (S l)) = _
  rw [strItems_S]
/-! ### join, split of data -/
theorem allStr_map {ws : List (List Nat)} : allStr (ws.map fun w => .str (S w)) = some (ws.map S) := by
  induction ws with
  | nil => rfl
  | cons w ws ih => show (allStr (ws.map _)).map _ = _; rw [ih]; rfl
theorem gJoin_S {c : Nat} {m m2 : Md} {ws : List (List Nat)} (h : (ws.map (·.length)).sum + ws.length ≤ 16777216) : gJoin (m, .str (S [c])) [(m2, .lst (ws.map fun w => .str (S w)))] = some (.own 0, .str (S (joinL c ws))) := by
  show joinO (S [c]) (allStr _) = _
  rw [allStr_map]
  unfold joinO
  have : ((ws.map S).map (·.length)).sum = (ws.map (·.length)).sum := by simp [List.map_map, Function.comp_def]
  simp only [Option.bind_some]
  rw [if_pos (by rw [this]; simp; omega), join_S]
theorem gSplit_S {c : Nat} {m m2 : Md} {l : List Nat} (h : l.length + 2 ≤ 16777216) : gSplit (m, .str (S l)) [(m2, .str (S [c]))] = some (.own 1, .lst ((splitL c l).map fun w => .str (S w))) := by
  show (if ((S [c]).length == 0) = false ∧ (S l).length + 2 ≤ sizeLine then some (Md.own 1, D.lst (strsD (Txt.split (S l) (S [c])))) else none) = _
  rw [if_pos ⟨by simp, by rw [sz]; simpa using h⟩, split_S]
  show some (Md.own 1, D.lst (((splitL c l).map S).map .str)) = _
  rw [List.map_map]; rfl
end DL

/-! DL part 33: loops by what they change; written texts; the tape. -/
namespace DL
open PySem L2
/-! ### slots that change -/
def upds (ρ : Rho) : List (Nat × Option Cel) → Rho
  | [] => ρ
  | u :: us => upds (ρ.set u.1 u.2) us
@[simp] theorem upds_nil {ρ : Rho} : upds ρ [] = ρ := rfl
@[simp] theorem upds_cons {ρ : Rho} {u : Nat × Option Cel} {us : List (Nat × Option Cel)} : upds ρ (u :: us) = upds (ρ.set u.1 u.2) us := rfl
section
variable {md : Md} {g : Cel → Rho → Option Rho} {body : Rho → SR} {ρ : Rho} {K : Post} {σ : Type}
/-- over data of one kind; E: the slots that change, by what is known; P: what holds -/
theorem for_mapU {τ : Type} {en : τ → D} {xs : List τ} (E : σ → List (Nat × Option Cel)) (P : List τ → σ → Prop) (s0 : σ) (hu : upds ρ (E s0) = ρ) (h0 : P [] s0)
    (step : ∀ done x rest s, xs = done ++ x :: rest → P done s → (@oE _ (itCel md (en x)) ⟨(fun c => (@oE _ (g c (upds ρ (E s))) ⟨(fun ρ1 => (@wS (body ρ1) ⟨fun e => (@Hd ⟨(∃ s', e = upds ρ (E s') ∧ P (done ++ [x]) s')⟩), K.rt, K.nx, fun e => (@Hd ⟨(∃ s', e = upds ρ (E s') ∧ P (done ++ [x]) s')⟩), K.ex⟩))⟩))⟩))
    (hd : ∀ s, P xs s → K.nx (upds ρ (E s))) : (@wS (forD md g body (xs.map en) ρ) K) := by
  refine for_map (fun done e => (@Hd ⟨(∃ s', e = upds ρ (E s') ∧ P done s')⟩)) (Hd.i ⟨s0, hu.symm, h0⟩) (fun done x rest e hx h => ?_) fun e h => ?_
  · obtain ⟨s, rfl, hp⟩ := h.o
    exact step done x rest s hx hp
  · obtain ⟨s, rfl, hp⟩ := h.o
    exact hd s hp
theorem for_rngU {n : Nat} (E : σ → List (Nat × Option Cel)) (P : Nat → σ → Prop) (s0 : σ) (hu : upds ρ (E s0) = ρ) (h0 : P 0 s0)
    (step : ∀ k s, k < n → P k s → (@oE _ (g (.own 0, .int (k : Nat)) (upds ρ (E s))) ⟨(fun ρ1 => (@wS (body ρ1) ⟨fun e => (@Hd ⟨(∃ s', e = upds ρ (E s') ∧ P (k + 1) s')⟩), K.rt, K.nx, fun e => (@Hd ⟨(∃ s', e = upds ρ (E s') ∧ P (k + 1) s')⟩), K.ex⟩))⟩))
    (hd : ∀ s, P n s → K.nx (upds ρ (E s))) : (@wS (forD md g body ((List.range n).map fun k => .int ((k : Nat) : Int)) ρ) K) := by
  refine for_rng0 (fun k e => (@Hd ⟨(∃ s', e = upds ρ (E s') ∧ P k s')⟩)) (Hd.i ⟨s0, hu.symm, h0⟩) (fun k e hk h => ?_) fun e h => ?_
  · obtain ⟨s, rfl, hp⟩ := h.o
    exact step k s hk hp
  · obtain ⟨s, rfl, hp⟩ := h.o
    exact hd s hp
end
section
variable {md : Md} {g : Cel → Rho → Option Rho} {ts : Rho → Res Bool} {fe : Rho → Res Cel} {own : List Nat} {ρ0 ρ : Rho} {Q : Cel → Rho → Prop} {X : XP} {σ : Type}
/-- comprehensions: E as above; the items so far: A -/
theorem lc_mapU {τ : Type} {en : τ → D} {xs : List τ} (E : σ → List (Nat × Option Cel)) (P : List τ → List D → σ → Prop) (s0 : σ) (hu : upds ρ (E s0) = ρ) (h0 : P [] [] s0)
    (step : ∀ done x rest acc s, xs = done ++ x :: rest → P done acc s → (@oE _ (itCel md (en x)) ⟨(fun c => (@oE _ (g c (wipeR (upds ρ (E s)) own)) ⟨(fun ρ1 => (@wE _ (ts ρ1) ⟨(fun b ρ2 => (@cE b ⟨fun _ => ((@wE _ (fe ρ2) ⟨(fun c ρ3 => (@oE _ (appMd .all acc c) ⟨(fun m' => (@nE (m' = .all ∧ acc.length < sizeLine) ⟨fun _ => ((@Hd ⟨(∃ s', ρ3 = upds ρ (E s') ∧ P (done ++ [x]) (acc ++ [c.2]) s')⟩))⟩))⟩))⟩ ⟨(fun _ _ => False)⟩))⟩ ⟨fun _ => ((@Hd ⟨(∃ s', ρ2 = upds ρ (E s') ∧ P (done ++ [x]) acc s')⟩))⟩))⟩ ⟨(fun _ _ => False)⟩))⟩))⟩))
    (hd : ∀ acc s, P xs acc s → Q (.all, .lst acc) (backR ρ0 (upds ρ (E s)) own)) : (@wE _ (lcD md g ts fe own ρ0 (xs.map en) .all [] ρ) ⟨Q⟩ ⟨X⟩) := by
  refine lc_map (fun done m acc e => (@Hd ⟨(m = .all ∧ ∃ s', e = upds ρ (E s') ∧ P done acc s')⟩)) (Hd.i ⟨rfl, s0, hu.symm, h0⟩) (fun done x rest m acc e hx h => ?_) fun m acc e h => ?_
  · obtain ⟨rfl, s, rfl, hp⟩ := h.o
    obtain ⟨c, e1, ρ1, e2, h3⟩ := step done x rest acc s hx hp
    refine ⟨c, e1, ρ1, e2, wE.mono h3 (fun b ρ2 h4 => ?_) fun _ _ h => h⟩
    cases b with
    | true =>
      refine wE.mono (show (@wE _ (fe ρ2) ⟨_⟩ ⟨_⟩) from h4) (fun c' ρ3 h5 => ?_) fun _ _ h => h
      obtain ⟨m', e5, ⟨rfl, h6⟩, h7⟩ := h5
      obtain ⟨s', h8, h9⟩ := Hd.o h7
      exact ⟨.all, e5, h6, Hd.i ⟨rfl, s', h8, h9⟩⟩
    | false =>
      obtain ⟨s', h8, h9⟩ := Hd.o h4
      exact Hd.i ⟨rfl, s', h8, h9⟩
  · obtain ⟨rfl, s, rfl, hp⟩ := h.o
    exact hd acc s hp
theorem lc_rngU {n : Nat} (E : σ → List (Nat × Option Cel)) (P : Nat → List D → σ → Prop) (s0 : σ) (hu : upds ρ (E s0) = ρ) (h0 : P 0 [] s0)
    (step : ∀ k acc s, k < n → P k acc s → (@oE _ (g (.own 0, .int (k : Nat)) (wipeR (upds ρ (E s)) own)) ⟨(fun ρ1 => (@wE _ (ts ρ1) ⟨(fun b ρ2 => (@cE b ⟨fun _ => ((@wE _ (fe ρ2) ⟨(fun c ρ3 => (@oE _ (appMd .all acc c) ⟨(fun m' => (@nE (m' = .all ∧ acc.length < sizeLine) ⟨fun _ => ((@Hd ⟨(∃ s', ρ3 = upds ρ (E s') ∧ P (k + 1) (acc ++ [c.2]) s')⟩))⟩))⟩))⟩ ⟨(fun _ _ => False)⟩))⟩ ⟨fun _ => ((@Hd ⟨(∃ s', ρ2 = upds ρ (E s') ∧ P (k + 1) acc s')⟩))⟩))⟩ ⟨(fun _ _ => False)⟩))⟩))
    (hd : ∀ acc s, P n acc s → Q (.all, .lst acc) (backR ρ0 (upds ρ (E s)) own)) : (@wE _ (lcD md g ts fe own ρ0 ((List.range n).map fun k => .int ((k : Nat) : Int)) .all [] ρ) ⟨Q⟩ ⟨X⟩) := by
  refine lc_mapU E (fun done acc s => P done.length acc s) s0 hu h0 (fun done x rest acc s hx h => ?_) fun acc s h => hd acc s (by simpa using h)
  have hk : x = done.length ∧ done.length < n := by
    have h1 : (List.range n)[done.length]? = (done ++ x :: rest)[done.length]? := by rw [hx]
    rw [List.getElem?_append_right (Nat.le_refl _), Nat.sub_self] at h1
    have hl : done.length < n := by
      have := congrArg List.length hx
      simp at this; omega
    rw [List.getElem?_range hl] at h1
    exact ⟨(Option.some.inj h1).symm, hl⟩
  obtain ⟨rfl, hl⟩ := hk
  refine ⟨_, rfl, ?_⟩
  rw [List.length_append, List.length_singleton]
  exact step _ acc s hl h
end
/-! ### written texts -/
theorem ofString_S (s : String) : Str.ofString s = S (s.toList.map Char.toNat) := Str.ofString_eq_toList s
@[simp] theorem strD (s : String) : D.str (Str.ofString s) = D.str (S (s.toList.map Char.toNat)) := by rw [ofString_S]
def AZ : List Nat := (List.range 26).map (· + 97)
def D09 : List Nat := (List.range 10).map (· + 48)
def A09 : List Nat := AZ ++ D09
theorem az : Str.ofString "abcdefghijklmnopqrstuvwxyz" = S AZ := by decide +kernel
@[simp high] theorem azD : D.str (Str.ofString "abcdefghijklmnopqrstuvwxyz") = D.str (S AZ) := by rw [az]
theorem a09 : Str.ofString "abcdefghijklmnopqrstuvwxyz0123456789" = S A09 := by decide +kernel
@[simp high] theorem a09D : D.str (Str.ofString "abcdefghijklmnopqrstuvwxyz0123456789") = D.str (S A09) := by rw [a09]
theorem d09 : Str.ofString "0123456789" = S D09 := by decide +kernel
@[simp high] theorem d09D : D.str (Str.ofString "0123456789") = D.str (S D09) := by rw [d09]
@[simp] theorem AZ_len : AZ.length = 26 := by decide
@[simp] theorem A09_len : A09.length = 36 := by decide
@[simp] theorem D09_len : D09.length = 10 := by decide
theorem AZ_lt : ∀ c ∈ AZ, c < 1114112 := by decide +kernel
theorem A09_lt : ∀ c ∈ A09, c < 1114112 := by decide +kernel
theorem D09_lt : ∀ c ∈ D09, c < 1114112 := by decide +kernel
/-! ### words within bounds -/
def GW (n : Nat) (l : List Nat) : Prop := l.length ≤ n ∧ ∀ c ∈ l, c < 1114112
theorem GW.app {n k : Nat} {a b : List Nat} (h : GW n a) (h2 : GW k b) : GW (n + k) (a ++ b) := ⟨by rw [List.length_append]; have := h.1; have := h2.1; omega, fun c hc => (List.mem_append.mp hc).elim (h.2 c) (h2.2 c)⟩
theorem GW.le {n k : Nat} {a : List Nat} (h : GW n a) (hk : n ≤ k) : GW k a := ⟨Nat.le_trans h.1 hk, h.2⟩
theorem GW.one {c : Nat} (h : c < 1114112) : GW 1 [c] := ⟨Nat.le_refl _, fun x hx => by rw [List.mem_singleton.mp hx]; exact h⟩
theorem GW.nil {n : Nat} : GW n [] := ⟨Nat.zero_le _, fun x hx => (by cases hx)⟩
theorem GW.cut {n : Nat} {a : List Nat} {lo hi : Option Int} (h : GW n a) : GW n (cutL a lo hi) := ⟨Nat.le_trans cut_len h.1, fun c hc => h.2 c (cut_mem hc)⟩
theorem GW.of {n : Nat} {a b : List Nat} (h : ∀ c ∈ a, c ∈ b) (hb : ∀ c ∈ b, c < 1114112) (hl : a.length ≤ n) : GW n a := ⟨hl, fun c hc => hb c (h c hc)⟩
theorem GW.good {n k : Nat} {a : List Nat} (h : GW n a) : dgood k (.str (S a)) = true := dgood_S h.2
theorem sum_le {k : Nat} : ∀ {ws : List (List Nat)}, (∀ w ∈ ws, w.length ≤ k) → (ws.map (·.length)).sum ≤ k * ws.length
  | [], _ => by simp
  | w :: ws, h => by
    have h1 := h w (by simp)
    have h2 := sum_le (ws := ws) fun w hw => h w (List.mem_cons_of_mem _ hw)
    simp [Nat.mul_add] at h2 ⊢; omega
theorem joinL_len {c : Nat} : ∀ {ws : List (List Nat)}, (joinL c ws).length ≤ (ws.map (·.length)).sum + ws.length
  | [] => by simp [joinL]
  | [x] => by simp [joinL]
  | x :: y :: r => by
    have := joinL_len (c := c) (ws := y :: r)
    simp [joinL] at this ⊢; omega
theorem joinL_mem {c : Nat} : ∀ {ws : List (List Nat)} {x : Nat}, x ∈ joinL c ws → x = c ∨ ∃ w ∈ ws, x ∈ w
  | [], x, h => by simp [joinL] at h
  | [w], x, h => .inr ⟨w, by simp, h⟩
  | w :: y :: r, x, h => by
    have h : x ∈ w ++ c :: joinL c (y :: r) := h
    rcases List.mem_append.mp h with h | h
    · exact .inr ⟨w, by simp, h⟩
    · rcases List.mem_cons.mp h with h | h
      · exact .inl h
      · rcases joinL_mem h with h | ⟨v, hv, hx⟩
        · exact .inl h
        · exact .inr ⟨v, List.mem_cons_of_mem _ hv, hx⟩
theorem joinL_GW {c n : Nat} {ws : List (List Nat)} (h : (ws.map (·.length)).sum + ws.length ≤ n) (hc : ∀ w ∈ ws, ∀ x ∈ w, x < 1114112) (hcc : c < 1114112 := by decide) : GW n (joinL c ws) :=
  ⟨Nat.le_trans joinL_len h, fun x hx => (joinL_mem hx).elim (fun e => e ▸ hcc) fun ⟨w, hw, hxw⟩ => hc w hw x hxw⟩
/-! ### the tape -/
structure Tp where
  a : Int
  b : Bool
  x : Int
  y : Int
def Tp.d (t : Tp) : D := .lst [.int t.a, .bl t.b, .int t.x, .int t.y]
@[simp] theorem tp_ret {t : Tp} : retCel (.all, t.d) = some (.all, t.d) := rfl
@[simp] theorem tp_imm {t : Tp} : imm t.d = false := rfl
@[simp] theorem tp_lend {t : Tp} : lendC (.all, t.d) = (.lent, t.d) := rfl
theorem gPow_18 {m m2 : Md} : gPow (m, .int 10) (m2, .int 18) = some (.own 0, .int (10 ^ 18)) := rfl
theorem gIx_frz {ns : List Int} {i : Int} {m m2 : Md} (h0 : 0 ≤ i) (h1 : i < ns.length) : gIx (m, .frz ns) (m2, .int i) = some (0, (.own 0, .int (ns[i.toNat]'(by omega)))) := by
  show (atI ns i).map _ = _
  unfold atI ixN
  rw [if_pos h0, if_pos h1]
  show (ns[i.toNat]?).map _ = _
  rw [List.getElem?_eq_getElem (by omega)]; rfl
@[simp] theorem lstO_imm' {cs : List Cel} (h : cs.all (fun c => imm c.2) = true) (hl : cs.length ≤ 1000) : P0.lstO cs = some (.all, .lst (cs.map (·.2))) := P0.lstO_imm h hl
@[simp] theorem tupO_imm' {cs : List Cel} (h : cs.all (fun c => imm c.2) = true) (hl : cs.length ≤ 1000) : P0.tupO cs = some (.all, .tup (cs.map (·.2))) := P0.tupO_imm h hl
@[simp] theorem lstO_nil : P0.lstO [] = some (.all, .lst []) := rfl
@[simp] theorem wb_none {ps ρ : Rho} : wb [] [] ps ρ = some ρ := by cases ps <;> rfl
section
variable {a b l : List Nat} {m m2 : Md} {i j : Int}
@[simp] theorem gLen_S' (h : l.length ≤ 16777216) : gLen [(m, .str (S l))] = some (.own 0, .int l.length) := gLen_S h
@[simp] theorem gAdd_S' (h : a.length + b.length ≤ 16777216) : gAdd (m, .str (S a)) (m2, .str (S b)) = some (.own 0, .str (S (a ++ b))) := gAdd_S h
@[simp] theorem gSl_S' {lo hi : Option Int} (hz : l.length ≤ 16777216) : gSl (m, .str (S l)) lo hi = some (.own 0, .str (S (cutL l lo hi))) := gSl_S hz
@[simp] theorem gMul_r' (h : -(2 ^ 64) < j ∧ j < 2 ^ 64) : gMul (m, .int i) (m2, .int j) = some (.own 0, .int (i * j)) := gMul_r h
@[simp] theorem gMul_l' (h : -(2 ^ 64) < i ∧ i < 2 ^ 64) : gMul (m, .int i) (m2, .int j) = some (.own 0, .int (i * j)) := gMul_l h
@[simp] theorem gDiv_int' (h : 0 < j ∧ j < 1073741824) : gDiv (m, .int i) (m2, .int j) = some (.own 0, .int (i / j)) := gDiv_int h
@[simp] theorem gMod_int' (h : 0 < j) : gMod (m, .int i) (m2, .int j) = some (.own 0, .int (i % j)) := gMod_int h
@[simp] theorem rng1' {m : Md} {i : Int} (h : 0 ≤ i) (h2 : i ≤ 1000000) : rngOf [(m, .int i)] = some ((List.range i.toNat).map fun k => .int ((k : Nat) : Int)) := rng1 h h2
@[simp] theorem gIx_S' (hz : l.length ≤ 16777216) (h0 : 0 ≤ i) (h1 : i < l.length) : gIx (m, .str (S l)) (m2, .int i) = some (0, (.own 0, .str (S [l[i.toNat]'(by omega)]))) := gIx_S hz h0 h1
@[simp] theorem cut_to' {α : Type} {xs : List α} {v : Int} (h : 0 ≤ v) : cutL xs none (some v) = xs.take v.toNat := cut_to h
@[simp] theorem cut_from' {α : Type} {xs : List α} {v : Int} (h : 0 ≤ v) : cutL xs (some v) none = xs.drop v.toNat := cut_from h
@[simp] theorem truD_S' (hz : l.length ≤ 16777216) : truD (.str (S l)) = some (!l.isEmpty) := truD_S hz
end
@[simp] theorem itCel_eq {m : Md} {d : D} : itCel m d = asVal (m, d) := rfl
@[simp] theorem gIn_sign' {c : Nat} {cs : List Nat} : gInA (.str (S [c])) (.str (S cs)) = some (decide (c ∈ cs)) := gInA_sign
@[simp] theorem gNotIn_sign' {c : Nat} {cs : List Nat} : gNotInA (.str (S [c])) (.str (S cs)) = some (!decide (c ∈ cs)) := gNotInA_sign
@[simp] theorem gIx_last {ds : List D} {d : D} {m m2 : Md} : gIx (m, .lst (ds ++ [d])) (m2, .int (-1)) = some (ds.length, (m.sub, d)) := gIx_lst_neg (k := ds.length) (by simp) (by simp; omega) (by omega)
@[simp] theorem putIt_last {ds : List D} {d : D} {m m2 : Md} {c : Cel} : putIt m (.lst (ds ++ [d])) (m2, .int (-1)) c = (appMd m (ds ++ [d]) c).map fun md => (md, .lst (ds ++ [c.2]), ds.length) := by
  show (ixN (ds ++ [d]).length (-1)).bind _ = _
  have : ixN (ds ++ [d]).length (-1) = some ds.length := by
    unfold ixN
    rw [if_neg (by omega), if_pos (by simp; omega)]
    congr 1; simp; omega
  rw [this]
  simp
@[simp] theorem appMd_ims {m : Md} {ds : List D} {m2 : Md} {x : Str} (hm : m.mut = true) : appMd m ds (m2, .str x) = some m := appMd_imm hm rfl
@[simp] theorem appMd_imi {m : Md} {ds : List D} {m2 : Md} {x : Int} (hm : m.mut = true) : appMd m ds (m2, .int x) = some m := appMd_imm hm rfl
theorem flat0_imm {m : Md} {ds : List D} (h : immL ds = true) : flat0 m ds = true := by unfold flat0; split <;> first | rfl | exact h
theorem flatT_imm {m : Md} {ds : List D} (h : immL ds = true) : flatT m ds = true := by unfold flatT; split <;> first | rfl | exact h
@[simp] theorem gAdd_lst' {m m2 : Md} {a b : List D} (h1 : immL a = true) (h2 : immL b = true) (h : a.length + b.length ≤ 16777216) : gAdd (m, .lst a) (m2, .lst b) = some (.own 1, .lst (a ++ b)) := by
  show (if (flat0 m a && flat0 m2 b) = true ∧ a.length + b.length ≤ sizeLine then some (Md.own 1, D.lst (a ++ b)) else none) = _
  rw [if_pos ⟨by rw [flat0_imm h1, flat0_imm h2]; rfl, by rw [sz]; exact h⟩]
@[simp] theorem gAdd_tup' {m m2 : Md} {a b : List D} (h1 : immL a = true) (h2 : immL b = true) (h : a.length + b.length ≤ 16777216) : gAdd (m, .tup a) (m2, .tup b) = some (.own 0, .tup (a ++ b)) := by
  show (if (flatT m a && flatT m2 b) = true ∧ a.length + b.length ≤ sizeLine then some (Md.own 0, D.tup (a ++ b)) else none) = _
  rw [if_pos ⟨by rw [flatT_imm h1, flatT_imm h2]; rfl, by rw [sz]; exact h⟩]
@[simp] theorem gList_imm {m : Md} {ds : List D} (h : immL ds = true) : gList [(m, .lst ds)] = some (.own 1, .lst ds) := by
  show (if flat0 m ds = true then some (Md.own 1, D.lst ds) else none) = _
  rw [if_pos (flat0_imm h)]
section
variable {K : Post} {c : Cel} {e : Rho} {x : Exn}
@[simp] theorem wS_rt : (@wS (SR.rt c e) K) = K.rt c e := rfl
@[simp] theorem wS_nx : (@wS (SR.nx e) K) = K.nx e := rfl
@[simp] theorem wS_bk : (@wS (SR.bk e) K) = K.bk e := rfl
@[simp] theorem wS_ct : (@wS (SR.ct e) K) = K.ct e := rfl
@[simp] theorem wS_exc : (@wS (SR.exc x e) K) = K.ex x e := rfl
@[simp] theorem tyName_non : tyName .non = "NoneType" := rfl
@[simp] theorem tyName_bl {b : Bool} : tyName (.bl b) = "bool" := rfl
@[simp] theorem tyName_int {b : Int} : tyName (.int b) = "int" := rfl
@[simp] theorem tyName_str {b : Str} : tyName (.str b) = "str" := rfl
@[simp] theorem tyName_tup {b : List D} : tyName (.tup b) = "tuple" := rfl
@[simp] theorem tyName_lst {b : List D} : tyName (.lst b) = "list" := rfl
@[simp] theorem tyName_dK {b : List (Key × D)} : tyName (.dK b) = "dict" := rfl
@[simp] theorem tyName_dT {b : List (List Key × D)} : tyName (.dT b) = "dict" := rfl
@[simp] theorem tyKnown_eq {d : D} : tyKnown d = (tyName d != "") := rfl
@[simp] theorem isiB_eq {a b : String} : isiB a b = (a == b || (a == "bool" && b == "int")) := rfl
@[simp] theorem isNon_non : isNon .non = true := rfl
@[simp] theorem isNon_bl {b : Bool} : isNon (.bl b) = false := rfl
@[simp] theorem isNon_int {b : Int} : isNon (.int b) = false := rfl
@[simp] theorem isNon_str {b : Str} : isNon (.str b) = false := rfl
@[simp] theorem isNon_tup {b : List D} : isNon (.tup b) = false := rfl
@[simp] theorem isNon_lst {b : List D} : isNon (.lst b) = false := rfl
@[simp] theorem isNon_dK {b : List (Key × D)} : isNon (.dK b) = false := rfl
@[simp] theorem isNon_dT {b : List (List Key × D)} : isNon (.dT b) = false := rfl
@[simp] theorem gIsN_eq {d : D} : gIsN d .non = some (isNon d) := rfl
@[simp] theorem gNotN_eq {d : D} : gNotN d .non = some (!isNon d) := rfl
@[simp] theorem gEq_bl {a b : Bool} : gEq (.bl a) (.bl b) = some (a == b) := by cases a <;> cases b <;> rfl
@[simp] theorem gNe_bl {a b : Bool} : gNe (.bl a) (.bl b) = some (!(a == b)) := by cases a <;> cases b <;> rfl
end
theorem rev_imm {k : Nat} {m : Md} {ds : List D} {ρ1 ρ2 : Rho} {c0 : Cel} (hm : m.mut = true) (hi : immL ds = true) (h : ρ1[k]? = some (some c0)) : P0.lmO opRev k m ds [] ρ1 [] ρ2 = some ((.own 0, .non), ρ2.set k (some (m, .lst ds.reverse))) := by
  unfold P0.lmO
  have : flatB m.sub ds = true := by unfold flatB; rw [hi]; rfl
  simp [this, hm, h]
theorem good_en {n : Nat} {ws : List (List Nat)} (h : ∀ w ∈ ws, ∀ c ∈ w, c < 1114112) : dgoodL n (ws.map fun w => .str (S w)) = true := dgoodL_all fun d hd => by
  obtain ⟨w, hw, rfl⟩ := List.mem_map.mp hd
  exact dgood_S (h w hw)
def lendM (m : Md) (d : D) : Md := (lendC (m, d)).1
@[simp low] theorem lendC_eta {m : Md} {d : D} : lendC (m, d) = (lendM m d, d) := by
  unfold lendM lendC
  split
  · rfl
  · simp only
    split <;> rfl
theorem app_imm {k : Nat} {ds : List D} {ρ1 ρ2 : Rho} {m m0 : Md} {d : D} {c0 : Cel} (hm : m0.mut = true) (hd : imm d = true) (h : ds.length < 16777216) (h1 : ρ1[k]? = some (some c0)) : P0.appO k m0 ds [] ρ1 (m, d) ρ2 = some (ρ2.set k (some (m0, .lst (ds ++ [d])))) := by
  unfold P0.appO
  rw [appMd_imm hm (show imm d = true from hd)]
  show (if ds.length < sizeLine then putAt k [] m0 m0 (.lst (ds ++ [d])) ρ1 ρ2 else none) = _
  rw [if_pos (by rw [sz]; exact h), putAt_nil, h1]
theorem immL_map {τ : Type} {f : τ → D} (hf : ∀ x, imm (f x) = true) : ∀ xs : List τ, immL (xs.map f) = true
  | [] => rfl
  | x :: xs => by show (imm (f x) && immL (xs.map f)) = true; rw [hf x, immL_map hf xs]; rfl
abbrev aT (t : Tp) : Option Cel := some (.all, t.d)
abbrev aI (i : Int) : Option Cel := some (.own 0, .int i)
abbrev aS (l : List Nat) : Option Cel := some (.own 0, .str (S l))
abbrev aB (b : Bool) : Option Cel := some (.own 0, .bl b)
abbrev en (l : List Nat) : D := .str (S l)
@[simp] theorem immL_en {ws : List (List Nat)} : immL (ws.map fun w => .str (S w)) = true := immL_map (fun _ => rfl) ws
@[simp] theorem immL_ints {ws : List Int} : immL (ws.map fun w => .int w) = true := immL_map (fun _ => rfl) ws
@[simp] theorem immL_app' {a b : List D} : immL (a ++ b) = (immL a && immL b) := immL_append
end DL

/-! DL part 34: more of dicts: get, setdefault, displays, list, dict; sorted of ints. -/
namespace DL
open PySem L2
def isDct : D → Bool
  | .dK _ => true
  | .dT _ => true
  | _ => false
theorem isDct_ok {K : PySem.W.Frag} {w : Om} {H : Hp} {md : Md} {t : Tag} {d : D} {v : V} (h : isDct d = true) (r : Rp K w H md t d v) : ∃ a, v = .ref a ∧ IsD H a := by
  cases d <;> first | cases h | skip
  · obtain ⟨a, ws, e, _, ob, _⟩ := r; exact ⟨a, e, .inl ⟨ws, .inl ob⟩⟩
  · obtain ⟨a, ws, e, _, ob, _⟩ := r; exact ⟨a, e, .inr ⟨ws, .inl ob⟩⟩
section
variable {X : Cx} {W : WX}
/-- a dict and a key are there -/
theorem twoD {T1 T2 : List Nat} {S1 S2 : Src} {f1 f2 : Rho → Res Cel} {ta tb : TE} {k : Cel → Cel → Rho → Res Cel} {r : Nat} {w : Om} {H : Hp} {σ : St} {ρ : Rho} {Q : VK} {R : V → V → Hp → Prop} (hr : X.N.length < r)
    (hT : ∀ i ∈ T2, i < X.N.length) (hS : S1.lt X.N.length) (off : S1.off T2 = true)
    (A : ∀ r w H σ ρ Q, X.N.length < r → Sat X.K X.N.length r w H σ ρ → GoodE X W T1 S1 r w H σ Q (f1 ρ) → ta σ H Q) (B : ∀ r w H σ ρ Q, X.N.length < r → Sat X.K X.N.length r w H σ ρ → GoodE X W T2 S2 r w H σ Q (f2 ρ) → tb σ H Q)
    (s : Sat X.K X.N.length r w H σ ρ) (g : GoodE X W (T1 ++ T2) .tmp r w H σ Q ((f1 ρ).bind fun c1 ρ1 => if isDct c1.2 = true then (f2 ρ1).bind fun c2 ρ2 => k c1 c2 ρ2 else .stuck))
    (h : ∀ c1 c2 ρ2 w2 H2 v1 v2 t1 t2, GoodE X W (T1 ++ T2) .tmp r w H σ Q (k c1 c2 ρ2) → Sat X.K X.N.length (r + 2) w2 H2 σ ρ2 → Rp X.K w2 H2 c1.1 t1 c1.2 v1 → Rp X.K w2 H2 c2.1 t2 c2.2 v2 → Stp (kpE (T1 ++ T2) r) w H w2 H2 → R v1 v2 H2) :
    ta σ H fun x H1 => ∃ a, x = .ref a ∧ IsD H1 a ∧ tb σ H1 fun y H2 => R x y H2 := by
  refine A r w H σ ρ _ hr s ?_
  cases e1 : f1 ρ with
  | stuck => rw [e1] at g; exact g
  | exc x e' => rw [e1] at g; exact fun w' H' cls da s' xo st => g w' H' cls da s' xo (st.mono fun k h => h.l)
  | ok c1 ρ1 =>
    rw [e1] at g
    have g : GoodE X W (T1 ++ T2) .tmp r w H σ Q (if isDct c1.2 = true then (f2 ρ1).bind fun c2 ρ2 => k c1 c2 ρ2 else .stuck) := g
    by_cases hd : isDct c1.2 = true
    · rw [if_pos hd] at g
      intro w1 H1 v1 t1 s1 o1 h1 st1
      obtain ⟨a, ea, ia⟩ := isDct_ok hd h1
      refine ⟨a, ea, ia, B (r + 1) w1 H1 σ ρ1 _ (by omega) s1 ?_⟩
      have st1' : Stp (kpE (T1 ++ T2) r) w H w1 H1 := st1.mono fun k h => h.l
      cases e2 : f2 ρ1 with
      | stuck => rw [e2] at g; exact g
      | exc x e' => rw [e2] at g; exact fun w' H' cls da s' xo st => excUp hr (Nat.le_succ _) g st1' (fun i hi => List.mem_append_right _ hi) s' xo st
      | ok c2 ρ2 =>
        rw [e2] at g
        intro w2 H2 v2 t2 s2 o2 h2 st2
        obtain ⟨k', p, e, hk⟩ := Src.kept o1 off (Nat.lt_succ_self r) hr (Src.lt_of hS) hT
        subst e
        exact h c1 c2 ρ2 w2 H2 v1 v2 _ t2 g s2 (h1.stp s1.dom st2 (kpE.zero (by omega)) hk) h2 (st1'.trans (st2.mono fun k h => h.rt.up (Nat.le_succ _)))
    · rw [if_neg hd] at g; exact g.elim
/-- what d.get(k) is -/
def getO (c k : Cel) : Option Cel := match dLook c k with
  | none => none
  | some none => some (.own 0, .non)
  | some (some c') => asVal c'
def dGet1 (f1 f2 : Rho → Res Cel) : Rho → Res Cel := fun ρ => (f1 ρ).bind fun c1 ρ1 => if isDct c1.2 = true then (f2 ρ1).bind fun c2 ρ2 => ofO (getO c1 c2) ρ2 else .stuck
theorem de_dget1 {T1 T2 : List Nat} {S1 S2 : Src} {a b : Expr} {f1 f2 : Rho → Res Cel} {apos cpos : Pos} (hu : X.A.units + 1 < cLine) (A : DE X W T1 S1 a f1) (B : DE X W T2 S2 b f2) (hT : ∀ i ∈ T2, i < X.N.length := by exact lt_all rfl) (hS : S1.lt X.N.length := by first | exact trivial | exact ltS rfl) (off : S1.off T2 = true := by rfl)
    (m : M1 X a "get" apos b cpos := by exact ⟨rfl, rfl, rfl, rfl⟩) : DE X W (T1 ++ T2) .tmp (.Call (.Attribute a "get" apos) [b] [] cpos) (dGet1 f1 f2) := by
  obtain ⟨ta, pa, A⟩ := A.ex
  obtain ⟨tb, pb, B⟩ := B.ex
  refine ⟨_, pe_dget1 hu pa pb m, fun r w H σ ρ Q hr s g => ?_⟩
  refine A r w H σ ρ _ hr s ?_
  unfold dGet1 at g
  cases e1 : f1 ρ with
  | stuck => rw [e1] at g; exact g
  | exc x e' => rw [e1] at g; exact fun w' H' cls da s' xo st => g w' H' cls da s' xo (st.mono fun k h => h.l)
  | ok c1 ρ1 =>
    rw [e1] at g
    have g : GoodE X W (T1 ++ T2) .tmp r w H σ Q (if isDct c1.2 = true then (f2 ρ1).bind fun c2 ρ2 => ofO (getO c1 c2) ρ2 else .stuck) := g
    by_cases hd : isDct c1.2 = true
    · rw [if_pos hd] at g
      intro w1 H1 v1 t1 s1 o1 h1 st1
      obtain ⟨a, ea, ia⟩ := isDct_ok hd h1
      refine ⟨a, ea, ia, B (r + 1) w1 H1 σ ρ1 _ (by omega) s1 ?_⟩
      have st1' : Stp (kpE (T1 ++ T2) r) w H w1 H1 := st1.mono fun k h => h.l
      cases e2 : f2 ρ1 with
      | stuck => rw [e2] at g; exact g
      | exc x e' => rw [e2] at g; exact fun w' H' cls da s' xo st => excUp hr (Nat.le_succ _) g st1' (fun i hi => List.mem_append_right _ hi) s' xo st
      | ok c2 ρ2 =>
        rw [e2] at g
        intro w2 H2 v2 t2 s2 o2 h2 st2
        obtain ⟨k', p, e, hk⟩ := Src.kept o1 off (Nat.lt_succ_self r) hr (Src.lt_of hS) hT
        subst e
        have h1' := h1.stp s1.dom st2 (kpE.zero (by omega)) hk
        have st' : Stp (kpE (T1 ++ T2) r) w H w2 H2 := st1'.trans (st2.mono fun k h => h.rt.up (Nat.le_succ _))
        have g : GoodE X W (T1 ++ T2) .tmp r w H σ Q (ofO (getO c1 c2) ρ2) := g
        unfold getO at g
        cases e3 : dLook c1 c2 with
        | none => rw [e3] at g; exact g.elim
        | some o =>
          rw [e3] at g
          obtain ⟨a', ov, e4, _, dg, lr⟩ := dLook_ok h1' h2 e3
          rw [ea] at e4
          cases e4
          refine ⟨ov, dg, ?_⟩
          cases o with
          | none =>
            rw [show ov = none from lr]
            exact opEnd hr (by omega) g s2 st' w2 H2 .non (s2.dom.sub (by omega)) Stp.refl rfl
          | some c' =>
            obtain ⟨v', t', e5, h5⟩ := lr
            subst e5
            have g : GoodE X W (T1 ++ T2) .tmp r w H σ Q (ofO (asVal c') ρ2) := g
            cases e6 : asVal c' with
            | none => rw [e6] at g; exact g.elim
            | some c3 =>
              rw [e6] at g
              exact opEnd hr (by omega) g s2 st' w2 H2 v' (s2.dom.sub (by omega)) Stp.refl (asVal_ok e6 h5)
    · rw [if_neg hd] at g; exact g.elim
end
/-! ### setdefault -/
def sdRes (i : Nat) (m : Md) (kvs : List (Key × D)) (p : Tag) (ρ1 : Rho) (k x : Cel) (ρ2 : Rho) : Res Cel := match keyOf k.2 with
  | none => .stuck
  | some key => if (m.mut && imm x.2) = true ∧ kvs.length < sizeLine then (match itK kvs key with
    | some jd => ofO (asVal (m.sub, jd.2)) ρ2
    | none => (match putAt i p m m (.dK (kvs ++ [(key, x.2)])) ρ1 ρ2 with
      | some ρ3 => .ok (.own 0, x.2) ρ3
      | none => .stuck)) else .stuck
def sdGo (i : Nat) (fk fx : Rho → Res Cel) (cp : Cel × Tag) (ρ1 : Rho) : Res Cel := match cp.1.2 with
  | .dK kvs => (fk ρ1).bind fun k ρ2 => (fx ρ2).bind fun x ρ3 => sdRes i cp.1.1 kvs cp.2 ρ1 k x ρ3
  | _ => .stuck
def dSetd (i : Nat) (fP : Rho → Res (Cel × Tag)) (fk fx : Rho → Res Cel) : Rho → Res Cel := fun ρ => (fP ρ).bind (sdGo i fk fx)
theorem RpK.len {K : PySem.W.Frag} {w : Om} {H : Hp} {md : Md} {t : Tag} {i : Nat} {kvs : List (Key × D)} {ws : List (Key × V)} (h : RpK K w H md t i kvs ws) : ws.length = kvs.length := h.length
section
variable {X : Cx} {W : WX}
theorem de_setd {T1 T2 T3 : List Nat} {i : Nat} {S2 S3 : Src} {o a b : Expr} {fP : Rho → Res (Cel × Tag)} {fk fx : Rho → Res Cel} {apos cpos : Pos} (A : DP X W T1 i o fP) (B : DE X W T2 S2 a fk) (C : DE X W T3 S3 b fx)
    (off : T2.contains i = false := by rfl) (off3 : T3.contains i = false := by rfl) (hT3 : ∀ j ∈ T3, j < X.N.length := by exact lt_all rfl) (hS2 : S2.lt X.N.length := by first | exact trivial | exact ltS rfl) (off2 : S2.off T3 = true := by rfl)
    (m : M2 X o "setdefault" apos a b cpos := by exact ⟨rfl, rfl, rfl, rfl⟩) : DE X W (T1 ++ (T2 ++ (T3 ++ [i]))) .tmp (.Call (.Attribute o "setdefault" apos) [a, b] [] cpos) (dSetd i fP fk fx) := by
  have hi := A.lt
  obtain ⟨ta, pa, A⟩ := A.ex
  obtain ⟨tb, pb, B⟩ := B.ex
  obtain ⟨tc, pc, C⟩ := C.ex
  refine ⟨_, pe_dsetd pa pb pc m, fun r w H σ ρ Q hr s g => A r w H σ ρ _ hr s ?_⟩
  unfold dSetd at g
  have mi : i ∈ T1 ++ (T2 ++ (T3 ++ [i])) := List.mem_append_right _ (List.mem_append_right _ (List.mem_append_right _ List.mem_cons_self))
  cases e1 : fP ρ with
  | stuck => rw [e1] at g; exact g
  | exc x e' => rw [e1] at g; exact fun w' H' cls da s' xo st => g w' H' cls da s' xo (st.mono fun k h => h.l)
  | ok cp ρ1 =>
    obtain ⟨⟨md, d⟩, p⟩ := cp
    rw [e1] at g
    intro w1 H1 v1 s1 p1 st1
    have st1' : Stp (kpE (T1 ++ (T2 ++ (T3 ++ [i]))) r) w H w1 H1 := st1.mono fun k h => h.l
    have g : GoodE X W (T1 ++ (T2 ++ (T3 ++ [i]))) .tmp r w H σ Q (sdGo i fk fx ((md, d), p) ρ1) := g
    cases d with
    | dK kvs =>
      have g : GoodE X W (T1 ++ (T2 ++ (T3 ++ [i]))) .tmp r w H σ Q ((fk ρ1).bind fun k ρ2 => (fx ρ2).bind fun x ρ3 => sdRes i md kvs p ρ1 k x ρ3) := g
      obtain ⟨q0, hq0⟩ := p1.rp
      obtain ⟨a0, ws0, ea0, nd0, ob0, rk0⟩ := hq0
      refine ⟨a0, ea0, .inl ⟨ws0, .inl ob0⟩, B r w1 H1 σ ρ1 _ hr s1 ?_⟩
      cases e2 : fk ρ1 with
      | stuck => rw [e2] at g; exact g
      | exc x e' => rw [e2] at g; exact fun w' H' cls da s' xo st => g w' H' cls da s' xo (st1'.trans (st.mono fun k h => h.rt.l))
      | ok k ρ2 =>
        rw [e2] at g
        intro w2 H2 v2 t2 s2 o2 h2 st2
        have st2' : Stp (kpE (T1 ++ (T2 ++ (T3 ++ [i]))) r) w H w2 H2 := st1'.trans (st2.mono fun k h => h.rt.l)
        refine C (r + 1) w2 H2 σ ρ2 _ (by omega) s2 ?_
        have g : GoodE X W (T1 ++ (T2 ++ (T3 ++ [i]))) .tmp r w H σ Q ((fx ρ2).bind fun x ρ3 => sdRes i md kvs p ρ1 k x ρ3) := g
        cases e3 : fx ρ2 with
        | stuck => rw [e3] at g; exact g
        | exc x e' => rw [e3] at g; exact fun w' H' cls da s' xo st => excUp hr (Nat.le_succ _) g st2' (fun j hj => List.mem_append_right _ (List.mem_append_right _ (List.mem_append_left _ hj))) s' xo st
        | ok x ρ3 =>
          rw [e3] at g
          intro w3 H3 v3 t3 s3 o3 h3 st3
          have st3' : Stp (kpE (T1 ++ (T2 ++ (T3 ++ [i]))) r) w H w3 H3 := st2'.trans (st3.mono fun k h => h.rt.rt.l.up (Nat.le_succ _))
          have g : GoodE X W (T1 ++ (T2 ++ (T3 ++ [i]))) .tmp r w H σ Q (sdRes i md kvs p ρ1 k x ρ3) := g
          unfold sdRes at g
          cases e4 : keyOf k.2 with
          | none => rw [e4] at g; exact g.elim
          | some key =>
            rw [e4] at g
            simp only at g
            split at g
            · rename_i hc
              rw [Bool.and_eq_true] at hc
              obtain ⟨⟨hm, hix⟩, hlen⟩ := hc
              rcases p1 with ⟨c0, v0, ec, ev, ra⟩ | ⟨z, _⟩
              · have ra2 := RA.map (st2.mp s1.dom (kpE.zero (by omega))) p ⟨rfl, rfl, i + 1, [], rfl, off_kpE off (by omega)⟩ ra
                have ra3 := RA.map (st3.mp s2.dom (kpE.zero (by omega))) p ⟨rfl, rfl, i + 1, [], rfl, off_kpE off3 (by omega)⟩ ra2
                obtain ⟨b, ws, eb, nd, ob, rk⟩ := RA.rp p ra3
                rw [ea0] at eb
                cases eb
                have ek := keyOf_kV e4 h2
                subst ek
                obtain ⟨kk, pp, et2, hk2⟩ := Src.kept o2 off2 (Nat.lt_succ_self r) hr (Src.lt_of hS2) hT3
                refine ⟨ws, key, ob, rfl, by rw [rk.len]; exact hlen, fun v hv => ?_, fun hv => ?_⟩
                · cases e5 : itK kvs key with
                  | none =>
                    have := valV_none (RpK.iffL.mp rk).1 (itK_none e5)
                    rw [this] at hv; cases hv
                  | some jd =>
                    rw [e5] at g
                    simp only at g
                    obtain ⟨q3, k2, q4⟩ := itK_some e5
                    obtain ⟨v', z1, z2, z3⟩ := posK_val rk q3 q4
                    subst z1
                    obtain ⟨v'', y1, y2⟩ := rk.get q4
                    rw [z2] at y1
                    cases y1
                    rw [z3] at hv
                    cases hv
                    cases e6 : asVal (md.sub, jd.2) with
                    | none => rw [e6] at g; exact g.elim
                    | some c3 =>
                      rw [e6] at g
                      exact opEnd hr (by omega) g s3 st3' w3 H3 _ (s3.dom.sub (by omega)) Stp.refl (asVal_ok e6 y2)
                · cases e5 : itK kvs key with
                  | some jd =>
                    obtain ⟨q3, k2, q4⟩ := itK_some e5
                    obtain ⟨v', z1, z2, z3⟩ := posK_val rk q3 q4
                    rw [z3] at hv; cases hv
                  | none =>
                    rw [e5] at g
                    simp only at g
                    cases e6 : putAt i p md md (.dK (kvs ++ [(key, x.2)])) ρ1 ρ3 with
                    | none => rw [e6] at g; exact g.elim
                    | some ρ4 =>
                      rw [e6] at g
                      simp only at g
                      have hb : w3 a0 = some ((i + 1) :: p) := nd.mut hm
                      have hpe := putK_end (v := v3) (RpK.iffL.mp rk).1 (itK_none e5)
                      rw [hpe]
                      have rk' : RpK X.K w3 (upd H3 a0 (.dK (ws ++ [(key, v3)]))) md.sub ((i + 1) :: p) 0 kvs ws := RpK.write rk s3.dom hb (fun _ => slot_tag) fun j p' _ z => by
                        have := congrArg List.length z
                        simp at this
                      have hx' : ∀ md' t', Rp X.K w3 (upd H3 a0 (.dK (ws ++ [(key, v3)]))) md' t' x.2 v3 := fun md' t' => Rp.imm ⟨fun _ _ h => tup_ne s3.dom hb h, fun a o u h => by
                        have : a ≠ a0 := fun z => by rw [z] at h; rw [ob] at h; cases h
                        rw [upd_ne this]; exact h⟩ _ hix h3
                      have hn : Rp X.K w3 (upd H3 a0 (.dK (ws ++ [(key, v3)]))) md ((i + 1) :: p) (.dK (kvs ++ [(key, x.2)])) (.ref a0) := by
                        refine ⟨a0, ws ++ [(key, v3)], rfl, Nd.of_mut hm hb, upd_same, RpK.iffL.mpr ⟨by simp [(RpK.iffL.mp rk').1], ?_⟩⟩
                        rw [List.map_append, List.map_append]
                        exact RpL.append (RpK.iffL.mp rk').2 ⟨v3, [], rfl, hx' _ _, rfl⟩
                      have ev' : σ[i]? = some (some v0) := ev
                      rw [ea0] at ra3
                      obtain ⟨s5, st5⟩ := write_core (T := T1 ++ (T2 ++ (T3 ++ [i]))) (o := .dK (ws ++ [(key, v3)])) s3 (by omega) hi mi ev' ra3 hb trivial hn ec e6
                      exact opEnd hr (by omega) g s5 (st3'.trans (st5.mono fun k h => h.up (by omega))) w3 _ v3 (s5.dom.sub (by omega)) Stp.refl (hx' _ _)
              · exact (show False by cases z).elim
            · exact g.elim
    | _ => exact g.elim
end
end DL

/-! DL part 35: written dicts; list, len, dict of dicts; sorted ints. -/
namespace DL
open PySem L2
def GoodDD (X : Cx) (W : WX) (T : List Nat) (r : Nat) (w : Om) (H : Hp) (σ : St) (Q : List (V × V) → Hp → Prop) : Res (List (Key × Cel)) → Prop
  | .stuck => False
  | .ok kcs e' => ∀ w' H' vs, Sat X.K X.N.length (r + kcs.length) w' H' σ e' → ArgsOk X.K w' H' σ r (kcs.map fun _ => .tmp) (kcs.map (·.2)) vs → Stp (kpE T r) w H w' H' → Q (((kcs.map (·.1)).zip vs).map fun kv => (kV kv.1, kv.2)) H'
  | .exc x e' => ∀ w' H' cls da, Sat X.K X.N.length r w' H' σ e' → XOk X w' H' x cls da → Stp (kpE T r) w H w' H' → W cls da σ H'
structure DDs (X : Cx) (W : WX) (T : List Nat) (keys : List (Option Expr)) (values : List Expr) (f : Rho → Res (List (Key × Cel))) : Prop where
  tl : ∀ i ∈ T, i < X.N.length
  al : keys.all (·.isSome) = true
  ln : keys.length = values.length
  ex : ∃ trs, (∀ pos, PPs X pos keys values trs) ∧ ∀ r w H σ ρ Q, X.N.length < r → Sat X.K X.N.length r w H σ ρ → GoodDD X W T r w H σ Q (f ρ) → tPairs trs σ H Q
def ddNil : Rho → Res (List (Key × Cel)) := fun ρ => .ok [] ρ
def ddCons (k : Str) (f : Rho → Res Cel) (g : Rho → Res (List (Key × Cel))) : Rho → Res (List (Key × Cel)) := fun ρ => (f ρ).bind fun c ρ1 => (g ρ1).bind fun kcs ρ2 => .ok ((.inr k, c) :: kcs) ρ2
section
variable {X : Cx} {W : WX}
theorem dd_nil : DDs X W [] [] [] ddNil := ⟨fun _ h => (by cases h), rfl, rfl, [], fun pos => pps_nil, fun r w H σ ρ Q hr s g => g w H [] s trivial Stp.refl⟩
theorem dd_cons {T1 T2 : List Nat} {k : Str} {j : Nat} {pk : Pos} {e : Expr} {keys : List (Option Expr)} {values : List Expr} {f : Rho → Res Cel} {g : Rho → Res (List (Key × Cel))} (A : DE X W T1 .tmp e f) (B : DDs X W T2 keys values g) (hT : ∀ i ∈ T1, i < X.N.length := by exact lt_all rfl) :
    DDs X W (T1 ++ T2) (some (.Constant (.str k) j pk) :: keys) (e :: values) (ddCons k f g) := by
  have tl := B.tl
  have al := B.al
  have ln := B.ln
  obtain ⟨ta, pa, A⟩ := A.ex
  obtain ⟨trs, ps, B⟩ := B.ex
  refine ⟨fun i hi => (List.mem_append.mp hi).elim (hT i) (tl i), by simp [al], by simp [ln], (tC (.str k), ta) :: trs, fun pos => pps_cons pe_str pa (ps pos), fun r w H σ ρ Q hr s gg => ?_⟩
  show ta σ H _
  refine A r w H σ ρ _ hr s ?_
  unfold ddCons at gg
  cases e1 : f ρ with
  | stuck => rw [e1] at gg; exact gg
  | exc x e' => rw [e1] at gg; exact fun w' H' cls da s' xo st => gg w' H' cls da s' xo (st.mono fun k h => h.l)
  | ok c ρ1 =>
    rw [e1] at gg
    intro w1 H1 v1 t1 s1 o1 h1 st1
    have o1 : t1 = [r] := o1
    subst o1
    have st1' : Stp (kpE (T1 ++ T2) r) w H w1 H1 := st1.mono fun k h => h.l
    refine B (r + 1) w1 H1 σ ρ1 _ (by omega) s1 ?_
    have gg : GoodDD X W (T1 ++ T2) r w H σ Q ((g ρ1).bind fun kcs ρ2 => .ok ((.inr k, c) :: kcs) ρ2) := gg
    cases e2 : g ρ1 with
    | stuck => rw [e2] at gg; exact gg
    | exc x e' => rw [e2] at gg; exact fun w' H' cls da s' xo st => excUp hr (Nat.le_succ _) gg st1' (fun i hi => List.mem_append_right _ hi) s' xo st
    | ok kcs ρ2 =>
      rw [e2] at gg
      intro w2 H2 vs s2 a2 st2
      have hk : kpE T2 (r + 1) r := ⟨Nat.lt_succ_self r, fun i hi z => by have := tl i hi; omega⟩
      have h1' := h1.stp s1.dom st2 (kpE.zero (by omega)) hk
      exact gg w2 H2 (v1 :: vs) (by show Sat _ _ (r + (kcs.length + 1)) _ _ _ _; rw [show r + (kcs.length + 1) = r + 1 + kcs.length by omega]; exact s2) ⟨⟨[r], rfl, h1'⟩, a2⟩ (st1'.trans (st2.mono fun k h => h.rt.up (Nat.le_succ _)))
theorem putK_new {ws : List (Key × V)} {k : Key} {v : V} (h : k ∉ ws.map Prod.fst) : putK ws k v = ws ++ [(k, v)] := by
  unfold putK
  have : (ws.any fun kv => decide (kv.1 = k)) = false := by
    rw [List.any_eq_false]
    exact fun x hx z => h (List.mem_map.mpr ⟨x, hx, of_decide_eq_true z⟩)
  rw [this]; rfl
theorem mergeK_nodup : ∀ (more ws : List (Key × V)), ((ws ++ more).map Prod.fst).Nodup → mergeK ws more = ws ++ more
  | [], ws, _ => by simp [mergeK]
  | (k, v) :: more, ws, h => by
    have hk : k ∉ ws.map Prod.fst := fun z => by
      rw [List.map_append, List.nodup_append] at h
      exact h.2.2 k z k (by simp) rfl
    show mergeK (putK ws k v) more = _
    rw [putK_new hk, mergeK_nodup more (ws ++ [(k, v)]) (by simpa using h)]
    simp
def ddOk (kcs : List (Key × Cel)) : Bool := decide ((kcs.map (·.1)).Nodup) && (kcs.all fun kc => imm kc.2.2 || decide (kc.2.1 = .all)) && decide (kcs.length ≤ 15)
def dDisp (g : Rho → Res (List (Key × Cel))) : Rho → Res Cel := fun ρ => (g ρ).bind fun kcs ρ1 => if ddOk kcs = true then .ok (.all, .dK (kcs.map fun kc => (kc.1, kc.2.2))) ρ1 else .stuck
theorem zip_snd {α β : Type} : ∀ {xs : List α} {ys : List β}, xs.length = ys.length → (xs.zip ys).map Prod.snd = ys ∧ (xs.zip ys).map Prod.fst = xs
  | [], [], _ => ⟨rfl, rfl⟩
  | x :: xs, y :: ys, h => by
    have := zip_snd (xs := xs) (ys := ys) (by simpa using h)
    simp [this.1, this.2]
theorem de_disp {T : List Nat} {k0 : Option Expr} {keys : List (Option Expr)} {values : List Expr} {g : Rho → Res (List (Key × Cel))} {pos : Pos} (A : DDs X W T (k0 :: keys) values g) (h15 : (k0 :: keys).length ≤ 15 := by decide) : DE X W T .tmp (.Dict (k0 :: keys) values pos) (dDisp g) := by
  have A_tl := A.tl
  have al := A.al
  have ln := A.ln
  obtain ⟨trs, ps, A⟩ := A.ex
  refine ⟨_, pe_disp (ps pos) al ln (by simp) h15, fun r w H σ ρ Q hr s gg => ?_⟩
  intro p hp
  have st0 : Stp (fun k => k < r) w H (setO w p (some [r])) (upd H p (.dK [])) := Stp.new hp fun k p' e => by
    cases e; exact Nat.lt_irrefl _
  have d0 : Dom (setO w p (some [r])) (upd H p (.dK [])) (r + 1) := (s.dom.sub (Nat.le_succ _)).new hp fun t' e => by
    cases e; exact ⟨trivial, r, [], rfl, Nat.lt_succ_self _⟩
  have s0 : Sat X.K X.N.length (r + 1) (setO w p (some [r])) (upd H p (.dK [])) σ ρ := s.stp st0 (fun k hk => by omega) d0
  refine A (r + 1) _ _ σ ρ _ (by omega) s0 ?_
  unfold dDisp at gg
  have hTr : ∀ {i}, i ∈ T → i < X.N.length := fun {i} h => A_tl i h
  cases e1 : g ρ with
  | stuck => rw [e1] at gg; exact gg
  | exc x e' => rw [e1] at gg; exact fun w' H' cls da s' xo st => excUp hr (Nat.le_succ _) gg (st0.mono fun k h => h.1) (fun i hi => hi) s' xo st
  | ok kcs ρ1 =>
    rw [e1] at gg
    intro w2 H2 vs s2 a2 st2
    have gg : GoodE X W T .tmp r w H σ Q (if ddOk kcs = true then .ok (.all, .dK (kcs.map fun kc => (kc.1, kc.2.2))) ρ1 else .stuck) := gg
    by_cases hok : ddOk kcs = true
    · rw [if_pos hok] at gg
      unfold ddOk at hok
      simp only [Bool.and_eq_true, decide_eq_true_eq] at hok
      obtain ⟨⟨hnd, hall⟩, hlen⟩ := hok
      have hp2 := st2.own p r [] (.dK []) setO_same ⟨Nat.lt_succ_self r, fun i hi z => by have := hTr hi; omega⟩ upd_same
      have ll := a2.len
      have hl : (kcs.map (·.1)).length = vs.length := by simp at ll ⊢; omega
      refine ⟨hp2.1, (kcs.map (·.1)).zip vs, rfl, by simp at ll ⊢; omega, ?_⟩
      have em : mergeK [] ((kcs.map (·.1)).zip vs) = (kcs.map (·.1)).zip vs := by
        rw [mergeK_nodup _ [] (by rw [List.nil_append, (zip_snd hl).2]; exact hnd)]; rfl
      rw [em]
      have rp := disp_rp (K := X.K) (n := kcs.length) (j := 0) (m := .all) (r := r + 1) (by omega) (by simp [Src.isTmp]) (fun c hc => by
        obtain ⟨kc, hkc, rfl⟩ := List.mem_map.mp hc
        have := List.all_eq_true.mp hall kc hkc
        simpa using this) (by simp) a2
      have d2 : Dom (bindO w2 (dispF (r + 1) kcs.length)) H2 (r + 2) := disp_dom s2.dom
      let f : Tag → Option Tag := moveF (r + 1) [r]
      have hfl : ∀ q, f (0 :: q) = none ∨ ∃ q', f (0 :: q) = some (0 :: q') := fun q => .inr ⟨q, moveF_lt (by omega)⟩
      have rp2 := RpL.move (f := f) (t := [r + 1]) (t' := [r]) hfl (fun q => moveF_eq) rp
      let w3 := bindO (bindO w2 (dispF (r + 1) kcs.length)) f
      have hp3 : w3 p = some [r] := by
        show bindO (bindO w2 (dispF (r + 1) kcs.length)) f p = _
        rw [bindO_some (t := [r])]
        · exact moveF_lt (Nat.lt_succ_self r)
        · rw [bindO_some hp2.2]; exact dispF_lt (Nat.lt_succ_self r)
      have d3 : Dom w3 H2 (r + 1) := fun a t ea => by
        cases z : bindO w2 (dispF (r + 1) kcs.length) a with
        | none => rw [show w3 a = none from bindO_none z] at ea; cases ea
        | some t' =>
          rw [show w3 a = f t' from bindO_some z] at ea
          obtain ⟨m, k, q, rfl, l⟩ := d2 a t' z
          refine ⟨m, ?_⟩
          rcases moveF_cases ea with ⟨k', p', e1, l', e2⟩ | ⟨p', e1, e2⟩
          · exact ⟨k', p', by rw [e2, e1], l'⟩
          · exact ⟨r, p', e2, by omega⟩
      have st3 : Stp (fun k => k < r) w2 H2 w3 H2 := (disp_stp (r := r + 1) (n := kcs.length)).mono (fun k h => by omega) |>.trans (Stp.bindO (fun k p hk => moveF_lt (by omega)) fun t k q hk et => by
        rcases moveF_cases et with ⟨k', p', e1, l', e2⟩ | ⟨p', e1, e2⟩
        · exact e2.symm
        · cases e2; omega)
      have s3 : Sat X.K X.N.length (r + 1) w3 H2 σ ρ1 := s2.stp st3 (fun k hk => by omega) d3
      let ws := (kcs.map (·.1)).zip vs
      have hn : Rp X.K w3 (upd H2 p (.dK ws)) .all [r] (.dK (kcs.map fun kc => (kc.1, kc.2.2))) (.ref p) := by
        refine ⟨p, ws, rfl, hp3, upd_same, ?_⟩
        refine RpK.write (tb := [r]) (RpK.iffL.mpr ⟨?_, ?_⟩) d3 hp3 (fun q z => by cases z; omega) fun j p' _ z => by simp at z
        · show ((kcs.map (·.1)).zip vs).map Prod.fst = _
          rw [(zip_snd hl).2, List.map_map]; rfl
        · show RpL _ _ _ _ _ _ _ (((kcs.map (·.1)).zip vs).map Prod.snd)
          rw [(zip_snd hl).1, List.map_map]
          have : (Prod.snd ∘ fun kc : Key × Cel => (kc.1, kc.2.2)) = fun kc : Key × Cel => kc.2.2 := rfl
          rw [this]
          have e2 : (kcs.map (·.2)).map (·.2) = kcs.map fun kc => kc.2.2 := by rw [List.map_map]; rfl
          rw [← e2]
          exact rp2
      have st4 : Stp (fun k => k < r) w3 H2 w3 (upd H2 p (.dK ws)) := (Stp.write (kp := fun k => k < r) hp3 (Nat.lt_irrefl r))
      have s4 : Sat X.K X.N.length (r + 1) w3 (upd H2 p (.dK ws)) σ ρ1 := s3.stp st4 (fun k hk => by omega) (d3.write trivial)
      exact gg w3 _ (.ref p) [r] s4 rfl hn ((st0.mono fun k h => h.1).trans ((st2.mono fun k h => h.up (Nat.le_succ _)).trans ((st3.mono fun k h => h.1).trans (st4.mono fun k h => h.1))))
    · rw [if_neg hok] at gg; exact gg.elim
end
end DL

/-! DL part 36: list, len, dict of dicts; sorted ints; what holds behind the dicts' computations. -/
namespace DL
open PySem L2
theorem CbOk.or {K : PySem.W.Frag} {r1 r2 : List V → Hp → VK → Prop} {g1 g2 : List Cel → Option Cel} (a : CbOk K r1 g1) (b : CbOk K r2 g2) : CbOk K (fun xs H Q => r1 xs H Q ∨ r2 xs H Q) (fun cs => (g1 cs).orElse fun _ => g2 cs) := by
  intro r w H cs vs c Q hr d h e k
  cases e1 : g1 cs with
  | some c1 =>
    simp only [e1] at e
    cases e
    exact .inl (a r w H cs vs _ Q hr d h e1 k)
  | none =>
    simp only [e1] at e
    exact .inr (b r w H cs vs c Q hr d h e k)
def kD : Key → D
  | .inl i => .int i
  | .inr x => .str x
theorem kD_rp {K : PySem.W.Frag} {w : Om} {H : Hp} {md : Md} {t : Tag} (k : Key) : Rp K w H md t (kD k) (kV k) := by cases k <;> rfl
theorem kDs_rp {K : PySem.W.Frag} {w : Om} {H : Hp} {md : Md} {t : Tag} : ∀ {ks : List Key} {i : Nat}, RpL K w H md t i (ks.map kD) (ks.map kV)
  | [], _ => rfl
  | k :: ks, i => ⟨_, _, rfl, kD_rp k, kDs_rp⟩
def gListD : List Cel → Option Cel
  | [c] => match c.2 with
    | .dK kvs => some (.own 1, .lst (kvs.map fun kv => kD kv.1))
    | _ => none
  | _ => none
theorem ok_listD {K : PySem.W.Frag} : CbOk K rListD gListD := by
  intro r w H cs vs c Q hr d a e k
  unfold gListD at e
  split at e
  · rename_i c1
    obtain ⟨v, t, rfl, h⟩ := argR1 a
    obtain ⟨m, d1⟩ := c1
    dsimp only at e h
    split at e
    · rename_i kvs
      cases e
      obtain ⟨ad, ws, ea, _, ob, rk⟩ := h
      subst ea
      have hk := (RpK.iffL.mp rk).1
      have rl : RpL K w H (.own 0) [r] 0 (kvs.map fun kv => kD kv.1) (ws.map fun kv => kV kv.1) := by
        have e1 : (kvs.map fun kv => kD kv.1) = (kvs.map Prod.fst).map kD := by rw [List.map_map]; rfl
        have e2 : (ws.map fun kv => kV kv.1) = (kvs.map Prod.fst).map kV := by rw [← hk, List.map_map]; rfl
        rw [e1, e2]
        exact kDs_rp
      exact ⟨ad, ws, rfl, ob, newList hr d rl k⟩
    · cases e
  · cases e
def gListA (cs : List Cel) : Option Cel := (gList cs).orElse fun _ => gListD cs
theorem ok_listA {K : PySem.W.Frag} : CbOk K (fun xs H Q => (∃ p ys, xs = [.ref p] ∧ (SqL K H p ys ∨ SqT K H p ys) ∧ ∀ l, H l = none → Q (.ref l) (upd H l (.lst ys))) ∨ rListD xs H Q) gListA := ok_list.or ok_listD
theorem call_listA {X : Cx} (hc : X.calm = true) : CallR X (.type "list") (fun xs H Q => (∃ p ys, xs = [.ref p] ∧ (SqL X.K H p ys ∨ SqT X.K H p ys) ∧ ∀ l, H l = none → Q (.ref l) (upd H l (.lst ys))) ∨ rListD xs H Q) := call_list_of.or (call_list_dK hc)
def gLenD : List Cel → Option Cel
  | [c] => match c.2 with
    | .dK kvs => some (.own 0, .int kvs.length)
    | _ => none
  | _ => none
theorem ok_lenD {K : PySem.W.Frag} : CbOk K (fun xs H Q => ∃ a kvs, xs = [V.ref a] ∧ H a = some (.dK kvs) ∧ Q (.int kvs.length) H) gLenD := by
  intro r w H cs vs c Q hr d a e k
  unfold gLenD at e
  split at e
  · rename_i c1
    obtain ⟨v, t, rfl, h⟩ := argR1 a
    obtain ⟨m, d1⟩ := c1
    dsimp only at e h
    split at e
    · rename_i kvs
      cases e
      obtain ⟨ad, ws, ea, _, ob, rk⟩ := h
      subst ea
      refine ⟨ad, ws, rfl, ob, ?_⟩
      rw [rk.len]
      exact sameHeap (K := K) (d := .int kvs.length) (t := [r]) d rfl k
    · cases e
  · cases e
def gLenA (cs : List Cel) : Option Cel := (gLen cs).orElse fun _ => gLenD cs
theorem ok_lenA {K : PySem.W.Frag} : CbOk K (fun xs H Q => (∃ x n, xs = [x] ∧ LenV K x H n ∧ Q (.int n) H) ∨ ∃ a kvs, xs = [V.ref a] ∧ H a = some (.dK kvs) ∧ Q (.int kvs.length) H) gLenA := ok_len.or ok_lenD
theorem call_lenA {X : Cx} : CallR X (.builtin "len") (fun xs H Q => (∃ x n, xs = [x] ∧ LenV X.K x H n ∧ Q (.int n) H) ∨ ∃ a kvs, xs = [V.ref a] ∧ H a = some (.dK kvs) ∧ Q (.int kvs.length) H) := call_len.or call_lenD
/-- dict(d) -/
def gDictD : List Cel → Option Cel
  | [c] => match c.2 with
    | .dK kvs => if immL (kvs.map Prod.snd) = true then some (.all, .dK kvs) else none
    | _ => none
  | _ => none
theorem ok_dictD {K : PySem.W.Frag} : CbOk K (fun xs H Q => ∃ (a : Addr) (kvs : List (Key × V)), xs = [.ref a] ∧ Rd H a (.dK kvs) ∧ ∀ p, H p = none → Q (.ref p) (upd H p (.dK kvs))) gDictD := by
  intro r w H cs vs c Q hr d a e k
  unfold gDictD at e
  split at e
  · rename_i c1
    obtain ⟨v, t, rfl, h⟩ := argR1 a
    obtain ⟨m, d1⟩ := c1
    dsimp only at e h
    split at e
    · rename_i kvs
      split at e
      · rename_i hi
        cases e
        obtain ⟨ad, ws, ea, _, ob, rk⟩ := h
        subst ea
        refine ⟨ad, ws, rfl, .inl ob, fun p hp => ?_⟩
        have st : Stp (fun k => k < r) w H (setO w p (some [r])) (upd H p (.dK ws)) := Stp.new hp fun k p' e => by
          cases e; exact Nat.lt_irrefl _
        have dn : Dom (setO w p (some [r])) (upd H p (.dK ws)) (r + 1) := (d.sub (Nat.le_succ _)).new hp fun t' e => by
          cases e; exact ⟨trivial, r, [], rfl, Nat.lt_succ_self _⟩
        refine k _ _ (.ref p) dn st ⟨p, ws, rfl, setO_same, upd_same, RpK.iffL.mpr ⟨(RpK.iffL.mp rk).1, ?_⟩⟩
        exact RpL.imm ⟨fun a xs h => st.tup d h, fun a o u h => st.fz d h⟩ _ hi (RpK.iffL.mp rk).2
      · cases e
    · cases e
  · cases e
def allInt : List D → Option (List Int)
  | [] => some []
  | .int b :: ds => (allInt ds).map (b :: ·)
  | _ => none
theorem allInt_ok {K : PySem.W.Frag} {w : Om} {H : Hp} {md : Md} {t : Tag} : ∀ {ds : List D} {i : Nat} {vs : List V} {bs : List Int}, allInt ds = some bs → RpL K w H md t i ds vs → vs = bs.map V.int
  | [], _, _, _, e, h => by cases e; exact h
  | d :: ds, i, vs, bs, e, ⟨v, r, ev, h, hr⟩ => by
    cases d <;> first | (cases e; done) | skip
    rename_i b
    have e : (allInt ds).map (b :: ·) = some bs := e
    cases e1 : allInt ds with
    | none => rw [e1] at e; cases e
    | some cs =>
      rw [e1] at e
      cases e
      rw [ev, show v = V.int b from h, allInt_ok e1 hr]; rfl
theorem allInt_map {xs : List Int} : allInt (xs.map .int) = some xs := by
  induction xs with
  | nil => rfl
  | cons x xs ih => show (allInt (xs.map D.int)).map _ = _; rw [ih]; rfl
def isort (ns : List Int) : List Int := ns.mergeSort (fun a b => decide (a ≤ b))
theorem isort_perm (ns : List Int) : (isort ns).Perm ns := List.mergeSort_perm _ _
theorem isort_sorted (ns : List Int) : (isort ns).Pairwise (· ≤ ·) := by
  have := List.pairwise_mergeSort (le := fun a b : Int => decide (a ≤ b)) (fun a b c h1 h2 => by simp at *; omega) (fun a b => by simp; omega) ns
  exact this.imp fun h => of_decide_eq_true h
theorem isort_eq {ns xs : List Int} (h : xs.Perm ns) (hs : xs.Pairwise (· ≤ ·)) : xs = isort ns := List.Perm.eq_of_pairwise (le := (· ≤ ·)) (fun a b _ _ h1 h2 => Int.le_antisymm h1 h2) hs (isort_sorted ns) (h.trans (isort_perm ns).symm)
theorem ints_rl {K : PySem.W.Frag} {w : Om} {H : Hp} {md : Md} {t : Tag} : ∀ {ks : List Int} {i : Nat}, RpL K w H md t i (ks.map .int) (ks.map V.int)
  | [], _ => rfl
  | k :: ks, i => ⟨_, _, rfl, rfl, ints_rl⟩
def gSortI : List Cel → Option Cel
  | [c] => match c.2 with
    | .lst ds => (allInt ds).map fun ns => (.own 1, .lst ((isort ns).map .int))
    | _ => none
  | _ => none
theorem ok_sortI {K : PySem.W.Frag} : CbOk K (rSortedI K) gSortI := by
  intro r w H cs vs c Q hr d a e k
  unfold gSortI at e
  split at e
  · rename_i c1
    obtain ⟨v, t, rfl, h⟩ := argR1 a
    obtain ⟨m, d1⟩ := c1
    dsimp only at e h
    split at e
    · rename_i ds
      obtain ⟨ad, us, ea, nd, ob, rl⟩ := h
      cases e1 : allInt ds with
      | none => rw [e1] at e; cases e
      | some ns =>
        rw [e1] at e
        cases e
        have := allInt_ok e1 rl
        subst this
        refine ⟨ad, ns, by rw [ea], SqL.of ob, fun ns' p hp hs hnew => ?_⟩
        rw [isort_eq hp hs]
        exact newList (K := K) (t' := [r]) (i := 0) hr d ints_rl k p hnew
    · cases e
  · cases e
/-! ### what holds behind them -/
section
variable {ρ : Rho} {X : XP} {K : Post}
@[simp] theorem w_dget1 {f1 f2 : Rho → Res Cel} {Q : Cel → Rho → Prop} : (@wE _ (dGet1 f1 f2 ρ) ⟨Q⟩ ⟨X⟩) = (@wE _ (f1 ρ) ⟨(fun c1 e1 => (@nE (isDct c1.2 = true) ⟨fun _ => ((@wE _ (f2 e1) ⟨(fun c2 e2 => (@oE _ (getO c1 c2) ⟨(fun c => Q c e2)⟩))⟩ ⟨X⟩))⟩))⟩ ⟨X⟩) := by
  show P0.wE _ _ _ = P0.wE _ (fun c1 e1 => P0.nE _ (P0.wE _ (fun c2 e2 => P0.oE _ _) _)) _
  unfold dGet1 P0.nE P0.oE
  cases e1 : f1 ρ with
  | stuck => rfl
  | exc x e => rfl
  | ok c1 e =>
    by_cases h : isDct c1.2 = true
    · show P0.wE (if isDct c1.2 = true then (f2 e).bind fun c2 ρ2 => ofO (getO c1 c2) ρ2 else .stuck) Q X = _
      rw [if_pos h]
      simp only [P0.wE, h, true_and]
      cases e2 : f2 e with
      | stuck => rfl
      | exc x e => rfl
      | ok c2 e2 =>
        simp only [Res.bind]
        cases e3 : getO c1 c2 <;> simp [ofO]
    · show P0.wE (if isDct c1.2 = true then (f2 e).bind fun c2 ρ2 => ofO (getO c1 c2) ρ2 else .stuck) Q X = _
      rw [if_neg h]
      simp [P0.wE, h]
def sdO (i : Nat) (m : Md) (kvs : List (Key × D)) (p : Tag) (ρ1 : Rho) (k x : Cel) (ρ2 : Rho) : Option (Cel × Rho) := match sdRes i m kvs p ρ1 k x ρ2 with
  | .ok c e => some (c, e)
  | _ => none
theorem sdRes_noexc {i : Nat} {m : Md} {kvs : List (Key × D)} {p : Tag} {ρ1 : Rho} {k x : Cel} {ρ2 : Rho} {y : Exn} {e : Rho} : sdRes i m kvs p ρ1 k x ρ2 ≠ .exc y e := by
  unfold sdRes
  split
  · simp
  · split
    · split
      · unfold ofO; split <;> simp
      · split <;> simp
    · simp
@[simp] theorem w_setd {i : Nat} {fP : Rho → Res (Cel × Tag)} {fk fx : Rho → Res Cel} {Q : Cel → Rho → Prop} : (@wE _ (dSetd i fP fk fx ρ) ⟨Q⟩ ⟨X⟩) = (@wE _ (fP ρ) ⟨(fun cp e1 => ∃ kvs, cp.1.2 = .dK kvs ∧ ((@wE _ (fk e1) ⟨(fun k e2 => (@wE _ (fx e2) ⟨(fun x e3 => (@oE _ (sdO i cp.1.1 kvs cp.2 e1 k x e3) ⟨(fun q => Q q.1 q.2)⟩))⟩ ⟨X⟩))⟩ ⟨X⟩)))⟩ ⟨X⟩) := by
  show P0.wE (dSetd i fP fk fx ρ) Q X = P0.wE (fP ρ) (fun (cp : Cel × Tag) e1 => ∃ kvs, cp.1.2 = D.dK kvs ∧ (P0.wE (fk e1) (fun k e2 => P0.wE (fx e2) (fun x e3 => P0.oE (sdO i cp.1.1 kvs cp.2 e1 k x e3) (fun q => Q q.1 q.2)) X) X)) X
  unfold dSetd P0.oE
  cases e1 : fP ρ with
  | stuck => rfl
  | exc x e => rfl
  | ok cp e =>
    obtain ⟨⟨m, d⟩, p⟩ := cp
    show P0.wE (sdGo i fk fx ((m, d), p) e) _ _ = _
    unfold sdGo
    cases d <;> simp only [P0.wE, reduceCtorEq, false_and, exists_false]
    rename_i kvs
    simp only [D.dK.injEq, exists_eq_left']
    cases h2 : fk e with
    | stuck => rfl
    | exc x e => rfl
    | ok k ρ2 =>
      simp only [Res.bind]
      cases h3 : fx ρ2 with
      | stuck => rfl
      | exc x e => rfl
      | ok x ρ3 =>
        simp only [sdO]
        cases h4 : sdRes i m kvs p e k x ρ3 with
        | stuck => simp
        | exc y e => exact (sdRes_noexc h4).elim
        | ok c e => simp
@[simp] theorem w_ddnil {Q : List (Key × Cel) → Rho → Prop} : (@wE _ (ddNil ρ) ⟨Q⟩ ⟨X⟩) = Q [] ρ := rfl
@[simp] theorem w_ddcons {k : Str} {f : Rho → Res Cel} {g : Rho → Res (List (Key × Cel))} {Q : List (Key × Cel) → Rho → Prop} : (@wE _ (ddCons k f g ρ) ⟨Q⟩ ⟨X⟩) = (@wE _ (f ρ) ⟨(fun c e1 => (@wE _ (g e1) ⟨(fun kcs e2 => Q ((.inr k, c) :: kcs) e2)⟩ ⟨X⟩))⟩ ⟨X⟩) := by
  show P0.wE _ _ _ = P0.wE _ (fun c e1 => P0.wE _ _ _) _
  unfold ddCons
  cases e1 : f ρ with
  | stuck => rfl
  | exc x e => rfl
  | ok c e =>
    show P0.wE ((g e).bind fun kcs ρ2 => .ok ((.inr k, c) :: kcs) ρ2) _ _ = P0.wE (g e) _ _
    cases e2 : g e <;> rfl
@[simp] theorem w_disp {g : Rho → Res (List (Key × Cel))} {Q : Cel → Rho → Prop} : (@wE _ (dDisp g ρ) ⟨Q⟩ ⟨X⟩) = (@wE _ (g ρ) ⟨(fun kcs e => (@nE (ddOk kcs = true) ⟨fun _ => (Q (.all, .dK (kcs.map fun kc => (kc.1, kc.2.2))) e)⟩))⟩ ⟨X⟩) := by
  show P0.wE _ _ _ = P0.wE _ (fun kcs e => P0.nE _ _) _
  unfold dDisp P0.nE
  cases e1 : g ρ with
  | stuck => rfl
  | exc x e => rfl
  | ok kcs e =>
    show P0.wE (if ddOk kcs = true then _ else _) _ _ = _
    by_cases h : ddOk kcs = true
    · rw [if_pos h]; simp [P0.wE, h]
    · rw [if_neg h]; simp [P0.wE, h]
end
def dNewK : Rho → Res Cel := fun ρ => .ok (.all, .dK []) ρ
def dNewT : Rho → Res Cel := fun ρ => .ok (.all, .dT []) ρ
theorem de_newK {X : Cx} {W : WX} {pos : Pos} : DE X W [] .tmp (.Dict [] [] pos) dNewK := de_dnewK
theorem de_newT {X : Cx} {W : WX} {pos : Pos} : DE X W [] .tmp (.Dict [] [] pos) dNewT := de_dnewT
section
variable {ρ : Rho} {X : XP}
@[simp] theorem w_newK {Q : Cel → Rho → Prop} : (@wE _ (dNewK ρ) ⟨Q⟩ ⟨X⟩) = Q (.all, .dK []) ρ := rfl
@[simp] theorem w_newT {Q : Cel → Rho → Prop} : (@wE _ (dNewT ρ) ⟨Q⟩ ⟨X⟩) = Q (.all, .dT []) ρ := rfl
end
/-! ### values of the dict's operations -/
section
variable {m m2 : Md} {ds : List D} {kvs : List (Key × D)} {a b : List Nat} {d : D} {c : Cel}
@[simp] theorem gListA_lst (h : immL ds = true) : gListA [(m, .lst ds)] = some (.own 1, .lst ds) := by
  show (gList [(m, .lst ds)]).orElse _ = _
  rw [gList_imm h]; rfl
theorem gListA_tup (h : immL ds = true) : gListA [(m, .tup ds)] = some (.own 1, .lst ds) := by
  show (if flatT m ds = true then some (Md.own 1, D.lst ds) else none).orElse _ = _
  rw [if_pos (flatT_imm h)]; rfl
@[simp] theorem gListA_dK : gListA [(m, .dK kvs)] = some (.own 1, .lst (kvs.map fun kv => kD kv.1)) := rfl
@[simp] theorem gTuple_lst (h : immL ds = true) : gTuple [(m, .lst ds)] = some (.own 0, .tup ds) := by
  show (if flat0 m ds = true then some (Md.own 0, D.tup ds) else none) = _
  rw [if_pos (flat0_imm h)]
@[simp] theorem gTuple_tup (h : immL ds = true) : gTuple [(m, .tup ds)] = some (.own 0, .tup ds) := by
  show (if flatT m ds = true then some (Md.own 0, D.tup ds) else none) = _
  rw [if_pos (flatT_imm h)]
@[simp] theorem gLenA_lst : gLenA [(m, .lst ds)] = some (.own 0, .int ds.length) := rfl
@[simp] theorem gLenA_tup : gLenA [(m, .tup ds)] = some (.own 0, .int ds.length) := rfl
@[simp] theorem gLenA_frz {ns : List Int} : gLenA [(m, .frz ns)] = some (.own 0, .int ns.length) := rfl
@[simp] theorem gLenA_dK : gLenA [(m, .dK kvs)] = some (.own 0, .int kvs.length) := rfl
@[simp] theorem gLenA_S (h : a.length ≤ 16777216) : gLenA [(m, .str (S a))] = some (.own 0, .int a.length) := by
  show (gLen [(m, .str (S a))]).orElse _ = _
  rw [gLen_S h]; rfl
@[simp] theorem gSortI_eq {ns : List Int} : gSortI [(m, .lst (ns.map fun i => .int i))] = some (.own 1, .lst ((isort ns).map fun i => .int i)) := by
  show (allInt (ns.map D.int)).map _ = _
  rw [allInt_map]; rfl
@[simp] theorem gDictD_eq (h : immL (kvs.map Prod.snd) = true) : gDictD [(m, .dK kvs)] = some (.all, .dK kvs) := if_pos h
@[simp] theorem isDct_dK : isDct (.dK kvs) = true := rfl
@[simp] theorem kD_inr {x : Str} : kD (.inr x) = .str x := rfl
@[simp] theorem kD_inl {x : Int} : kD (.inl x) = .int x := rfl
@[simp] theorem imm_kD {k : Key} : imm (kD k) = true := by cases k <;> rfl
@[simp] theorem asVal_kD {k : Key} : asVal (m, kD k) = some (.own 0, kD k) := asVal_imm imm_kD
/-- by a written key -/
theorem posK_cons {k k2 : Key} : posK ((k, d) :: kvs) k2 = if k = k2 then some 0 else (posK kvs k2).map (· + 1) := by
  unfold posK
  rw [List.findIdx?_cons]
  by_cases h : k = k2
  · simp [h]
  · simp [h]
@[simp] theorem gIx_dcons : gIx (m, .dK ((.inr (S a), d) :: kvs)) (m2, .str (S b)) = if a = b then some (0, (m.sub, d)) else (gIx (m, .dK kvs) (m2, .str (S b))).map fun jc => (jc.1 + 1, jc.2) := by
  show (itK ((.inr (S a), d) :: kvs) (.inr (S b))).map (fun p => (p.1, (m.sub, p.2))) = if a = b then some (0, (m.sub, d)) else ((itK kvs (.inr (S b))).map fun p => (p.1, (m.sub, p.2))).map fun jc => (jc.1 + 1, jc.2)
  unfold itK
  rw [posK_cons]
  by_cases h : a = b
  · subst h; simp
  · have : ¬ (Sum.inr (S a) : Key) = Sum.inr (S b) := fun z => h (S_inj.mp (Sum.inr.inj z))
    rw [if_neg this, if_neg h]
    cases posK kvs (.inr (S b)) <;> simp
    rename_i j
    cases kvs[j]? <;> simp
end
/-! ### dicts by texts -/
def enc {τ : Type} (f : τ → D) (xs : List (List Nat × τ)) : List (Key × D) := xs.map fun p => (.inr (S p.1), f p.2)
section
variable {τ : Type} {f : τ → D} {xs : List (List Nat × τ)} {k : List Nat} {m m2 : Md}
/-- the keys -/
def ks {τ : Type} (xs : List (List Nat × τ)) : List (List Nat) := xs.map (·.1)
@[simp] theorem ks_nil {τ : Type} : ks ([] : List (List Nat × τ)) = [] := rfl
@[simp] theorem ks_cons {τ : Type} {p : List Nat × τ} {xs : List (List Nat × τ)} : ks (p :: xs) = p.1 :: ks xs := rfl
@[simp] theorem ks_app {τ : Type} {xs ys : List (List Nat × τ)} : ks (xs ++ ys) = ks xs ++ ks ys := List.map_append
@[simp] theorem ks_len {τ : Type} {xs : List (List Nat × τ)} : (ks xs).length = xs.length := List.length_map _
theorem ks_mem {τ : Type} {xs : List (List Nat × τ)} {k : List Nat} : k ∈ ks xs ↔ ∃ v, (k, v) ∈ xs := by
  unfold ks
  simp
@[simp] theorem enc_nil : enc f [] = [] := rfl
@[simp] theorem enc_len : (enc f xs).length = xs.length := by simp [enc]
theorem enc_keys : ((enc f xs).map fun kv => kD kv.1) = (xs.map (·.1)).map en := by simp [enc, Function.comp_def]
theorem enc_imm (hf : ∀ x, imm (f x) = true) : immL ((enc f xs).map Prod.snd) = true := by
  unfold enc
  rw [List.map_map]
  exact immL_map (f := fun p : List Nat × τ => f p.2) (fun p => hf p.2) xs
theorem posK_enc : posK (enc f xs) (.inr (S k)) = xs.findIdx? fun p => decide (p.1 = k) := by
  unfold posK enc
  rw [List.findIdx?_map]
  congr 1
  funext p
  simp [S_inj]
theorem posK_none_enc (h : k ∉ xs.map (·.1)) : posK (enc f xs) (.inr (S k)) = none := by
  rw [posK_enc, List.findIdx?_eq_none_iff]
  exact fun p hp => decide_eq_false fun z => h (List.mem_map.mpr ⟨p, hp, z⟩)
theorem itK_enc (h : k ∈ xs.map (·.1)) : ∃ j v, itK (enc f xs) (.inr (S k)) = some (j, f v) ∧ (k, v) ∈ xs ∧ xs[j]? = some (k, v) := by
  unfold itK
  rw [posK_enc]
  cases e : xs.findIdx? fun p => decide (p.1 = k) with
  | none =>
    rw [List.findIdx?_eq_none_iff] at e
    obtain ⟨p, hp, hk⟩ := List.mem_map.mp h
    have := e p hp
    simp [hk] at this
  | some j =>
    rw [List.findIdx?_eq_some_iff_getElem] at e
    obtain ⟨hj, h1, _⟩ := e
    have hk : xs[j].1 = k := of_decide_eq_true h1
    refine ⟨j, xs[j].2, ?_, ?_, ?_⟩
    · simp [enc, hj]
    · rw [← hk]; exact List.getElem_mem hj
    · rw [List.getElem?_eq_getElem hj, ← hk]
theorem dget_ok (h : k ∈ ks xs) {Q : Nat × Cel → Prop} (q : ∀ j v, (k, v) ∈ xs → xs[j]? = some (k, v) → Q (j, (m.sub, f v))) : (@oE _ (gIx (m, .dK (enc f xs)) (m2, .str (S k))) ⟨Q⟩) := by
  obtain ⟨j, v, e, h1, h2⟩ := itK_enc (f := f) h
  refine oE.mk (a := (j, (m.sub, f v))) ?_ (q j v h1 h2)
  show (itK (enc f xs) (.inr (S k))).map _ = _
  rw [e]; rfl
theorem gIn_enc : gInA (.str (S k)) (.dK (enc f xs)) = some (decide (k ∈ xs.map (·.1))) := by
  show (gInDict id (.str (S k)) (.dK (enc f xs))).orElse (fun _ => gIn (.str (S k)) (.dK (enc f xs))) = _
  have : gInDict id (.str (S k)) (.dK (enc f xs)) = some (decide (k ∈ xs.map (·.1))) := by
    unfold gInDict dLook
    simp only [keyOf, Option.bind_some, Option.map_some, id]
    congr 1
    by_cases h : k ∈ xs.map (·.1)
    · obtain ⟨j, v, e, _, _⟩ := itK_enc (f := f) h
      rw [e, decide_eq_true h]; rfl
    · have : itK (enc f xs) (.inr (S k)) = none := by unfold itK; rw [posK_none_enc h]; rfl
      rw [this, decide_eq_false h]; rfl
  rw [this]; rfl
theorem gNotIn_enc : gNotInA (.str (S k)) (.dK (enc f xs)) = some (!decide (k ∈ xs.map (·.1))) := by
  show (gInDict not (.str (S k)) (.dK (enc f xs))).orElse (fun _ => gNotIn (.str (S k)) (.dK (enc f xs))) = _
  have : gInDict not (.str (S k)) (.dK (enc f xs)) = some (!decide (k ∈ xs.map (·.1))) := by
    unfold gInDict dLook
    simp only [keyOf, Option.bind_some, Option.map_some]
    congr 1
    by_cases h : k ∈ xs.map (·.1)
    · obtain ⟨j, v, e, _, _⟩ := itK_enc (f := f) h
      rw [e, decide_eq_true h]; rfl
    · have : itK (enc f xs) (.inr (S k)) = none := by unfold itK; rw [posK_none_enc h]; rfl
      rw [this, decide_eq_false h]; rfl
  rw [this]; rfl
@[simp] theorem enc_ks : ((enc f xs).map fun kv => kD kv.1) = (ks xs).map en := enc_keys
@[simp] theorem gIn_ks : gInA (.str (S k)) (.dK (enc f xs)) = some (decide (k ∈ ks xs)) := gIn_enc
@[simp] theorem gNotIn_ks : gNotInA (.str (S k)) (.dK (enc f xs)) = some (!decide (k ∈ ks xs)) := gNotIn_enc
theorem putIt_new (h : k ∉ xs.map (·.1)) (hm : m.mut = true) (hl : xs.length < 16777216) {v : τ} (hv : imm (f v) = true) : putIt m (.dK (enc f xs)) (m2, .str (S k)) (.own 0, f v) = some (m, .dK (enc f (xs ++ [(k, v)])), xs.length) := by
  show ((appMd m ((enc f xs).map Prod.snd) (.own 0, f v)).bind fun md => if (enc f xs).length < sizeLine then (putKD (enc f xs) (.inr (S k)) (f v)).map fun kvs' => (md, D.dK kvs', (posK (enc f xs) (.inr (S k))).getD (enc f xs).length) else none) = _
  rw [appMd_imm hm hv]
  simp only [Option.bind_some]
  rw [if_pos (by rw [sz, enc_len]; exact hl)]
  unfold putKD
  rw [posK_none_enc h]
  simp [enc]
end
end DL

/-! DL part 37: texts in lists, written numbers, stores into dicts. -/
namespace DL
open PySem L2
/-! ### data without changeable parts -/
theorem immL_iff : ∀ {ds : List D}, immL ds = true ↔ ∀ d ∈ ds, imm d = true
  | [] => by simp
  | d :: ds => by simp [immL_iff (ds := ds)]
@[simp] theorem immL_app {a b : List D} (h1 : immL a = true) (h2 : immL b = true) : immL (a ++ b) = true := by rw [immL_append, h1, h2]; rfl
@[simp] theorem immL_take {a : List D} {n : Nat} (h : immL a = true) : immL (a.take n) = true := immL_iff.mpr fun d hd => immL_iff.mp h d (List.mem_of_mem_take hd)
@[simp] theorem immL_drop {a : List D} {n : Nat} (h : immL a = true) : immL (a.drop n) = true := immL_iff.mpr fun d hd => immL_iff.mp h d (List.mem_of_mem_drop hd)
@[simp] theorem immL_cut {a : List D} {lo hi : Option Int} (h : immL a = true) : immL (cutL a lo hi) = true := immL_take (immL_drop h)
@[simp] theorem retCel_tup {m : Md} {ds : List D} (h : immL ds = true) : retCel (m, .tup ds) = some (.own 0, .tup ds) := retCel_imm h
@[simp] theorem asVal_tup {m : Md} {ds : List D} (h : immL ds = true) : asVal (m, .tup ds) = some (.own 0, .tup ds) := asVal_imm h
@[simp] theorem lendC_tup {m : Md} {ds : List D} (h : immL ds = true) : lendC (m, .tup ds) = (.own 0, .tup ds) := lendC_imm h
@[simp] theorem retCel_dK {kvs : List (Key × D)} : retCel (.all, .dK kvs) = some (.all, .dK kvs) := rfl
@[simp] theorem lendC_dK {kvs : List (Key × D)} : lendC (.all, .dK kvs) = (.lent, .dK kvs) := rfl
@[simp] theorem lendC_dK2 {kvs : List (Key × D)} : lendC (.lent, .dK kvs) = (.lent, .dK kvs) := rfl
theorem oE_bind {α β : Type} {o : Option α} {f : α → Option β} {Q : β → Prop} : (@oE _ (o.bind f) ⟨Q⟩) = (@oE _ o ⟨(fun x => (@oE _ (f x) ⟨Q⟩))⟩) := by
  show P0.oE _ _ = P0.oE _ (fun x => P0.oE _ _)
  unfold P0.oE
  cases o <;> simp
theorem putAt_at {k j : Nat} {p : Tag} {m : Md} {d : D} {ρ1 ρ2 : Rho} {c0 : Cel} (h : ρ1[k]? = some (some c0)) : putAt k (j :: p) m m d ρ1 ρ2 = some (ρ2.set k (some (c0.1, setAt (j :: p) c0.2 d))) := by
  unfold putAt
  rw [h]
  exact if_pos rfl
@[simp] theorem mvO_tup {i : Nat} {ρ : Rho} {m : Md} {ds : List D} (h : immL ds = true) : mvO i (m, .tup ds) ρ = ((.own 0, .tup ds), ρ) := if_pos h
@[simp] theorem mvO_dK {i : Nat} {ρ : Rho} {kvs : List (Key × D)} : mvO i (.all, .dK kvs) ρ = ((.all, .dK kvs), ρ.set i none) := rfl
@[simp 900] theorem asVal_imS {m : Md} {d : D} (h : imm d = true) : asVal (m, d) = some (.own 0, d) := asVal_imm h
@[simp 900] theorem retCel_imS {m : Md} {d : D} (h : imm d = true) : retCel (m, d) = some (.own 0, d) := retCel_imm h
@[simp 900] theorem mvO_imS {i : Nat} {ρ : Rho} {m : Md} {d : D} (h : imm d = true) : mvO i (m, d) ρ = ((.own 0, d), ρ) := mvO_imm h
@[simp 1100] theorem lendC_imS {m : Md} {d : D} (h : imm d = true) : lendC (m, d) = (.own 0, d) := lendC_imm h
@[simp] theorem immL_tail {a : List D} (h : immL a = true) : immL a.tail = true := immL_iff.mpr fun d hd => immL_iff.mp h d (List.mem_of_mem_tail hd)
@[simp] theorem tupO_nil : P0.tupO [] = some (.all, .tup []) := rfl
theorem putIt_im {m m2 : Md} {ds : List D} {i : Int} {c : Cel} (hm : m.mut = true) (h0 : 0 ≤ i) (h1 : i < ds.length) (hi : imm c.2 = true) : putIt m (.lst ds) (m2, .int i) c = some (m, .lst (ds.set i.toNat c.2), i.toNat) := by
  rw [putIt_lst (k := i.toNat) (by omega) (by omega), show appMd m ds c = some m from appMd_imm hm hi]
  rfl
@[simp high] theorem mut_all' : Md.mut .all = true := by decide
@[simp high] theorem mut_one' : Md.mut (.own 1) = true := by decide
@[simp 900] theorem appMd_imS {m m2 : Md} {ds : List D} {d : D} (hm : m.mut = true) (h : imm d = true) : appMd m ds (m2, d) = some m := appMd_imm hm h
theorem deq_str {a b : List Nat} : deq (.str (S a)) (.str (S b)) = decide (a = b) := by
  show (S a == S b) = _
  by_cases h : a = b
  · subst h; simp
  · rw [decide_eq_false h, beq_eq_false_iff_ne]
    exact fun z => h (S_inj.mp z)
theorem flat_en {ws : List (List Nat)} : (ws.map en).all flatD = true := by
  rw [List.all_map, List.all_eq_true]
  exact fun _ _ => rfl
theorem any_en {ws : List (List Nat)} {k : List Nat} : ((ws.map en).any fun z => deq z (.str (S k))) = decide (k ∈ ws) := by
  rw [List.any_map]
  by_cases h : k ∈ ws
  · rw [decide_eq_true h, List.any_eq_true]
    exact ⟨k, h, by show deq (.str (S k)) (.str (S k)) = true; rw [deq_str]; simp⟩
  · rw [decide_eq_false h, List.any_eq_false]
    intro w hw z
    have z : deq (.str (S w)) (.str (S k)) = true := z
    rw [deq_str] at z
    exact h (of_decide_eq_true z ▸ hw)
@[simp] theorem gIn_texts {ws : List (List Nat)} {k : List Nat} : gInA (.str (S k)) (.lst (ws.map fun w => .str (S w))) = some (decide (k ∈ ws)) := by
  show (if (flatD (.str (S k)) && (ws.map en).all flatD) = true then some (id ((ws.map en).any fun z => deq z (.str (S k)))) else none).orElse _ = _
  rw [flat_en, any_en]; rfl
@[simp] theorem gNotIn_texts {ws : List (List Nat)} {k : List Nat} : gNotInA (.str (S k)) (.lst (ws.map fun w => .str (S w))) = some (!decide (k ∈ ws)) := by
  show (if (flatD (.str (S k)) && (ws.map en).all flatD) = true then some (not ((ws.map en).any fun z => deq z (.str (S k)))) else none).orElse _ = _
  rw [flat_en, any_en]; rfl
@[simp] theorem gIn_textsT {ws : List (List Nat)} {k : List Nat} : gInA (.str (S k)) (.tup (ws.map fun w => .str (S w))) = some (decide (k ∈ ws)) := by
  show (if (flatD (.str (S k)) && (ws.map en).all flatD) = true then some (id ((ws.map en).any fun z => deq z (.str (S k)))) else none).orElse _ = _
  rw [flat_en, any_en]; rfl
@[simp] theorem gNotIn_textsT {ws : List (List Nat)} {k : List Nat} : gNotInA (.str (S k)) (.tup (ws.map fun w => .str (S w))) = some (!decide (k ∈ ws)) := by
  show (if (flatD (.str (S k)) && (ws.map en).all flatD) = true then some (not ((ws.map en).any fun z => deq z (.str (S k)))) else none).orElse _ = _
  rw [flat_en, any_en]; rfl
theorem deq_int {a b : Int} : deq (.int a) (.int b) = decide (a = b) := by
  show (a == b) = _
  by_cases h : a = b <;> simp [h]
@[simp] theorem gIn_int2 {g a b : Int} : gInA (.int g) (.tup [.int a, .int b]) = some (decide (a = g) || decide (b = g)) := by
  show (if (flatD (.int g) && [D.int a, D.int b].all flatD) = true then some (id ([D.int a, D.int b].any fun z => deq z (.int g))) else none).orElse _ = _
  simp [flatD, deq_int]
@[simp] theorem gSl_lst' {m : Md} {ds : List D} {lo hi : Option Int} (h : immL ds = true) : gSl (m, .lst ds) lo hi = some (.own 1, .lst (cutL ds lo hi)) := by
  show (if flat0 m ds = true then some (Md.own 1, D.lst (cutL ds lo hi)) else none) = _
  rw [if_pos (flat0_imm h)]
@[simp] theorem gSl_tup' {m : Md} {ds : List D} {lo hi : Option Int} (h : immL ds = true) : gSl (m, .tup ds) lo hi = some (.own 0, .tup (cutL ds lo hi)) := by
  show (if flatT m ds = true then some (Md.own 0, D.tup (cutL ds lo hi)) else none) = _
  rw [if_pos (flatT_imm h)]
/-! ### written numbers -/
def digs (n : Nat) : List Nat := L (toString (n : Int))
theorem toString_S (n : Nat) : (toString (n : Int) : Str) = S (digs n) := S_of _
theorem digs_small : ∀ n < 200, (digs n).length ≤ 3 ∧ ∀ c ∈ digs n, c < 1114112 := by decide +kernel
@[simp] theorem gStrI_nat {m : Md} {n : Nat} (h : n < 1000000000) : gStrI [(m, .int (n : Nat))] = some (.own 0, .str (S (digs n))) := by
  show (if (n : Int).natAbs.log2 < 1920 then some (Md.own 0, D.str (toString (n : Int))) else none) = _
  rw [if_pos, toString_S]
  rw [Int.natAbs_natCast]
  by_cases h0 : n = 0
  · subst h0; simp
  · exact (Nat.log2_lt h0).mpr (Nat.lt_of_lt_of_le h (Nat.le_trans (by decide : 1000000000 ≤ 2 ^ 30) (Nat.pow_le_pow_right (by decide) (by decide))))
/-! ### a store into a dict by texts -/
section
variable {τ : Type} {f : τ → D} {xs : List (List Nat × τ)} {k : List Nat} {m m2 : Md}
theorem drop_new {j : Nat} (hn : (xs.map (·.1)).Nodup) (h : xs.findIdx? (fun p => decide (p.1 = k)) = some j) : (((enc f xs).drop (j + 1)).all fun p => decide (p.1 ≠ (.inr (S k) : Key))) = true := by
  rw [List.findIdx?_eq_some_iff_getElem] at h
  obtain ⟨hj, h1, _⟩ := h
  have hk : xs[j].1 = k := of_decide_eq_true h1
  rw [List.all_eq_true]
  intro p hp
  refine decide_eq_true fun z => ?_
  obtain ⟨i, hi, rfl⟩ := List.getElem_of_mem hp
  rw [List.getElem_drop] at z
  rw [List.length_drop, enc_len] at hi
  have e : ((enc f xs)[j + 1 + i]'(by rw [enc_len]; omega)).1 = .inr (S (xs[j + 1 + i]'(by omega)).1) := by simp [enc]
  rw [e] at z
  have z := S_inj.mp (Sum.inr.inj z)
  have q := (List.getElem_inj (i := j) (j := j + 1 + i) (h₀ := by simpa using hj) (h₁ := by simp; omega) hn).mp (by simp [z, hk])
  omega
theorem dput_ok {v : τ} (hn : (ks xs).Nodup) (hm : m.mut = true) (hl : xs.length < 16777216) (hv : imm (f v) = true) {Q : Md × D × Nat → Prop}
    (q : ∀ (xs' : List (List Nat × τ)) (j : Nat), (ks xs').Nodup → xs'.length ≤ xs.length + 1 → (∀ p ∈ xs', p ∈ xs ∨ p = (k, v)) → (∀ p, p ∈ ks xs' ↔ p ∈ ks xs ∨ p = k) → (k, v) ∈ xs' → (k ∉ ks xs → xs' = xs ++ [(k, v)]) → Q (m, .dK (enc f xs'), j)) :
    (@oE _ (putIt m (.dK (enc f xs)) (m2, .str (S k)) (.own 0, f v)) ⟨Q⟩) := by
  by_cases h : k ∈ ks xs
  · obtain ⟨j, v0, e1, e2, e3⟩ := itK_enc (f := f) h
    have hp : posK (enc f xs) (.inr (S k)) = some j := by
      unfold itK at e1
      cases z : posK (enc f xs) (.inr (S k)) with
      | none => rw [z] at e1; cases e1
      | some j' =>
        rw [z] at e1
        simp only [Option.bind_some] at e1
        cases y : (enc f xs)[j']? with
        | none => rw [y] at e1; cases e1
        | some p =>
          rw [y] at e1
          have := congrArg Prod.fst (Option.some.inj e1)
          exact congrArg some this
    have hj : j < xs.length := (List.getElem?_eq_some_iff.mp e3).1
    have hxj : xs[j] = (k, v0) := (List.getElem?_eq_some_iff.mp e3).2
    have keys : ks (xs.set j (k, v)) = ks xs := by
      unfold ks
      rw [List.map_set]
      show (xs.map (·.1)).set j k = _
      refine List.ext_getElem? fun i => ?_
      by_cases z : j = i
      · subst z; rw [List.getElem?_set_self (by simpa using hj)]; simp [List.getElem?_eq_getElem hj, hxj]
      · rw [List.getElem?_set_ne z]
    refine oE.mk (a := (m, .dK (enc f (xs.set j (k, v))), j)) ?_ (q _ _ (by rw [keys]; exact hn) (by simp) (fun p hp => ?_) (fun p => by rw [keys]; exact ⟨.inl, fun z => z.elim id fun e => e ▸ h⟩) (List.mem_iff_getElem.mpr ⟨j, by simpa using hj, by simp⟩) fun z => (z h).elim)
    · show ((appMd m ((enc f xs).map Prod.snd) (.own 0, f v)).bind fun md => if (enc f xs).length < sizeLine then (putKD (enc f xs) (.inr (S k)) (f v)).map fun kvs' => (md, D.dK kvs', (posK (enc f xs) (.inr (S k))).getD (enc f xs).length) else none) = _
      rw [appMd_imm hm hv]
      simp only [Option.bind_some]
      rw [if_pos (by rw [sz, enc_len]; exact hl)]
      unfold putKD
      rw [hp]
      simp only
      rw [if_pos (drop_new hn (by rw [← posK_enc (f := f)]; exact hp))]
      simp [enc, List.map_set]
    · rcases List.mem_or_eq_of_mem_set hp with z | z
      · exact .inl z
      · exact .inr z
  · refine oE.mk (putIt_new h hm hl hv) (q _ _ ?_ (by simp) (fun p hp => by simpa using hp) (fun p => by simp [eq_comm]) (by simp) fun _ => rfl)
    rw [ks_app, List.nodup_append]
    refine ⟨hn, by simp, fun a ha b hb => ?_⟩
    simp at hb
    subst hb
    exact fun z => h (z ▸ ha)
/-- with unique keys -/
theorem uniq {v v' : τ} (hn : (ks xs).Nodup) (h : (k, v) ∈ xs) (h' : (k, v') ∈ xs) : v = v' := by
  obtain ⟨i, hi, e1⟩ := List.getElem_of_mem h
  obtain ⟨j, hj, e2⟩ := List.getElem_of_mem h'
  have q := (List.getElem_inj (i := i) (j := j) (h₀ := by simpa using hi) (h₁ := by simpa using hj) (show (xs.map (·.1)).Nodup from hn)).mp (by simp [e1, e2])
  subst q
  rw [e1] at e2
  exact (Prod.mk.inj e2).2
end
theorem ix_mapT {τ : Type} {f : τ → D} {xs : List τ} {m m2 : Md} {j : Nat} (h : j < xs.length) : gIx (m, .tup (xs.map f)) (m2, .int (j : Int)) = some (j, (m, f xs[j])) := gIx_tup (by rw [List.getElem?_map, List.getElem?_eq_getElem h]; rfl) rfl
theorem ix_mapL {τ : Type} {f : τ → D} {xs : List τ} {m m2 : Md} {j : Nat} (h : j < xs.length) : gIx (m, .lst (xs.map f)) (m2, .int (j : Int)) = some (j, (m.sub, f xs[j])) := gIx_lst (by rw [List.getElem?_map, List.getElem?_eq_getElem h]; rfl) rfl
/-! ### zip of tuples -/
def zipO : List Cel → Option (Md × List D)
  | [c1, c2] => (match isL c1.2, isL c2.2, flSeq c1, flSeq c2 with
    | some b1, some b2, some q1, some q2 => if b1 = b2 then (zipMd q1 q2).map fun md => (md, zipItems q1.2 q2.2) else none
    | _, _, _, _ => none)
  | _ => none
@[simp] theorem w_zip {f : Rho → Res (List Cel)} {ρ : Rho} {Q : Md × List D → Rho → Prop} {X : XP} : (@wE _ (diZip f ρ) ⟨Q⟩ ⟨X⟩) = (@wE _ (f ρ) ⟨(fun cs e => (@oE _ (zipO cs) ⟨(fun q => Q q e)⟩))⟩ ⟨X⟩) := by
  show P0.wE _ _ _ = P0.wE _ (fun cs e => P0.oE _ _) _
  unfold diZip P0.oE
  cases e1 : f ρ with
  | stuck => rfl
  | exc x e => rfl
  | ok cs e =>
    show P0.wE (match cs with | [c1, c2] => _ | _ => _) _ _ = ∃ a, zipO cs = some a ∧ Q a e
    unfold zipO
    split
    · split
      · split
        · rename_i q1 q2 _ _ _ _ _
          cases h : zipMd q1 q2 with
          | none => simp [P0.wE, *]
          | some md => simp [P0.wE, *]
        · simp [P0.wE, *]
      · simp [P0.wE, *]
    · simp [P0.wE, *]
theorem flSeq_imm {c : Cel} {q : Md × List D} (h : seqOf c = some q) (hi : immL q.2 = true) : flSeq c = some (.own 0, q.2) := by
  unfold flSeq
  rw [h]
  simp only [Option.bind_some]
  rw [if_pos hi]
@[simp] theorem zipO_tup {m m2 : Md} {as bs : List D} (h1 : immL as = true) (h2 : immL bs = true) : zipO [(m, .tup as), (m2, .tup bs)] = some (.own 0, zipItems as bs) := by
  show (match isL (.tup as), isL (.tup bs), flSeq (m, .tup as), flSeq (m2, .tup bs) with
    | some b1, some b2, some q1, some q2 => if b1 = b2 then (zipMd q1 q2).map fun md => (md, zipItems q1.2 q2.2) else none
    | _, _, _, _ => none) = _
  rw [flSeq_imm (q := (m, as)) rfl h1, flSeq_imm (q := (m2, bs)) rfl h2]
  show (if true = true then (zipMd (.own 0, as) (.own 0, bs)).map fun md => (md, zipItems as bs) else none) = _
  rw [if_pos rfl]
  unfold zipMd
  rw [if_pos h1]; rfl
theorem zip_maps {τ σ : Type} {f : τ → D} {g : σ → D} {xs : List τ} {ys : List σ} : zipItems (xs.map f) (ys.map g) = (xs.zip ys).map fun p => .tup [f p.1, g p.2] := by
  unfold zipItems
  rw [List.zip_map, List.map_map]; rfl
/-! ### setdefault in a dict by texts -/
section
variable {τ : Type} {f : τ → D} {ch : List (List Nat × τ)} {k : List Nat} {m m1 m2 : Md} {i : Nat} {ρ1 ρ2 : Rho} {c0 : Cel} {v : τ}
theorem sd_ok (hf : ∀ x, imm (f x) = true) (hm : m.mut = true) (hl : ch.length < 16777216) (h1 : ρ1[i]? = some (some c0)) {Q : Cel × Rho → Prop}
    (q1 : ∀ w, (k, w) ∈ ch → Q ((.own 0, f w), ρ2)) (q2 : k ∉ ks ch → Q ((.own 0, f v), ρ2.set i (some (m, .dK (enc f (ch ++ [(k, v)])))))) : (@oE _ (sdO i m (enc f ch) [] ρ1 (m1, .str (S k)) (m2, f v) ρ2) ⟨Q⟩) := by
  have hc : (m.mut && imm (f v)) = true ∧ (enc f ch).length < sizeLine := ⟨by rw [hm, hf]; rfl, by rw [sz, enc_len]; exact hl⟩
  by_cases h : k ∈ ks ch
  · obtain ⟨j, w, e1, e2, _⟩ := itK_enc (f := f) h
    refine oE.mk (a := ((.own 0, f w), ρ2)) ?_ (q1 w e2)
    unfold sdO sdRes
    simp only [keyOf]
    rw [if_pos hc, e1]
    simp only
    rw [asVal_imm (hf w)]; rfl
  · have e1 : itK (enc f ch) (.inr (S k)) = none := by unfold itK; rw [posK_none_enc h]; rfl
    refine oE.mk (a := ((.own 0, f v), ρ2.set i (some (m, .dK (enc f (ch ++ [(k, v)])))))) ?_ (q2 h)
    unfold sdO sdRes
    simp only [keyOf]
    rw [if_pos hc, e1]
    simp only
    have : putAt i [] m m (.dK (enc f ch ++ [(.inr (S k), f v)])) ρ1 ρ2 = some (ρ2.set i (some (m, .dK (enc f (ch ++ [(k, v)]))))) := by
      rw [putAt_nil, h1]
      simp [enc]
    rw [this]
end
end DL

/-! DL part 38: fields of instances. -/
namespace DL
open PySem L2
theorem RpF.iffL {K : PySem.W.Frag} {w : Om} {H : Hp} {md : Md} {t : Tag} : ∀ {fs : List (Str × D)} {i : Nat} {ws : List (Str × V)}, RpF K w H md t i fs ws ↔ (ws.map Prod.fst = fs.map Prod.fst ∧ RpL K w H md t i (fs.map Prod.snd) (ws.map Prod.snd))
  | [], i, ws => ⟨fun h => by cases (show ws = [] from h); exact ⟨rfl, rfl⟩, fun h => by
      have := h.1
      cases ws with
      | nil => rfl
      | cons _ _ => cases this⟩
  | (k, d) :: fs, i, ws => ⟨fun ⟨v, r, e, h1, h2⟩ => by
      subst e
      obtain ⟨a, b⟩ := RpF.iffL.mp h2
      exact ⟨by simp [a], v, _, rfl, h1, b⟩, fun ⟨h1, v, r, e, h2, h3⟩ => by
      cases ws with
      | nil => cases e
      | cons p ws =>
        obtain ⟨k', v'⟩ := p
        simp only [List.map_cons, List.cons.injEq] at h1 e
        obtain ⟨rfl, h1⟩ := h1
        obtain ⟨rfl, rfl⟩ := e
        exact ⟨v', ws, rfl, h2, RpF.iffL.mpr ⟨h1, h3⟩⟩⟩
def posN (xs : List Str) (f : Str) : Option Nat := xs.findIdx? fun x => decide (x = f)
theorem posN_cons {x f : Str} {xs : List Str} : posN (x :: xs) f = if x = f then some 0 else (posN xs f).map (· + 1) := by
  unfold posN
  rw [List.findIdx?_cons]
  by_cases h : x = f
  · simp [h]
  · simp [h]
section
variable {α : Type}
theorem lookup_pos : ∀ {fs : List (Str × α)} {f : Str}, fs.lookup f = (posN (fs.map Prod.fst) f).bind fun j => (fs[j]?).map Prod.snd
  | [], f => rfl
  | (g, x) :: fs, f => by
    rw [List.map_cons, posN_cons]
    by_cases h : g = f
    · subst h
      simp [List.lookup]
    · have h' : (f == g) = false := beq_eq_false_iff_ne.mpr fun z => h z.symm
      simp only [List.lookup, h', if_neg h]
      rw [lookup_pos (fs := fs)]
      cases posN (fs.map Prod.fst) f <;> simp
theorem putF_in : ∀ {fs : List (Str × V)} {f : Str} {v : V} {j : Nat}, posN (fs.map Prod.fst) f = some j → putF f v fs = fs.set j (f, v)
  | [], f, v, j, h => by cases h
  | (g, x) :: fs, f, v, j, h => by
    rw [List.map_cons, posN_cons] at h
    by_cases z : g = f
    · rw [if_pos z] at h; cases h
      show (if g = f then (g, v) :: fs else _) = _
      rw [if_pos z, z]; rfl
    · rw [if_neg z] at h
      cases e : posN (fs.map Prod.fst) f with
      | none => rw [e] at h; cases h
      | some j' =>
        rw [e] at h; cases h
        show (if g = f then _ else (g, x) :: putF f v fs) = _
        rw [if_neg z, putF_in e]; rfl
theorem putF_end : ∀ {fs : List (Str × V)} {f : Str} {v : V}, posN (fs.map Prod.fst) f = none → putF f v fs = fs ++ [(f, v)]
  | [], f, v, h => rfl
  | (g, x) :: fs, f, v, h => by
    rw [List.map_cons, posN_cons] at h
    by_cases z : g = f
    · rw [if_pos z] at h; cases h
    · rw [if_neg z] at h
      cases e : posN (fs.map Prod.fst) f with
      | some j' => rw [e] at h; cases h
      | none =>
        show (if g = f then _ else (g, x) :: putF f v fs) = _
        rw [if_neg z, putF_end e]; rfl
end
/-- the field f of an instance of the class at C -/
def gFld (C : Addr) (f : Str) (c : Cel) : Option (Nat × Cel) := match c.2 with
  | .ins C' fs => if C' = C then (posN (fs.map Prod.fst) f).bind fun j => (fs[j]?).map fun p => (j, (c.1.sub, p.2)) else none
  | _ => none
def putFD (fs : List (Str × D)) (f : Str) (d : D) : List (Str × D) := match posN (fs.map Prod.fst) f with
  | some j => fs.set j (f, d)
  | none => fs ++ [(f, d)]
/-- the instance with a field set -/
def fldIt (C : Addr) (f : Str) (m : Md) (d : D) (c : Cel) : Option (Md × D × Nat) := match d with
  | .ins C' fs => if C' = C ∧ fs.length < 1000 then (appMd m (fs.map Prod.snd) c).map fun md => (md, .ins C (putFD fs f c.2), (posN (fs.map Prod.fst) f).getD fs.length) else none
  | _ => none
section
variable {K : PySem.W.Frag} {w : Om} {H : Hp} {r : Nat}
theorem gFld_ok {C : Addr} {f : Str} {c : Cel} {jc : Nat × Cel} {t : Tag} {v : V} (e : gFld C f c = some jc) (h : Rp K w H c.1 t c.2 v) : ∃ a dx ws u, v = .ref a ∧ H a = some (.ins C dx ws) ∧ ws.lookup f = some u ∧ RA K w H [jc.1] c.1 t c.2 v jc.2.1 jc.2.2 u := by
  obtain ⟨m, d⟩ := c
  unfold gFld at e
  split at e
  · rename_i C' fs q
    dsimp only at q
    subst q
    split at e
    · rename_i hC
      subst hC
      obtain ⟨a, dx, ws, ev, nd, ob, rf⟩ := h
      obtain ⟨hk, rl⟩ := RpF.iffL.mp rf
      have ob : H a = some (.ins C' dx ws) := ob
      cases e1 : posN (fs.map Prod.fst) f with
      | none => rw [e1] at e; cases e
      | some j =>
        rw [e1] at e
        simp only [Option.bind_some] at e
        cases e2 : fs[j]? with
        | none => rw [e2] at e; cases e
        | some p =>
          obtain ⟨g, d⟩ := p
          rw [e2] at e
          cases e
          obtain ⟨u, e3, e4⟩ := RpF.get rf e2
          refine ⟨a, dx, ws, u, ev, ob, ?_, a, dx, ws, g, d, u, ev, nd, ob, rf, e2, e3, rfl, rfl, rfl, by rw [Nat.zero_add] at e4; exact e4⟩
          rw [lookup_pos, hk, e1]
          simp only [Option.bind_some]
          rw [e3]; rfl
    · cases e
  · cases e
theorem fldIt_ok {C : Addr} {f : Str} {m md : Md} {d d' : D} {c : Cel} {j kk : Nat} {p : Tag} {b : Addr} {v : V} (dm : Dom w H r) (hm : m.mut = true) (e : fldIt C f m d c = some (md, d', j)) (h : Rp K w H m ((kk + 1) :: p) d (.ref b))
    (h1 : imm c.2 = true → ∀ md t, Rp K w H md t c.2 v) (h2 : Rp K w H c.1 ((kk + 1) :: (p ++ [j])) c.2 v) :
    ∃ dx ws, H b = some (.ins C dx ws) ∧ ws.length < 1000 ∧ w b = some ((kk + 1) :: p) ∧ Rp K w (upd H b (.ins C dx (putF f v ws))) md ((kk + 1) :: p) d' (.ref b) := by
  unfold fldIt at e
  split at e
  · rename_i C' fs
    split at e
    · rename_i hz
      obtain ⟨rfl, hz⟩ := hz
      obtain ⟨a, dx, ws, ea, nd, ob, rf⟩ := h
      cases ea
      have hb := nd.mut hm
      have ob : H b = some (.ins C' dx ws) := ob
      obtain ⟨hkeys, rl⟩ := RpF.iffL.mp rf
      have hlen : ws.length = fs.length := by
        have := congrArg List.length hkeys
        rwa [List.length_map, List.length_map] at this
      cases e2 : appMd m (fs.map Prod.snd) c with
      | none => rw [e2] at e; cases e
      | some md' =>
        rw [e2] at e
        cases e
        obtain ⟨hm', r1, r2⟩ := item_rp (j := (posN (fs.map Prod.fst) f).getD fs.length) e2 rl h1 h2
        refine ⟨dx, ws, ob, by rw [hlen]; exact hz, hb, ⟨b, dx, putF f v ws, rfl, Nd.of_mut hm' hb, upd_same, RpF.iffL.mpr ?_⟩⟩
        unfold putFD
        cases e4 : posN (fs.map Prod.fst) f with
        | none =>
          rw [e4] at r2
          rw [putF_end (by rw [hkeys]; exact e4)]
          refine ⟨by simp [hkeys], ?_⟩
          rw [List.map_append, List.map_append]
          refine RpL.wr dm hb (RpL.append r1 ⟨v, [], rfl, ?_, rfl⟩)
          rw [Nat.zero_add, List.length_map]; exact r2
        | some j =>
          rw [e4] at r2
          rw [putF_in (by rw [hkeys]; exact e4)]
          refine ⟨by rw [List.map_set, List.map_set, hkeys], ?_⟩
          rw [List.map_set, List.map_set]
          exact RpL.wr dm hb (RpL.set r1 (by rw [Nat.zero_add]; exact r2))
    · cases e
  · cases e
end
section
variable {X : Cx} {W : WX} {M : List Nat}
def dFldP (C : Addr) (f : Str) (f1 : Rho → Res (Cel × Tag)) : Rho → Res (Cel × Tag) := fun ρ => (f1 ρ).bind fun cp ρ1 => match gFld C f cp.1 with
  | some jc => .ok (jc.2, cp.2 ++ [jc.1]) ρ1
  | none => .stuck
/-- P.f -/
theorem dp_fld {C : Addr} {f : Str} {T : List Nat} {i : Nat} {a : Expr} {f1 : Rho → Res (Cel × Tag)} {pos : Pos} (c : Cls X.K C) (n : NoAttr X.K C f) (A : DP X W T i a f1) (hb : attributeBase a f X.env (eval a X.env) = eval a X.env := by rfl) : DP X W T i (.Attribute a f pos) (dFldP C f f1) := by
  have hl := A.lt
  obtain ⟨ta, pa, A⟩ := A.ex
  refine ⟨hl, _, pe_fld pa hb, fun r w H σ ρ Q hr s g => A r w H σ ρ _ hr s ?_⟩
  unfold dFldP at g
  cases e1 : f1 ρ with
  | stuck => rw [e1] at g; exact g
  | exc x e' => rw [e1] at g; exact g
  | ok cp ρ1 =>
    rw [e1] at g
    intro w1 H1 v1 s1 p1 st1
    have g : GoodP X W T i r w H σ Q (match gFld C f cp.1 with | some jc => .ok (jc.2, cp.2 ++ [jc.1]) ρ1 | none => .stuck) := g
    cases e2 : gFld C f cp.1 with
    | none => rw [e2] at g; exact g.elim
    | some jc =>
      rw [e2] at g
      obtain ⟨q, h1⟩ := p1.rp
      rcases p1 with ⟨c0, v0, e4, e5, h⟩ | ⟨hi1, hi2⟩
      · obtain ⟨a, dx, ws, u, ev, ob, lk, ra⟩ := gFld_ok e2 (RA.rp _ h)
        exact ⟨a, C, dx, ws, u, ev, ob, c, n, lk, g w1 H1 u s1 (.inl ⟨c0, v0, e4, e5, RA.trans _ h ra⟩) st1⟩
      · obtain ⟨a, dx, ws, u, ev, ob, lk, ra⟩ := gFld_ok e2 h1
        exact ⟨a, C, dx, ws, u, ev, ob, c, n, lk, g w1 H1 u s1 (.inr (RA_imm hi1 ra)) st1⟩
def fldRes (C : Addr) (f : Str) (i : Nat) (c : Cel) (cp : Cel × Tag) (ρ2 : Rho) : Option Rho := if cp.1.1.mut = true then (fldIt C f cp.1.1 cp.1.2 c).bind fun x => putAt i cp.2 cp.1.1 x.1 x.2.1 ρ2 ρ2 else none
def dsFld (C : Addr) (f : Str) (i : Nat) (fe : Rho → Res Cel) (fP : Rho → Res (Cel × Tag)) : Rho → SR := fun ρ => match (fe ρ).bind fun c ρ1 => (fP ρ1).bind fun cp ρ2 => (match fldRes C f i c cp ρ2 with | some ρ4 => Res.ok () ρ4 | none => .stuck) with
  | .ok _ ρ4 => .nx ρ4
  | .exc x ρ4 => .exc x ρ4
  | .stuck => .stuck
/-- P.f = e -/
theorem ds_fld {C : Addr} {f : Str} {T0 T1 : List Nat} {i : Nat} {o e : Expr} {fe : Rho → Res Cel} {fP : Rho → Res (Cel × Tag)} {tpos pos : Pos} (cl : Cls X.K C) (n : NoAttr X.K C f) (A : DE X W T0 .tmp e fe) (P : DP X W T1 i o fP)
    (hT : ∀ j ∈ T1, j < X.N.length := by exact lt_all rfl) (hs : swapsWith e (some (.Attribute o f tpos)) pos.line X.env = pure false := by rfl) :
    DS X W M (T0 ++ (T1 ++ [i])) (.Assign [.Attribute o f tpos] e pos) (dsFld C f i fe fP) := by
  have hi := P.lt
  obtain ⟨ta, pa, A⟩ := A.ex
  obtain ⟨tp, pp, P⟩ := P.ex
  refine ⟨_, ps_fld pp pa hs, fun r w H σ ρ D hr s gg => A r w H σ ρ _ hr s ?_⟩
  unfold dsFld at gg
  have mi : i ∈ T0 ++ (T1 ++ [i]) := List.mem_append_right _ (List.mem_append_right _ List.mem_cons_self)
  have m0 : ∀ {r k}, kpE (T0 ++ (T1 ++ [i])) r k → kpE T0 r k := fun h => h.l
  have m1 : ∀ {r k}, kpE (T0 ++ (T1 ++ [i])) r k → kpE T1 (r + 1) k := fun h => h.rt.l.up (Nat.le_succ _)
  cases e1 : fe ρ with
  | stuck => rw [e1] at gg; exact gg
  | exc x e' => rw [e1] at gg; exact fun w' H' cls da s' xo st => gg w' H' σ cls da s' xo (st.mono fun k h => m0 h) Fx.refl
  | ok c ρ1 =>
    rw [e1] at gg
    intro w1 H1 v t1 s1 o1 hv st1
    have o1 : t1 = [r] := o1
    subst o1
    refine P (r + 1) w1 H1 σ ρ1 _ (by omega) s1 ?_
    have st1' : Stp (kpE (T0 ++ (T1 ++ [i])) r) w H w1 H1 := st1.mono fun k h => m0 h
    cases e2 : fP ρ1 with
    | stuck => rw [Res.bind, e2] at gg; exact gg
    | exc x e' =>
      rw [Res.bind, e2] at gg
      intro w' H' cls da s' xo st
      have ct : Stp (fun k => k < r) w' H' (cutO w' r) H' := Stp.cut fun _ h => h
      exact gg _ H' σ cls da (s'.cut hr) (xo.stp s'.dom ct (by show 0 < r; omega)) ((st1'.trans (st.mono fun k h => m1 h)).trans (ct.mono fun k h => h.1)) Fx.refl
    | ok cp ρ2 =>
      rw [Res.bind, e2] at gg
      intro w2 H2 vP s2 p2 st2
      have st2' := st1'.trans (st2.mono fun k h => m1 h)
      have g2 : GoodS X W M (T0 ++ (T1 ++ [i])) r w H σ D (match (match fldRes C f i c cp ρ2 with | some ρ4 => Res.ok () ρ4 | none => .stuck) with
        | .ok _ ρ4 => .nx ρ4
        | .exc x ρ4 => .exc x ρ4
        | .stuck => .stuck) := gg
      cases e4 : fldRes C f i c cp ρ2 with
      | none => rw [e4] at g2; exact g2.elim
      | some ρ4 =>
        rw [e4] at g2
        clear gg
        obtain ⟨⟨m, d⟩, p⟩ := cp
        have e4 : (if m.mut = true then (fldIt C f m d c).bind fun x => putAt i p m x.1 x.2.1 ρ2 ρ2 else none) = some ρ4 := e4
        by_cases hm : m.mut = true
        · rw [if_pos hm] at e4
          cases e5 : fldIt C f m d c with
          | none => rw [e5] at e4; cases e4
          | some x =>
            obtain ⟨md, d', j⟩ := x
            rw [e5] at e4
            have e4 : putAt i p m md d' ρ2 ρ2 = some ρ4 := e4
            rcases p2 with ⟨c0, v0, ec, ev, ra⟩ | ⟨z, _⟩
            · have hv2 := hv.stp s1.dom st2 (kpE.zero (by omega)) ⟨Nat.lt_succ_self r, fun j hj z => by have := hT j hj; omega⟩
              let q : Tag := p ++ [j]
              let w4 := bindO w2 (moveF r ((i + 1) :: q))
              have s4 : Sat X.K X.N.length r w4 H2 σ ρ2 := moveF_sat s2 hr hi
              have st4 : Stp (kpE (T0 ++ (T1 ++ [i])) r) w2 H2 w4 H2 := moveF_stp mi
              have ra4 := RA.map (moveF_mp (i := i) (q := q) (r := r) (by omega)) p ⟨rfl, rfl, i + 1, [], rfl, by omega⟩ ra
              have rp4 := RA.rp p ra4
              obtain ⟨b, eb⟩ : ∃ b, vP = .ref b := by
                unfold fldIt at e5
                split at e5
                · obtain ⟨a, _, _, ea, _⟩ := rp4
                  exact ⟨a, ea⟩
                · cases e5
              subst eb
              have h2 : Rp X.K w4 H2 c.1 ((i + 1) :: (p ++ [j])) c.2 v := Rp.move (fun p => .inr ⟨p, moveF_lt (by omega)⟩) (fun p' => moveF_eq) hv2
              obtain ⟨dx, ws, ob, hz, hb, hn⟩ := fldIt_ok s4.dom hm e5 rp4 (fun hi md t => Rp.imm ⟨fun _ _ x => x, fun _ _ _ x => x⟩ _ hi hv2) h2
              refine ⟨b, C, dx, ws, rfl, ob, cl, n, hz, ?_⟩
              obtain ⟨s5, st5⟩ := write_core (T := T0 ++ (T1 ++ [i])) (o := .ins C dx (putF f v ws)) s4 hr hi mi ev ra4 hb trivial hn ec e4
              exact g2 w4 _ σ s5 ((st2'.trans st4).trans st5) Fx.refl
            · exfalso
              unfold fldIt at e5
              split at e5
              · cases z
              · cases e5
        · rw [if_neg hm] at e4; cases e4
/-! ### nothing said -/
def dsStk : Rho → SR := fun _ => .stuck
theorem ds_stk {st : Stmt} : DS X W M [] st dsStk := ⟨fun _ _ _ => False, ⟨fun _ _ _ _ _ _ h => h.elim⟩, fun _ _ _ _ _ _ _ _ g => g⟩
end
end DL

/-! DL part 39: methods, new instances. -/
namespace DL
open PySem L2
section
variable {X : Cx} {CX : CXT} {k : Nat} {g C : Addr} {fd : FuncData} {ps : List Str} {sp : Sp} {E : L2.St → XK} {m x : Str} {pos apos p : Pos} {e o : Expr} {es : List Expr} {ta : TE} {t : TA} {pl : Sem Bool}
/-- an instance, then what is handed to its method -/
def tRecv (C : Addr) (m : Str) (ta : TE) (t : TA) : TA := fun σ H Q => ta σ H fun x H1 => ∃ a dx fs, x = .ref a ∧ H1 a = some (.ins C dx fs) ∧ fs.lookup m = none ∧ t σ H1 fun vs H2 => Q (x :: vs) H2
def tRun (sp : Sp) (E : L2.St → XK) (t : TA) : TE := fun σ H Q => t σ H fun vs H1 => sp vs H1 Q (E σ)
theorem pe_recv (he : PE X o ta) (cl : Cls X.K C) (hm : Meth X.K C m g) (F : FnOk X.prog X.w X.K X.mg X.base CX k g fd ps sp) (hr : Room k X.A) (hb : Binds X.K fd ps []) (hx : ∀ σ, PassesAt CX X σ (E σ)) (ha : PA X (e :: es) t)
    (h1 : starEach (e :: es) X.env = (false, eval e X.env) :: starEach es X.env := by rfl) (h2 : (backTo pos (starEach es X.env)).any (·.1) = false := by rfl)
    (h3 : eval (.Call (.Attribute o m apos) (e :: es) [] pos) X.env = (do
      let ov ← eval o X.env
      standAt apos.atName
      let (f, first) ← holding [ov] (getMethod ov m pl)
      callWith pos f first (backTo pos (starEach (e :: es) X.env)) (backToKw pos (keywordEach [] X.env))) := by rfl) :
    PE X (.Call (.Attribute o m apos) (e :: es) [] pos) (tRun sp E (tRecv C m ta t)) := by
  refine ⟨fun pins s σ H Q I h => ?_⟩
  refine PySem.W.methodCall_KW (pl := pl) (thn (he.run pins s σ H _ I h) fun u s1 ⟨y, H1, I1, ry, a, dx, fs, ey, ea, l, q⟩ => ?_) h3
  subst ey
  obtain rfl : u = Value.ref a := ry
  refine getmeth_ok I1 ea cl hm l ?_
  exact PySem.W.callWith_K (first := [.ref a]) (h₀ := X.base) I.ok.mod.kin hm.kp (thn (ha.run pos pins s1 σ H1 _ I1 q) fun us s2 ⟨vs, H2, I2, r, q2⟩ => ⟨I2.kIn, run_fnS (us := .ref a :: us) (vs := .ref a :: vs) F hr hb (hx σ) I2 (.cons rfl r) q2⟩) h1 h2
theorem pe_recv0 (he : PE X o ta) (cl : Cls X.K C) (hm : Meth X.K C m g) (F : FnOk X.prog X.w X.K X.mg X.base CX k g fd ps sp) (hr : Room k X.A) (hb : Binds X.K fd ps []) (hx : ∀ σ, PassesAt CX X σ (E σ))
    (h3 : eval (.Call (.Attribute o m apos) [] [] pos) X.env = (do
      let ov ← eval o X.env
      standAt apos.atName
      let (f, first) ← holding [ov] (getMethod ov m pl)
      callWith pos f first (backTo pos (starEach [] X.env)) (backToKw pos (keywordEach [] X.env))) := by rfl) :
    PE X (.Call (.Attribute o m apos) [] [] pos) (tRun sp E (tRecv C m ta tNil)) := by
  refine ⟨fun pins s σ H Q I h => ?_⟩
  refine PySem.W.methodCall_KW (pl := pl) (thn (he.run pins s σ H _ I h) fun u s1 ⟨y, H1, I1, ry, a, dx, fs, ey, ea, l, q⟩ => ?_) h3
  subst ey
  obtain rfl : u = Value.ref a := ry
  refine getmeth_ok I1 ea cl hm l ?_
  exact PySem.W.callWith_K0 (first := [.ref a]) I1.kIn hm.kp (run_fnS (us := [.ref a]) (vs := [.ref a]) F hr hb (hx σ) I1 (.cons rfl .nil) q)
/-- a new instance, then __init__ -/
def tNew (C : Addr) (sp : Sp) (E : L2.St → XK) : TE := fun σ H Q => ∀ y dx, H y = none → H dx = none → dx ≠ y →
  sp [.ref y] (upd (upd H dx (.own y)) y (.ins C dx [])) (fun v H2 => v = .non ∧ Q (.ref y) H2) (E σ)
theorem pe_new0 (M : Mk X.K C g) (F : FnOk X.prog X.w X.K X.mg X.base CX k g fd ps sp) (hr : Room (k + 1) X.A) (hgl : Gl X x) (hmg : X.mg x = some (.ref C)) (hb : Binds X.K fd ps []) (hx : ∀ (pins : List (Addr × Obj)) (σ : L2.St) (H H2 : Hp) (s s2 : Shared) (e : Value) (s' : Shared), Inv X pins σ H s → Inv X pins σ H2 s2 → CX X.stack H2 s2 (E σ) e s' → X.xe e s')
    (hdb : (x == ("__debug__" : Str)) = false := by decide) : PE X (.Call (.Name x p) [] [] pos) (tNew C sp E) := by
  refine ⟨fun pins s σ H Q I h => ?_⟩
  refine wpAny_Call_Name_kw (ld_glob I hgl hmg ?_ hdb)
  refine PySem.W.callWith_K0 I.kIn M.kp ?_
  have hq := h (s.heap.objs.size + 1) s.heap.objs.size (I.hok.fresh (Nat.le_succ _)) (I.hok.fresh (Nat.le_refl _)) (Nat.ne_of_lt (Nat.lt_succ_self _))
  have I2 := Inv.made (C := C) I
  have r2 : Vals [V.ref (s.heap.objs.size + 1)] [Value.ref (s.heap.objs.size + 1)] := .cons rfl .nil
  have hl : [Value.ref (s.heap.objs.size + 1)].length = ps.length := by
    have e := r2.length
    rw [F.len _ _ _ _ hq] at e
    exact e.symm
  have b := hb _ [Value.ref (s.heap.objs.size + 1)] I2.kIn (by rw [List.append_nil]; exact hl)
  rw [List.append_nil] at b
  refine wpAny_call (make_map (f := g) I.kIn M.makes M.init (beq_iff_eq.mp M.fn) (codeAny_mono (F.run _ X.stack _ _ ⟨[Value.ref (s.heap.objs.size + 1)], []⟩ [Value.ref (s.heap.objs.size + 1)] _ _ (E σ) (hr.make C [] []) (I2.env0.make C [] []) b r2 hq) fun r s' hq' => ?_))
  cases r with
  | error e => exact hx pins σ _ _ _ _ e s' I I2 hq'
  | ok fl =>
    cases fl with
    | ret u =>
      obtain ⟨v, H', I3, rv, ev, q3⟩ := I2.after hq'
      subst ev
      exact ⟨rv, ⟨V.ref (s.heap.objs.size + 1), H', I3, rfl, q3⟩⟩
    | next => exact False.elim hq'
    | brk => exact False.elim hq'
    | cont => exact False.elim hq'
end
/-- a method of the class at C -/
structure MtD (P : Program) (w : World) (K : PySem.W.Frag) (mg : Str → Option Value) (base : Heap) (C : Addr) (x : Str) (k n : Nat) (mj : List Nat) (F : Rho → Res Cel) : Prop where
  ex : ∃ (f : Addr) (fd : FuncData) (ps : List Str), Meth K C x f ∧ Binds K fd ps [] ∧ ps.length = n ∧ FnOk P w K mg base (L2N.CX P w) k f fd ps (spD K mg n mj F)
  nl : ∀ ps c ps', F ps = .ok c ps' → (c.1 ≠ .lent ∨ imm c.2 = true)
theorem mtD_of {P : Program} {w : World} {K : PySem.W.Frag} {mg : Str → Option Value} {base : Heap} {C : Addr} {x q : Str} {st : Stmt} {f : Addr} {fd : FuncData} {N ps : List Str} {k n : Nat} {mj : List Nat} {body : Rho → SR} (F : Fun K x q st f fd) (hmt : Meth K C x f) (S : FnScope N ps (defScope st)) (hn : ps.length = n) (hm : ∀ j ∈ mj, j < n) (b : Binds K fd ps [])
    (hb : ∀ (cdv : Value) (A : Around) (outer : List Env) (s : Shared) (H : Hp) (E : XK), Room k (A.deeper (PyProof.Rows.envOfC q (defScope st) s.heap.objs.size f cdv)) →
      ∃ T, DSs (cxOf (L2N.CX P w) P w K mg base N q (defScope st) f cdv A outer s H E) (fun cls d _ H => E cls d H) mj T (defBody st) body) :
    MtD P w K mg base C x (k + 1) n mj (dFun N.length n body) :=
  ⟨⟨f, fd, ps, hmt, b, hn, fn_ok F S hn hm hb⟩, dFun_nl⟩
/-- the __init__ of the class at C, for C() -/
structure InD (P : Program) (w : World) (K : PySem.W.Frag) (mg : Str → Option Value) (base : Heap) (C : Addr) (k : Nat) (F : Rho → Res Cel) : Prop where
  ex : ∃ (f : Addr) (fd : FuncData) (ps : List Str) (mj : List Nat), Mk K C f ∧ Binds K fd ps [] ∧ 0 ∈ mj ∧ FnOk P w K mg base (L2N.CX P w) k f fd ps (spD K mg 1 mj F)
theorem inD_of {P : Program} {w : World} {K : PySem.W.Frag} {mg : Str → Option Value} {base : Heap} {C : Addr} {x q : Str} {st : Stmt} {f : Addr} {fd : FuncData} {N ps : List Str} {k : Nat} {mj : List Nat} {body : Rho → SR} (F : Fun K x q st f fd) (hmk : Mk K C f) (S : FnScope N ps (defScope st)) (hn : ps.length = 1) (hm : ∀ j ∈ mj, j < 1) (h0 : 0 ∈ mj) (b : Binds K fd ps [])
    (hb : ∀ (cdv : Value) (A : Around) (outer : List Env) (s : Shared) (H : Hp) (E : XK), Room k (A.deeper (PyProof.Rows.envOfC q (defScope st) s.heap.objs.size f cdv)) →
      ∃ T, DSs (cxOf (L2N.CX P w) P w K mg base N q (defScope st) f cdv A outer s H E) (fun cls d _ H => E cls d H) mj T (defBody st) body) :
    InD P w K mg base C (k + 1) (dFun N.length 1 body) :=
  ⟨⟨f, fd, ps, mj, hmk, b, h0, fn_ok F S hn hm hb⟩⟩
def isRecv (C : Addr) (m : Str) : D → Bool
  | .ins C' fs => decide (C' = C) && (posN (fs.map Prod.fst) m).isNone
  | _ => false
theorem isRecv_ok {K : PySem.W.Frag} {w : Om} {H : Hp} {C : Addr} {m : Str} {md : Md} {d : D} {t : Tag} {v : V} (e : isRecv C m d = true) (h : Rp K w H md t d v) : ∃ a dx fs, v = .ref a ∧ H a = some (.ins C dx fs) ∧ fs.lookup m = none := by
  unfold isRecv at e
  split at e
  · rename_i C' fs
    rw [Bool.and_eq_true, decide_eq_true_eq] at e
    obtain ⟨rfl, e⟩ := e
    obtain ⟨a, dx, ws, ev, nd, ob, rf⟩ := h
    obtain ⟨hk, _⟩ := RpF.iffL.mp rf
    refine ⟨a, dx, ws, ev, ob, ?_⟩
    rw [lookup_pos, hk]
    cases z : posN (fs.map Prod.fst) m with
    | none => rfl
    | some j => rw [z] at e; cases e
  · cases e
def dRecv (C : Addr) (m : Str) (fo : Rho → Res Cel) (fa : Rho → Res (List Cel)) : Rho → Res (List Cel) := fun ρ => (fo ρ).bind fun c ρ1 => if isRecv C m c.2 = true then (fa ρ1).bind fun cs ρ2 => .ok (c :: cs) ρ2 else .stuck
section
variable {X : Cx} {W : WX}
theorem recv_core {C : Addr} {m : Str} {T1 T2 : List Nat} {S : Src} {Ss : List Src} {fo : Rho → Res Cel} {fa : Rho → Res (List Cel)} {ta : TE} {tb : TA}
    (A : ∀ r w H σ ρ Q, X.N.length < r → Sat X.K X.N.length r w H σ ρ → GoodE X W T1 S r w H σ Q (fo ρ) → ta σ H Q)
    (B : ∀ r w H σ ρ Q, X.N.length < r → Sat X.K X.N.length r w H σ ρ → GoodA X W T2 Ss r w H σ Q (fa ρ) → tb σ H Q)
    (tl : ∀ i ∈ T2, i < X.N.length) (hS : S.lt X.N.length) (off : S.off T2 = true) {r : Nat} {w : Om} {H : Hp} {σ : St} {ρ : Rho} {Q : List V → Hp → Prop} (hr : X.N.length < r) (s : Sat X.K X.N.length r w H σ ρ)
    (gg : GoodA X W (T1 ++ T2) (S :: Ss) r w H σ Q (dRecv C m fo fa ρ)) : tRecv C m ta tb σ H Q := by
  refine A r w H σ ρ _ hr s ?_
  unfold dRecv at gg
  cases e1 : fo ρ with
  | stuck => rw [e1] at gg; exact gg
  | exc x e' => rw [e1] at gg; exact fun w' H' cls da s' xo st => gg w' H' cls da s' xo (st.mono fun k h => h.l)
  | ok c ρ1 =>
    rw [e1] at gg
    intro w1 H1 v1 t1 s1 o1 h1 st1
    have gg : GoodA X W (T1 ++ T2) (S :: Ss) r w H σ Q (if isRecv C m c.2 = true then (fa ρ1).bind fun cs ρ2 => .ok (c :: cs) ρ2 else .stuck) := gg
    by_cases hc : isRecv C m c.2 = true
    · rw [if_pos hc] at gg
      obtain ⟨a, dx, fs, ev, ob, lk⟩ := isRecv_ok hc h1
      refine ⟨a, dx, fs, ev, ob, lk, ?_⟩
      have st1' : Stp (kpE (T1 ++ T2) r) w H w1 H1 := st1.mono fun k h => h.l
      refine B (r + 1) w1 H1 σ ρ1 _ (by omega) s1 ?_
      cases e2 : fa ρ1 with
      | stuck => rw [e2] at gg; exact gg
      | exc x e' =>
        rw [e2] at gg
        intro w' H' cls da s' xo st
        exact excUp hr (Nat.le_succ _) gg st1' (fun i hi => List.mem_append_right _ hi) s' xo st
      | ok cs ρ2 =>
        rw [e2] at gg
        intro w2 H2 vs s2 a2 st2
        obtain ⟨k', p, e, hk⟩ := Src.kept o1 off (Nat.lt_succ_self r) hr (Src.lt_of hS) tl
        subst e
        exact gg w2 H2 (v1 :: vs) (by rw [List.length_cons, show r + (Ss.length + 1) = r + 1 + Ss.length by omega]; exact s2) ⟨⟨_, o1, h1.stp s1.dom st2 (kpE.zero (by omega)) hk⟩, a2⟩ (st1'.trans (st2.mono fun k h => h.rt.up (Nat.le_succ _)))
    · rw [if_neg hc] at gg; exact gg.elim
theorem run_core {T : List Nat} {Ss : List Src} {fa : Rho → Res (List Cel)} {n : Nat} {mj : List Nat} {F : Rho → Res Cel} (ks : List Pk) {t : TA} (nl : ∀ ps c ps', F ps = .ok c ps' → (c.1 ≠ .lent ∨ imm c.2 = true))
    (A : ∀ {r w H σ ρ Q}, X.N.length < r → Sat X.K X.N.length r w H σ ρ → GoodA X W T Ss r w H σ Q (fa ρ) → t σ H Q) (hks : ks.length = n) (hm : ∀ j ∈ mutPars 0 ks, j ∈ mj) (ha : argsOk Ss ks 0 Ss ks = true) (hS : ∀ S ∈ Ss, S.lt X.N.length) (hml : ∀ i ∈ mutList Ss ks, i < X.N.length)
    {r : Nat} {w : Om} {H : Hp} {σ : St} {ρ : Rho} {Q : VK} (hr : X.N.length < r) (s : Sat X.K X.N.length r w H σ ρ) (gg : GoodE X W (T ++ mutList Ss ks) .tmp r w H σ Q (dCall F Ss ks fa ρ)) : tRun (spD X.K X.mg n mj F) (WE W) t σ H Q := by
  refine A hr s ?_
  unfold dCall at gg
  cases e1 : fa ρ with
  | stuck => rw [e1] at gg; exact gg
  | exc x e' =>
    rw [e1] at gg
    intro w' H' cls da s' xo st
    exact gg w' H' cls da s' xo (st.mono fun k h => h.l)
  | ok cs ρ1 =>
    rw [e1] at gg
    intro w1 H1 vs s1 a1 st1
    refine call_core nl hr hks hm ha (fun i ⟨m, h⟩ => ?_) hml s1 a1 st1 gg
    rcases h with h | h
    · exact hS _ (List.mem_of_getElem? h)
    · exact hS _ (List.mem_of_getElem? h)
/-- o.m(e, ..) -/
theorem de_meth {C : Addr} {m : Str} {T1 T2 : List Nat} {S : Src} {Ss : List Src} {o e : Expr} {es : List Expr} {pos apos : Pos} {fo : Rho → Res Cel} {fa : Rho → Res (List Cel)} {k n : Nat} {mj : List Nat} {F : Rho → Res Cel} {pl : Sem Bool} (ks : List Pk) (MD : MtD X.prog X.w X.K X.mg X.base C m k n mj F) (cl : Cls X.K C) (tk : L2N.Takes X W) (hr : Room k X.A)
    (A : DE X W T1 S o fo) (B : DA X W T2 Ss (e :: es) fa) (hks : ks.length = n := by rfl) (hm : ∀ j ∈ mutPars 0 ks, j ∈ mj := by decide) (ha : argsOk (S :: Ss) ks 0 (S :: Ss) ks = true := by rfl) (hS : ∀ S' ∈ S :: Ss, S'.lt X.N.length := by exact lt_allS rfl) (hml : ∀ i ∈ mutList (S :: Ss) ks, i < X.N.length := by exact lt_all rfl) (off : S.off T2 = true := by rfl)
    (h1 : starEach (e :: es) X.env = (false, eval e X.env) :: starEach es X.env := by rfl) (h2 : (backTo pos (starEach es X.env)).any (·.1) = false := by rfl)
    (h3 : eval (.Call (.Attribute o m apos) (e :: es) [] pos) X.env = (do
      let ov ← eval o X.env
      standAt apos.atName
      let (f, first) ← holding [ov] (getMethod ov m pl)
      callWith pos f first (backTo pos (starEach (e :: es) X.env)) (backToKw pos (keywordEach [] X.env))) := by rfl) :
    DE X W ((T1 ++ T2) ++ mutList (S :: Ss) ks) .tmp (.Call (.Attribute o m apos) (e :: es) [] pos) (dCall F (S :: Ss) ks (dRecv C m fo fa)) := by
  obtain ⟨f, fd, ps, hmt, hb, hn, FO⟩ := MD.ex
  have tl := B.tl
  obtain ⟨ta, pa, A⟩ := A.ex
  obtain ⟨tb, pb, B⟩ := B.ex
  exact ⟨_, pe_recv (pl := pl) pa cl hmt FO hr hb (fun σ => L2N.passAt tk σ) pb h1 h2 h3, fun r w H σ ρ Q hr s gg => run_core ks MD.nl (fun hr s g => recv_core A B tl (hS S List.mem_cons_self) off hr s g) hks hm ha hS hml hr s gg⟩
/-- o.m() -/
theorem de_meth0 {C : Addr} {m : Str} {T1 : List Nat} {S : Src} {o : Expr} {pos apos : Pos} {fo : Rho → Res Cel} {k n : Nat} {mj : List Nat} {F : Rho → Res Cel} {pl : Sem Bool} (ks : List Pk) (MD : MtD X.prog X.w X.K X.mg X.base C m k n mj F) (cl : Cls X.K C) (tk : L2N.Takes X W) (hr : Room k X.A)
    (A : DE X W T1 S o fo) (hks : ks.length = n := by rfl) (hm : ∀ j ∈ mutPars 0 ks, j ∈ mj := by decide) (ha : argsOk [S] ks 0 [S] ks = true := by rfl) (hS : ∀ S' ∈ [S], S'.lt X.N.length := by exact lt_allS rfl) (hml : ∀ i ∈ mutList [S] ks, i < X.N.length := by exact lt_all rfl) (off : S.off [] = true := by rfl)
    (h3 : eval (.Call (.Attribute o m apos) [] [] pos) X.env = (do
      let ov ← eval o X.env
      standAt apos.atName
      let (f, first) ← holding [ov] (getMethod ov m pl)
      callWith pos f first (backTo pos (starEach [] X.env)) (backToKw pos (keywordEach [] X.env))) := by rfl) :
    DE X W ((T1 ++ []) ++ mutList [S] ks) .tmp (.Call (.Attribute o m apos) [] [] pos) (dCall F [S] ks (dRecv C m fo dNil)) := by
  obtain ⟨f, fd, ps, hmt, hb, hn, FO⟩ := MD.ex
  obtain ⟨ta, pa, A⟩ := A.ex
  exact ⟨_, pe_recv0 (pl := pl) pa cl hmt FO hr hb (fun σ => L2N.passAt tk σ) h3, fun r w H σ ρ Q hr s gg => run_core ks MD.nl (fun hr s g => recv_core (T2 := []) (Ss := []) (fa := dNil) (tb := tNil) A (fun r w H σ ρ Q hr s g => g w H [] s trivial Stp.refl) (fun _ h => nomatch h) (hS S List.mem_cons_self) off hr s g) hks hm ha hS hml hr s gg⟩
end
end DL

/-! DL part 40: C(). -/
namespace DL
open PySem L2
def dNew (C : Addr) (F : Rho → Res Cel) : Rho → Res Cel := fun ρ => match F [some (.all, .ins C [])] with
  | .ok (_, .non) [some c] => if c.1 = .lent then .stuck else .ok c ρ
  | .exc x _ => .exc x ρ
  | _ => .stuck
section
variable {X : Cx} {W : WX}
theorem stp_obj {kp : Nat → Prop} {w : Om} {H : Hp} {b : Addr} {o : HO} (hb : H b = none) : Stp kp w H w (upd H b o) where
  sh := fun a u e h => by
    have n : a ≠ b := fun z => by rw [z, hb] at h; cases h
    exact ⟨by rw [upd_ne n]; exact h, e⟩
  own := fun a k p u e hk h => by
    have n : a ≠ b := fun z => by rw [z, hb] at h; cases h
    exact ⟨by rw [upd_ne n]; exact h, e⟩
  back := fun a k p e hk => e
theorem dom_obj {w : Om} {H : Hp} {r : Nat} {b : Addr} {o : HO} (d : Dom w H r) (hb : H b = none) : Dom w (upd H b o) r := fun a t e => by
  have q := d a t e
  have n : a ≠ b := fun z => by
    have := d.fresh hb
    rw [z, this] at e; cases e
  rw [upd_ne n]; exact q
theorem de_new0 {C : Addr} {x : Str} {p pos : Pos} {k : Nat} {F : Rho → Res Cel} (ID : InD X.prog X.w X.K X.mg X.base C k F) (tk : L2N.Takes X W) (hr : Room (k + 1) X.A) (hgl : Gl X x) (hmg : X.mg x = some (.ref C)) (hdb : (x == ("__debug__" : Str)) = false := by decide) :
    DE X W [] .tmp (.Call (.Name x p) [] [] pos) (dNew C F) := by
  obtain ⟨f, fd, ps, mj, M, hb, h0, FO⟩ := ID.ex
  refine ⟨_, pe_new0 (E := WE W) M FO hr hgl hmg hb (fun pins σ _ H2 _ s2 e s' _ I2 c => L2N.passAt tk σ pins H2 s2 e s' I2 c) hdb, fun r w H σ ρ Q hr s gg => ?_⟩
  intro y dx hy hdx hne
  have hr0 : 0 < r := by omega
  let Ss : List Src := [.slot (r - 1)]
  let ks : List Pk := [.chg]
  let H0 := upd H dx (.own y)
  let H1 := upd H0 y (.ins C dx [])
  let w1 := setO w y (some [r])
  have hy0 : H0 y = none := by show upd H dx _ y = none; rw [upd_ne fun z => hne z.symm]; exact hy
  have hml : mutIx Ss ks (r - 1) = some 0 := by
    show (if r - 1 = r - 1 then some 0 else _) = _
    rw [if_pos rfl]
  have hms : mutSlot Ss ks 0 = some (r - 1) := rfl
  have stA : Stp (fun k => k < r) w H w H0 := stp_obj hdx
  have stB : Stp (fun k => k < r) w H0 w1 H1 := Stp.new hy0 fun k p' e => by cases e; exact Nat.lt_irrefl _
  have st1 := stA.trans stB
  have d1 : Dom w1 H1 (r + 1) := ((dom_obj s.dom hdx).sub (Nat.le_succ _)).new hy0 fun t' e => by
    cases e; exact ⟨trivial, r, [], rfl, Nat.lt_succ_self _⟩
  have hin : inF (r + 1) Ss ks [r] = some [1] := by
    show (if r + 1 ≤ r then _ else if r = 0 then _ else match mutIx Ss ks (r - 1) with | some j => some ((j + 1) :: []) | none => _) = _
    rw [if_neg (by omega), if_neg (by omega), hml]
  have hmem : ∀ i ∈ mutList Ss ks, i + 1 < r + 1 := fun i hi => by
    have : i = r - 1 := List.mem_singleton.mp hi
    omega
  have hmT : ∀ i ∈ mutList Ss ks, i ∈ [r - 1] := fun i hi => hi
  refine ⟨rfl, bindO w1 (inF (r + 1) Ss ks), [some (.all, .ins C [])], ⟨rfl, rfl, fun a t e => ?_, fun i c e => ?_⟩, ?_⟩
  · cases z : w1 a with
    | none => rw [bindO_none z] at e; cases e
    | some t1 =>
      rw [bindO_some z] at e
      exact ⟨(d1 a t1 z).1, inF_root (n := 1) rfl e⟩
  · match i, e with
    | 0, e =>
      cases e
      refine ⟨.ref y, rfl, y, dx, [], rfl, ?_, upd_same, rfl⟩
      show bindO w1 (inF (r + 1) Ss ks) y = some [1]
      rw [bindO_some (t := [r]) setO_same]
      exact hin
    | i + 1, e => simp at e
  · have back : ∀ (w2 : Om) (H2 : Hp), Dom w2 H2 3 → Stp (fun k => k = 0) (bindO w1 (inF (r + 1) Ss ks)) H1 w2 H2 →
        Sat X.K X.N.length (r + 1) (cutO (bindO w2 (outF (r + 1) 1 Ss ks)) (r + 1)) H2 σ ρ ∧ Stp (kpE [] r) w H (cutO (bindO w2 (outF (r + 1) 1 Ss ks)) (r + 1)) H2 ∧ Dom (bindO w2 (outF (r + 1) 1 Ss ks)) H2 (r + 2) := fun w2 H2 d2 st2 => by
      have cst : Stp (kpE [r - 1] (r + 1)) w1 H1 (bindO w2 (outF (r + 1) 1 Ss ks)) H2 := call_stp hmT st2
      have dm := call_dom (n := 1) d2 d1 st2 hmem (Nat.le_refl _)
      have ct : Stp (fun k => k < r + 1) (bindO w2 (outF (r + 1) 1 Ss ks)) H2 (cutO (bindO w2 (outF (r + 1) 1 Ss ks)) (r + 1)) H2 := Stp.cut fun _ h => h
      have all : Stp (fun k => k < r) w H (cutO (bindO w2 (outF (r + 1) 1 Ss ks)) (r + 1)) H2 := (st1.trans (cst.mono fun k hk => ⟨by omega, fun i hi => by have := List.mem_singleton.mp hi; omega⟩)).trans (ct.mono fun k hk => by omega)
      exact ⟨s.stp all (fun k hk => by omega) (dm.cut _), all.mono fun k h => h.1, dm⟩
    cases e1 : F [some (.all, .ins C [])] with
    | stuck => unfold dNew at gg; rw [e1] at gg; exact gg
    | exc x ps' =>
      unfold dNew at gg
      rw [e1] at gg
      intro w2 H2 cls da d2 xo bk st2
      obtain ⟨s3, st3, dm⟩ := back w2 H2 d2 st2
      have ct : Stp (fun k => k < r) (cutO (bindO w2 (outF (r + 1) 1 Ss ks)) (r + 1)) H2 (cutO (cutO (bindO w2 (outF (r + 1) 1 Ss ks)) (r + 1)) r) H2 := Stp.cut fun _ h => h
      have ct0 : Stp (fun k => k < r + 1) (bindO w2 (outF (r + 1) 1 Ss ks)) H2 (cutO (bindO w2 (outF (r + 1) 1 Ss ks)) (r + 1)) H2 := Stp.cut fun _ h => h
      refine gg _ H2 cls da (s3.cut hr) ⟨xo.1, fun z => ?_, xo.2.2⟩ (st3.trans (ct.mono fun k h => h.1))
      obtain ⟨d, ws, ed, hd, hf⟩ := xo.2.1 z
      have hf' : RpF X.K (bindO w2 (outF (r + 1) 1 Ss ks)) H2 (.own 0) [0] 0 x.fs ws := RpF.map Mp.bind0 x.fs ⟨rfl, rfl⟩ hf
      exact ⟨d, ws, ed, hd, (hf'.stp dm ct0 (by omega)).stp s3.dom ct (by omega)⟩
    | ok c ps' =>
      unfold dNew at gg
      rw [e1] at gg
      intro w2 H2 v d2 h2 bk st2
      obtain ⟨s3, st3, dm⟩ := back w2 H2 d2 st2
      obtain ⟨cm, cd⟩ := c
      cases cd <;> try exact gg.elim
      match ps', gg, bk with
      | [], gg, _ => exact gg.elim
      | none :: _, gg, _ => cases ‹List (Option Cel)› <;> exact gg.elim
      | some c0 :: _ :: _, gg, _ => exact gg.elim
      | [some c0], gg, bk =>
        have gg : GoodE X W [] .tmp r w H σ Q (if c0.1 = .lent then .stuck else .ok c0 ρ) := gg
        by_cases hl : c0.1 = .lent
        · rw [if_pos hl] at gg; exact gg.elim
        · rw [if_neg hl] at gg
          obtain ⟨u, eu, hu⟩ := bk 0 h0 c0 rfl
          cases (show some (V.ref y) = some u from eu)
          have ct : Stp (fun k => k < r + 1) (bindO w2 (outF (r + 1) 1 Ss ks)) H2 (cutO (bindO w2 (outF (r + 1) 1 Ss ks)) (r + 1)) H2 := Stp.cut fun _ h => h
          have hm : Rp X.K (bindO w2 (outF (r + 1) 1 Ss ks)) H2 c0.1 [r] c0.2 (.ref y) := Rp.moveN (.inl hl) (fun p => by
            have := outF_m (r := r + 1) (n := 1) (p := p) hms rfl
            rw [show r - 1 + 1 = r by omega] at this
            exact this) hu
          exact ⟨h2, gg _ H2 (.ref y) [r] s3 rfl (hm.stp dm ct (by omega) (Nat.lt_succ_self r)) st3⟩
end
end DL

/-! DL part 41: what holds behind fields, methods, new instances; max, min, sum of lists. -/
namespace DL
open PySem L2
theorem ofString_eq {a b : String} : (Str.ofString a = Str.ofString b) ↔ a = b := by
  rw [ofString_S, ofString_S, S_inj]
  constructor
  · intro h
    have inj : Function.Injective Char.toNat := fun x y e => Char.ext (UInt32.toNat_inj.mp e)
    exact String.ext ((List.map_inj_right (fun x y e => inj e)).mp h)
  · intro h; rw [h]
@[simp] theorem posN_nil {f : Str} : posN [] f = none := rfl
@[simp] theorem posN_eq {a b : String} {xs : List Str} : posN (Str.ofString a :: xs) (Str.ofString b) = if a = b then some 0 else (posN xs (Str.ofString b)).map (· + 1) := by
  rw [posN_cons]
  by_cases h : a = b
  · rw [if_pos h, if_pos (ofString_eq.mpr h)]
  · rw [if_neg h, if_neg fun z => h (ofString_eq.mp z)]
section
variable {ρ : Rho} {X : XP} {K : Post} {C : Addr}
@[simp] theorem w_fldP {f : Str} {f1 : Rho → Res (Cel × Tag)} {Q : Cel × Tag → Rho → Prop} : (@wE _ (dFldP C f f1 ρ) ⟨Q⟩ ⟨X⟩) = (@wE _ (f1 ρ) ⟨(fun cp e => (@oE _ (gFld C f cp.1) ⟨(fun jc => Q (jc.2, cp.2 ++ [jc.1]) e)⟩))⟩ ⟨X⟩) := by
  show P0.wE _ _ _ = P0.wE _ (fun cp e => P0.oE _ _) _
  unfold dFldP P0.oE
  cases e1 : f1 ρ with
  | stuck => rfl
  | exc x e => rfl
  | ok cp e =>
    show P0.wE (match gFld C f cp.1 with | some jc => .ok (jc.2, cp.2 ++ [jc.1]) e | none => .stuck) _ _ = ∃ a, gFld C f cp.1 = some a ∧ Q (a.2, cp.2 ++ [a.1]) e
    cases gFld C f cp.1 <;> simp [P0.wE]
@[simp] theorem w_fld {f : Str} {i : Nat} {fe : Rho → Res Cel} {fP : Rho → Res (Cel × Tag)} : (@wS (dsFld C f i fe fP ρ) K) = (@wE _ (fe ρ) ⟨(fun c e1 => (@wE _ (fP e1) ⟨(fun cp e2 => (@oE _ (fldRes C f i c cp e2) ⟨K.nx⟩))⟩ ⟨K.ex⟩))⟩ ⟨K.ex⟩) := by
  show P0.wS _ K.p = P0.wE _ (fun c e1 => P0.wE _ (fun cp e2 => P0.oE _ _) _) _
  unfold dsFld P0.oE
  cases e1 : fe ρ with
  | stuck => rfl
  | exc x e => rfl
  | ok c e =>
    simp only [Res.bind]
    cases e2 : fP e with
    | stuck => simp [P0.wE, P0.wS, Res.bind, e2]
    | exc x e => simp [P0.wE, P0.wS, Res.bind, e2, Post.p]
    | ok cp e2' =>
      simp only [Res.bind, P0.wE, e2]
      cases fldRes C f i c cp e2' <;> simp [P0.wS, P0.wE, Post.p]
@[simp] theorem fldRes_eq {f : Str} {i : Nat} {c : Cel} {m : Md} {d : D} {p : Tag} {ρ2 : Rho} : fldRes C f i c ((m, d), p) ρ2 = if m.mut = true then (fldIt C f m d c).bind fun x => putAt i p m x.1 x.2.1 ρ2 ρ2 else none := rfl
@[simp] theorem w_recv {m : Str} {fo : Rho → Res Cel} {fa : Rho → Res (List Cel)} {Q : List Cel → Rho → Prop} : (@wE _ (dRecv C m fo fa ρ) ⟨Q⟩ ⟨X⟩) = (@wE _ (fo ρ) ⟨(fun c e1 => (@nE (isRecv C m c.2 = true) ⟨fun _ => ((@wE _ (fa e1) ⟨(fun cs e2 => Q (c :: cs) e2)⟩ ⟨X⟩))⟩))⟩ ⟨X⟩) := by
  show P0.wE _ _ _ = P0.wE _ (fun c e1 => P0.nE _ (P0.wE _ (fun cs e2 => _) _)) _
  unfold dRecv P0.nE
  cases e1 : fo ρ with
  | stuck => rfl
  | exc x e => rfl
  | ok c e =>
    show P0.wE (if isRecv C m c.2 = true then (fa e).bind fun cs ρ2 => .ok (c :: cs) ρ2 else .stuck) _ _ = _
    by_cases h : isRecv C m c.2 = true
    · rw [if_pos h]
      simp only [P0.wE, h, true_and]
      cases fa e <;> rfl
    · rw [if_neg h]; simp [P0.wE, h]
@[simp] theorem w_new {F : Rho → Res Cel} {Q : Cel → Rho → Prop} : (@wE _ (dNew C F ρ) ⟨Q⟩ ⟨X⟩) = (@wE _ (F [some (.all, .ins C [])]) ⟨(fun c ps => ∃ c0, c.2 = .non ∧ ps = [some c0] ∧ c0.1 ≠ .lent ∧ Q c0 ρ)⟩ ⟨(fun x _ => X x ρ)⟩) := by
  show P0.wE _ _ _ = P0.wE _ (fun c ps => _) (fun x _ => _)
  unfold dNew
  cases e1 : F [some (.all, .ins C [])] with
  | stuck => rfl
  | exc x e => rfl
  | ok c ps =>
    obtain ⟨m, d⟩ := c
    show P0.wE (match (.ok (m, d) ps : Res Cel) with | .ok (_, .non) [some c] => if c.1 = .lent then .stuck else .ok c ρ | .exc x _ => .exc x ρ | _ => .stuck) _ _ = ∃ c0, d = .non ∧ ps = [some c0] ∧ c0.1 ≠ .lent ∧ Q c0 ρ
    cases d <;> try (simp [P0.wE]; done)
    match ps with
    | [] => simp [P0.wE]
    | none :: [] => simp [P0.wE]
    | none :: _ :: _ => simp [P0.wE]
    | some c0 :: _ :: _ => simp [P0.wE]
    | [some c0] =>
      by_cases hl : c0.1 = .lent
      · simp [P0.wE, hl]
      · simp [P0.wE, hl]
@[simp] theorem w_stk : (@wS (dsStk ρ) K) = False := rfl
end
@[simp] theorem isRecv_ins {C : Addr} {m : Str} {fs : List (Str × D)} : isRecv C m (.ins C fs) = (posN (fs.map Prod.fst) m).isNone := by
  show (decide (C = C) && _) = _
  simp
@[simp] theorem gFld_ins {C : Addr} {f : Str} {m : Md} {fs : List (Str × D)} : gFld C f (m, .ins C fs) = (posN (fs.map Prod.fst) f).bind fun j => (fs[j]?).map fun p => (j, (m.sub, p.2)) := if_pos rfl
@[simp] theorem fldIt_ins {C : Addr} {f : Str} {m : Md} {fs : List (Str × D)} {c : Cel} : fldIt C f m (.ins C fs) c = if fs.length < 1000 then (appMd m (fs.map Prod.snd) c).map fun md => (md, .ins C (putFD fs f c.2), (posN (fs.map Prod.fst) f).getD fs.length) else none := by
  show (if C = C ∧ fs.length < 1000 then _ else _) = _
  simp
@[simp] theorem imm_ins {C : Addr} {fs : List (Str × D)} : imm (.ins C fs) = false := rfl
@[simp] theorem retCel_ins {C : Addr} {fs : List (Str × D)} : retCel (.all, .ins C fs) = some (.all, .ins C fs) := rfl
@[simp] theorem lendC_ins {C : Addr} {fs : List (Str × D)} : lendC (.all, .ins C fs) = (.lent, .ins C fs) := rfl
@[simp] theorem lendC_ins2 {C : Addr} {fs : List (Str × D)} : lendC (.lent, .ins C fs) = (.lent, .ins C fs) := rfl
@[simp] theorem mvO_ins {C : Addr} {fs : List (Str × D)} {i : Nat} {ρ : Rho} : mvO i (.all, .ins C fs) ρ = ((.all, .ins C fs), ρ.set i none) := rfl
/-! ### max, min, sum -/
def maxL : List Int → Int
  | [] => 0
  | [x] => x
  | x :: y :: r => if maxL (y :: r) < x then x else maxL (y :: r)
theorem maxL_ok : ∀ {ns : List Int}, 0 < ns.length → maxL ns ∈ ns ∧ ∀ y ∈ ns, y ≤ maxL ns
  | [], h => by simp at h
  | [x], _ => by simp [maxL]
  | x :: y :: r, _ => by
    have ih := maxL_ok (ns := y :: r) (by simp)
    show (if maxL (y :: r) < x then x else maxL (y :: r)) ∈ _ ∧ ∀ z ∈ _, z ≤ (if maxL (y :: r) < x then x else maxL (y :: r))
    split
    · refine ⟨by simp, fun z hz => ?_⟩
      rcases List.mem_cons.mp hz with h | h
      · omega
      · have := ih.2 z h; omega
    · refine ⟨List.mem_cons_of_mem _ ih.1, fun z hz => ?_⟩
      rcases List.mem_cons.mp hz with h | h
      · omega
      · exact ih.2 z h
def minL (ns : List Int) : Int := - maxL (ns.map fun x => -x)
theorem minL_ok {ns : List Int} (h : 0 < ns.length) : minL ns ∈ ns ∧ ∀ y ∈ ns, minL ns ≤ y := by
  obtain ⟨h1, h2⟩ := maxL_ok (ns := ns.map fun x => -x) (by simpa using h)
  obtain ⟨x, hx, e⟩ := List.mem_map.mp h1
  unfold minL
  refine ⟨by rw [← e, Int.neg_neg]; exact hx, fun y hy => ?_⟩
  have := h2 (-y) (List.mem_map.mpr ⟨y, hy, rfl⟩)
  omega
def gIntsL (g : List Int → Option Int) : List Cel → Option Cel
  | [c] => match c.2 with
    | .lst ds => ((allInt ds).bind g).map fun n => (.own 0, .int n)
    | _ => none
  | _ => none
def gMaxL := gIntsL fun ns => if 0 < ns.length then some (maxL ns) else none
def gMinL := gIntsL fun ns => if 0 < ns.length then some (minL ns) else none
def gSumL := gIntsL fun ns => some ns.sum
theorem ok_intsL {K : PySem.W.Frag} {R : List V → Hp → VK → Prop} {g : List Int → Option Int} (hR : ∀ a ns n H Q, SqL K H a (ns.map V.int) → g ns = some n → Q (.int n) H → R [.ref a] H Q) : CbOk K R (gIntsL g) := by
  intro r w H cs vs c Q hr d a e k
  unfold gIntsL at e
  split at e
  · rename_i c1
    obtain ⟨v, t, rfl, h⟩ := argR1 a
    obtain ⟨m, d1⟩ := c1
    dsimp only at e h
    split at e
    · rename_i ds
      obtain ⟨ad, us, ea, nd, ob, rl⟩ := h
      cases e1 : allInt ds with
      | none => rw [e1] at e; cases e
      | some ns =>
        rw [e1] at e
        have := allInt_ok e1 rl
        subst this
        cases e2 : g ns with
        | none => simp [e2] at e
        | some n =>
          simp [e2] at e
          subst e
          subst ea
          exact hR ad ns n H Q (SqL.of ob) e2 (k w H (.int n) (d.sub (Nat.le_succ _)) Stp.refl rfl)
    · cases e
  · cases e
theorem ok_maxL {K : PySem.W.Frag} : CbOk K (rMax K) gMaxL := ok_intsL fun a ns n H Q hs e q => by
  by_cases h : 0 < ns.length
  · rw [if_pos h] at e
    cases e
    obtain ⟨h1, h2⟩ := maxL_ok h
    exact ⟨a, ns, rfl, hs, h, fun m hm hall => by rw [show m = maxL ns from Int.le_antisymm (h2 m hm) (hall _ h1)]; exact q⟩
  · rw [if_neg h] at e; cases e
theorem ok_minL {K : PySem.W.Frag} : CbOk K (rMin K) gMinL := ok_intsL fun a ns n H Q hs e q => by
  by_cases h : 0 < ns.length
  · rw [if_pos h] at e
    cases e
    obtain ⟨h1, h2⟩ := minL_ok h
    exact ⟨a, ns, rfl, hs, h, fun m hm hall => by rw [show m = minL ns from Int.le_antisymm (hall _ h1) (h2 m hm)]; exact q⟩
  · rw [if_neg h] at e; cases e
theorem ok_sumL {K : PySem.W.Frag} : CbOk K (rSum K) gSumL := ok_intsL fun a ns n H Q hs e q => by
  cases e
  exact ⟨a, ns, rfl, hs, q⟩
section
variable {m : Md} {ns : List Int}
@[simp] theorem gMaxL_eq (h : 0 < ns.length) : gMaxL [(m, .lst (ns.map fun i => .int i))] = some (.own 0, .int (maxL ns)) := by
  show ((allInt (ns.map D.int)).bind _).map _ = _
  rw [allInt_map]
  simp [h]
@[simp] theorem gMinL_eq (h : 0 < ns.length) : gMinL [(m, .lst (ns.map fun i => .int i))] = some (.own 0, .int (minL ns)) := by
  show ((allInt (ns.map D.int)).bind _).map _ = _
  rw [allInt_map]
  simp [h]
@[simp] theorem gSumL_eq : gSumL [(m, .lst (ns.map fun i => .int i))] = some (.own 0, .int ns.sum) := by
  show ((allInt (ns.map D.int)).bind _).map _ = _
  rw [allInt_map]; rfl
end
/-! ### startswith, endswith -/
@[simp] theorem gStarts_S {m m2 : Md} {a b : List Nat} : gStarts (m, .str (S a)) [(m2, .str (S b))] = some (.own 0, .bl (decide (a.take b.length = b))) := by
  show some (Md.own 0, D.bl (Txt.startswith (S a) (S b))) = _
  rw [starts_S]
@[simp] theorem gEnds_S {m m2 : Md} {a b : List Nat} : gEnds (m, .str (S a)) [(m2, .str (S b))] = some (.own 0, .bl (decide (b.length ≤ a.length ∧ a.drop (a.length - b.length) = b))) := by
  show some (Md.own 0, D.bl (Txt.endswith (S a) (S b))) = _
  rw [ends_S]
end DL

/-! DL part 42: a grammar as data. -/
namespace DL
open PySem L2
theorem eq_pair {a b c d : List Nat} (ha : ∀ x ∈ a, x < 1114112) (hb : ∀ x ∈ b, x < 1114112) (hc : ∀ x ∈ c, x < 1114112) (hd : ∀ x ∈ d, x < 1114112) :
    gEq (.tup [.str (S a), .str (S b)]) (.tup [.str (S c), .str (S d)]) = some (decide (a = c) && decide (b = d)) := by
  have g : ∀ {a b : List Nat}, (∀ x ∈ a, x < 1114112) → (∀ x ∈ b, x < 1114112) → dgoodL 63 [.str (S a), .str (S b)] = true := fun {a b} ha hb => by
    show (dgood 63 (.str (S a)) && (dgood 63 (.str (S b)) && true)) = true
    rw [dgood_S ha, dgood_S hb]; rfl
  rw [gEq_tup (g ha hb) (g hc hd)]
  show some (deq (.str (S a)) (.str (S c)) && (deq (.str (S b)) (.str (S d)) && true)) = _
  rw [deq_str, deq_str, Bool.and_true]
@[simp] theorem forD_nil {md : Md} {g : Cel → Rho → Option Rho} {body : Rho → SR} {ρ : Rho} : forD md g body [] ρ = .nx ρ := rfl
theorem app_at {k j : Nat} {p : Tag} {ds : List D} {ρ1 ρ2 : Rho} {m m0 : Md} {d : D} {c0 : Cel} (hm : m0.mut = true) (hd : imm d = true) (h : ds.length < 16777216) (h1 : ρ1[k]? = some (some c0)) : P0.appO k m0 ds (j :: p) ρ1 (m, d) ρ2 = some (ρ2.set k (some (c0.1, setAt (j :: p) c0.2 (.lst (ds ++ [d]))))) := by
  unfold P0.appO
  rw [appMd_imm hm (show imm d = true from hd)]
  show (if ds.length < sizeLine then putAt k (j :: p) m0 m0 (.lst (ds ++ [d])) ρ1 ρ2 else none) = _
  rw [if_pos (by rw [sz]; exact h), putAt_at h1]
abbrev Wd := List Nat
abbrev Tb := List (Wd × List Wd)
abbrev Pt := Wd × List Wd
def wsD (vs : List Wd) : D := .tup (vs.map fun w => .str (S w))
def ptD (p : Pt) : D := .tup [.str (S p.1), wsD p.2]
/-- a gloss item: a number or a text -/
inductive Gi where
  | n (i : Int)
  | t (x : Wd)
def Gi.d : Gi → D
  | .n i => .int i
  | .t x => .str (S x)
structure Ru where
  p : Pt
  ps : List Pt
  cost : Int
  row : List Gi
def Ru.d (r : Ru) : D := .tup [ptD r.p, .tup (r.ps.map ptD), .int r.cost, .tup (r.row.map Gi.d)]
def mkD (q : Wd × Wd) : D := .tup [.str (S q.1), .str (S q.2)]
structure Mo where
  text : Wd
  kind : Wd
  marks : List (Wd × Wd)
  cost : Int
  gloss : Wd
def Mo.d (m : Mo) : D := .tup [.str (S m.text), .str (S m.kind), .tup (m.marks.map mkD), .int m.cost, .str (S m.gloss)]
structure Se where
  l : Wd
  r : Wd
  j : Wd
def Se.d (s : Se) : D := .tup [.str (S s.l), .str (S s.r), .str (S s.j)]
def opD : Option Wd → D
  | none => .non
  | some x => .str (S x)
structure Gr where
  att : Tb := []
  cat : Tb := []
  ru : List Ru := []
  mo : List Mo := []
  arc : List ((Wd × Wd) × Wd) := []
  en : List (Wd × Wd) := []
  se : List Se := []
  st : Option Wd := none
  fi : Option Wd := none
def arcD (xs : List ((Wd × Wd) × Wd)) : List (List Key × D) := xs.map fun q => ([.inr (S q.1.1), .inr (S q.1.2)], .str (S q.2))
def gD (c : Addr) (g : Gr) : D := .ins c [("_attributes", .dK (enc wsD g.att)), ("_categories", .dK (enc wsD g.cat)), ("_rules", .lst (g.ru.map Ru.d)), ("_morphs", .lst (g.mo.map Mo.d)), ("_arcs", .dT (arcD g.arc)), ("_ends", .lst (g.en.map mkD)), ("_seams", .lst (g.se.map Se.d)), ("_start", opD g.st), ("_first", opD g.fi)]
@[simp] theorem appMd_imn {m m2 : Md} {ds : List D} (hm : m.mut = true) : appMd m ds (m2, .non) = some m := appMd_imm hm rfl
@[simp] theorem wsD_imm {vs : List Wd} : imm (wsD vs) = true := by unfold wsD; simp
@[simp] theorem ptD_imm {p : Pt} : imm (ptD p) = true := by unfold ptD; simp
@[simp] theorem Gi_imm {g : Gi} : imm g.d = true := by cases g <;> rfl
@[simp] theorem immL_pt {ps : List Pt} : immL (ps.map ptD) = true := immL_map (f := ptD) (fun _ => ptD_imm) ps
@[simp] theorem immL_Gi {ps : List Gi} : immL (ps.map Gi.d) = true := immL_map (f := Gi.d) (fun _ => Gi_imm) ps
@[simp] theorem Ru_imm {r : Ru} : imm r.d = true := by unfold Ru.d; simp
@[simp] theorem immL_Ru {ps : List Ru} : immL (ps.map Ru.d) = true := immL_map (f := Ru.d) (fun _ => Ru_imm) ps
@[simp] theorem mkD_imm {q : Wd × Wd} : imm (mkD q) = true := rfl
@[simp] theorem immL_mk {ps : List (Wd × Wd)} : immL (ps.map mkD) = true := immL_map (f := mkD) (fun _ => mkD_imm) ps
@[simp] theorem Mo_imm {r : Mo} : imm r.d = true := by unfold Mo.d; simp
@[simp] theorem immL_Mo {ps : List Mo} : immL (ps.map Mo.d) = true := immL_map (f := Mo.d) (fun _ => Mo_imm) ps
@[simp] theorem Se_imm {r : Se} : imm r.d = true := rfl
@[simp] theorem immL_Se {ps : List Se} : immL (ps.map Se.d) = true := immL_map (f := Se.d) (fun _ => Se_imm) ps
@[simp] theorem opD_imm {o : Option Wd} : imm (opD o) = true := by cases o <;> rfl
section
variable {c : Addr} {g : Gr} {m : Md} {i : Nat} {ρ : Rho}
@[simp] theorem g_att : gFld c "_attributes" (m, gD c g) = some (0, (m.sub, .dK (enc wsD g.att))) := by unfold gD; simp
@[simp] theorem g_cat : gFld c "_categories" (m, gD c g) = some (1, (m.sub, .dK (enc wsD g.cat))) := by unfold gD; simp
@[simp] theorem g_ru : gFld c "_rules" (m, gD c g) = some (2, (m.sub, .lst (g.ru.map Ru.d))) := by unfold gD; simp
@[simp] theorem g_mo : gFld c "_morphs" (m, gD c g) = some (3, (m.sub, .lst (g.mo.map Mo.d))) := by unfold gD; simp
@[simp] theorem g_arc : gFld c "_arcs" (m, gD c g) = some (4, (m.sub, .dT (arcD g.arc))) := by unfold gD; simp
@[simp] theorem g_en : gFld c "_ends" (m, gD c g) = some (5, (m.sub, .lst (g.en.map mkD))) := by unfold gD; simp
@[simp] theorem g_se : gFld c "_seams" (m, gD c g) = some (6, (m.sub, .lst (g.se.map Se.d))) := by unfold gD; simp
@[simp] theorem g_st : gFld c "_start" (m, gD c g) = some (7, (m.sub, opD g.st)) := by unfold gD; simp
@[simp] theorem g_fi : gFld c "_first" (m, gD c g) = some (8, (m.sub, opD g.fi)) := by unfold gD; simp
@[simp] theorem gD_imm : imm (gD c g) = false := rfl
@[simp] theorem gD_ret : retCel (.all, gD c g) = some (.all, gD c g) := rfl
@[simp] theorem gD_lend : lendC (.all, gD c g) = (.lent, gD c g) := rfl
@[simp] theorem gD_lend2 : lendC (.lent, gD c g) = (.lent, gD c g) := rfl
@[simp] theorem gD_mv : mvO i (.all, gD c g) ρ = ((.all, gD c g), ρ.set i none) := rfl
theorem gD_recv {f : String} (h : f ∉ ["_attributes", "_categories", "_rules", "_morphs", "_arcs", "_ends", "_seams", "_start", "_first"]) : isRecv c (Str.ofString f) (gD c g) = true := by
  simp only [List.mem_cons, List.not_mem_nil, or_false, not_or] at h
  unfold gD
  simp only [isRecv_ins, List.map_cons, List.map_nil, posN_eq, posN_nil]
  simp only [Ne.symm h.1, Ne.symm h.2.1, Ne.symm h.2.2.1, Ne.symm h.2.2.2.1, Ne.symm h.2.2.2.2.1, Ne.symm h.2.2.2.2.2.1, Ne.symm h.2.2.2.2.2.2.1, Ne.symm h.2.2.2.2.2.2.2.1, Ne.symm h.2.2.2.2.2.2.2.2, if_false]
  rfl
theorem sA_se1 {s : Se} : setAt [6] (gD c g) (.lst (g.se.map Se.d ++ [s.d])) = gD c { g with se := g.se ++ [s] } := by
  rw [show g.se.map Se.d ++ [s.d] = (g.se ++ [s]).map Se.d by simp]; rfl
theorem sA_mo1 {s : Mo} : setAt [3] (gD c g) (.lst (g.mo.map Mo.d ++ [s.d])) = gD c { g with mo := g.mo ++ [s] } := by
  rw [show g.mo.map Mo.d ++ [s.d] = (g.mo ++ [s]).map Mo.d by simp]; rfl
theorem sA_se {xs : List Se} : setAt [6] (gD c g) (.lst (xs.map Se.d)) = gD c { g with se := xs } := rfl
theorem sA_mo {xs : List Mo} : setAt [3] (gD c g) (.lst (xs.map Mo.d)) = gD c { g with mo := xs } := rfl
theorem sA_ru {xs : List Ru} : setAt [2] (gD c g) (.lst (xs.map Ru.d)) = gD c { g with ru := xs } := rfl
theorem sA_en {xs : List (Wd × Wd)} : setAt [5] (gD c g) (.lst (xs.map mkD)) = gD c { g with en := xs } := rfl
theorem sA_att {xs : Tb} : setAt [0] (gD c g) (.dK (enc wsD xs)) = gD c { g with att := xs } := rfl
theorem sA_cat {xs : Tb} : setAt [1] (gD c g) (.dK (enc wsD xs)) = gD c { g with cat := xs } := rfl
theorem sA_arc {xs : List ((Wd × Wd) × Wd)} : setAt [4] (gD c g) (.dT (arcD xs)) = gD c { g with arc := xs } := rfl
end
end DL

/-! DL part 43: x += e, while, a bare return. -/
namespace DL
open PySem L2
def dsAug (i : Nat) (g : Int → Int → Int) (fe : Rho → Res Cel) : Rho → SR := fun ρ => match ρ[i]? with
  | some (some (_, .int a)) => (match fe ρ with
    | .ok (_, .int b) ρ1 => .nx (ρ1.set i (some (.own 0, .int (g a b))))
    | .exc x ρ1 => .exc x ρ1
    | _ => .stuck)
  | _ => .stuck
def dsRetN : Rho → SR := fun ρ => .rt (.own 0, .non) ρ
def whileD (c : Rho → Res Bool) (body : Rho → SR) : Nat → Rho → SR
  | 0, _ => .stuck
  | n + 1, ρ => match c ρ with
    | .stuck => .stuck
    | .exc x ρ1 => .exc x ρ1
    | .ok false ρ1 => .nx ρ1
    | .ok true ρ1 => match body ρ1 with
      | .nx ρ2 => whileD c body n ρ2
      | .ct ρ2 => whileD c body n ρ2
      | .bk ρ2 => .nx ρ2
      | .rt c ρ2 => .rt c ρ2
      | .exc x ρ2 => .exc x ρ2
      | .stuck => .stuck
open Classical in
noncomputable def dsWhile (c : Rho → Res Bool) (body : Rho → SR) : Rho → SR := fun ρ => if h : ∃ n, whileD c body n ρ ≠ .stuck then whileD c body h.choose ρ else .stuck
theorem whileD_up {c : Rho → Res Bool} {body : Rho → SR} : ∀ {n : Nat} {ρ : Rho}, whileD c body n ρ ≠ .stuck → whileD c body (n + 1) ρ = whileD c body n ρ
  | 0, ρ, h => (h rfl).elim
  | n + 1, ρ, h => by
    rw [whileD] at h
    rw [whileD, whileD]
    cases e1 : c ρ with
    | stuck => rfl
    | exc x ρ1 => rfl
    | ok b ρ1 =>
      rw [e1] at h
      cases b with
      | false => rfl
      | true =>
        simp only at h ⊢
        cases e2 : body ρ1 with
        | stuck => rfl
        | rt c e => rfl
        | bk e => rfl
        | exc x e => rfl
        | nx ρ2 => rw [e2] at h; exact whileD_up h
        | ct ρ2 => rw [e2] at h; exact whileD_up h
theorem whileD_le {c : Rho → Res Bool} {body : Rho → SR} {n m : Nat} {ρ : Rho} (h : whileD c body n ρ ≠ .stuck) (hm : n ≤ m) : whileD c body m ρ = whileD c body n ρ := by
  induction m with
  | zero => rw [show n = 0 by omega]
  | succ m ih =>
    rcases Nat.lt_or_ge n (m + 1) with z | z
    · have e := ih (by omega)
      rw [whileD_up (by rw [e]; exact h), e]
    · rw [show n = m + 1 by omega]
theorem dsWhile_eq {c : Rho → Res Bool} {body : Rho → SR} {n : Nat} {ρ : Rho} (h : whileD c body n ρ ≠ .stuck) : dsWhile c body ρ = whileD c body n ρ := by
  have hx : ∃ n, whileD c body n ρ ≠ .stuck := ⟨n, h⟩
  unfold dsWhile
  rw [dif_pos hx]
  rcases Nat.le_total n hx.choose with z | z
  · exact whileD_le h z
  · exact (whileD_le hx.choose_spec z).symm
section
variable {X : Cx} {W : WX} {M : List Nat}
theorem ds_retN {pos : Pos} : DS X W M [] (.Return none pos) dsRetN := ⟨_, ps_retN, fun r w H σ ρ D hr s g => g w H σ .non (s.up (Nat.le_succ _)) rfl Stp.refl Fx.refl⟩
theorem ds_aug (i : Nat) {x : Str} {e : Expr} {op : Operator} {g : Int → Int → Int} {f : Rho → Res Cel} {T : List Nat} {S : Src} {pos pos' : Pos} (A : DE X W T S e f) (ip : PIp X op (ipI g)) (hN : X.N.Nodup) (hi : X.N[i]? = some x := by rfl) (hl : i < X.N.length := by exact ltN rfl) (hx : Loc X.env.scope x := by first | exact Or.inl rfl | exact Or.inr rfl) (hM : M.contains i = false := by rfl)
    (hf : X.fn x = true ∨ X.env.scope.names.lookup x = some .local := by first | exact .inl rfl | exact .inr rfl | assumption) :
    DS X W M (i :: T) (.AugAssign (.Name x pos') op e pos) (dsAug i g f) := by
  obtain ⟨t, pe, A⟩ := A.ex
  refine ⟨_, ps_aug hN hi hx pe ip hf, fun r w H σ ρ D hr s gg => ?_⟩
  unfold dsAug at gg
  split at gg
  · rename_i m a e0
    obtain ⟨v, h1, h2⟩ := s.slot i _ e0
    cases (show v = V.int a from h2)
    refine ⟨_, h1, A r w H σ ρ _ hr s ?_⟩
    cases e1 : f ρ with
    | stuck => rw [e1] at gg; exact gg
    | exc x e' => rw [e1] at gg; exact fun w' H' cls da s' xo st => gg w' H' σ cls da s' xo (st.mono fun k h => ⟨h.1, fun j hj => h.2 j (List.mem_cons_of_mem _ hj)⟩) Fx.refl
    | ok c ρ1 =>
      rw [e1] at gg
      intro w' H' v tg s' o h st
      obtain ⟨mc, dc⟩ := c
      cases dc <;> try exact gg.elim
      rename_i b
      cases (show v = V.int b from h)
      refine ⟨a, b, rfl, rfl, ?_⟩
      have h' : Rp X.K (bindO w' (slotF r i)) H' (.own 0) [i + 1] (.int (g a b)) (.int (g a b)) := rfl
      obtain ⟨s2, st2⟩ := slot_core (T := i :: T) (c := (.own 0, .int (g a b))) s' hr hl List.mem_cons_self h'
      exact gg _ H' _ s2 ((st.mono fun k h => ⟨h.1, fun j hj => h.2 j (List.mem_cons_of_mem _ hj)⟩).trans st2) (Fx.set hM)
  · exact gg.elim
theorem ds_while {c : Expr} {body : List Stmt} {fc : Rho → Res Bool} {fb : Rho → SR} {T1 T2 : List Nat} {pos : Pos} (hp : PassesOwn (model X.prog X.w) X.A X.env X.xe) (C : DT X W T1 c fc) (B : DSs X W M T2 body fb) : DS X W M (T1 ++ T2) (.While c body [] pos) (dsWhile fc fb) := by
  obtain ⟨tc, pc, C⟩ := C.ex
  obtain ⟨tb, pb, B⟩ := B.ex
  refine ⟨_, ps_while hp pc pb, fun r w H σ ρ D hr s gg => ?_⟩
  by_cases hx : ∃ n, whileD fc fb n ρ ≠ .stuck
  · obtain ⟨n, hn⟩ := hx
    rw [dsWhile_eq hn] at gg
    refine ⟨fun m σ H => ∃ w ρ, Sat X.K X.N.length r w H σ ρ ∧ GoodS X W M (T1 ++ T2) r w H σ D (whileD fc fb m ρ), ⟨n, w, ρ, s, gg⟩, ?_⟩
    rintro m σ H ⟨w, ρ, s, gg⟩
    cases m with
    | zero => exact gg.elim
    | succ m =>
      refine C r w H σ ρ _ hr s ?_
      rw [whileD] at gg
      cases e1 : fc ρ with
      | stuck => rw [e1] at gg; exact gg
      | exc x e' => rw [e1] at gg; exact fun w' H' cls da s' xo st => gg w' H' σ cls da s' xo (st.mono fun k h => h.l) Fx.refl
      | ok b ρ1 =>
        rw [e1] at gg
        intro w1 H1 s1 st1
        cases b with
        | false => exact iteF (gg w1 H1 σ s1 (st1.mono fun k h => h.l) Fx.refl)
        | true =>
          refine iteT ⟨fun σ' H' => ∃ w ρ, Sat X.K X.N.length r w H' σ' ρ ∧ GoodS X W M (T1 ++ T2) r w H' σ' D (whileD fc fb m ρ), fun σ' H' h => ⟨m, Nat.lt_succ_self m, h⟩, ?_⟩
          have gg := GoodS.up gg (st1.mono fun k h => h.l) Fx.refl
          refine B r w1 H1 σ ρ1 _ hr s1 (GoodS.weak (T' := T1 ++ T2) (fun i hi => List.mem_append_right T1 hi) ?_)
          simp only at gg
          cases e3 : fb ρ1 with
          | stuck => rw [e3] at gg; exact gg.elim
          | nx ρ2 => rw [e3] at gg; exact fun w2 H2 σ2 s2 st2 f2 => ⟨w2, ρ2, s2, GoodS.up gg st2 f2⟩
          | ct ρ2 => rw [e3] at gg; exact fun w2 H2 σ2 s2 st2 f2 => ⟨w2, ρ2, s2, GoodS.up gg st2 f2⟩
          | bk ρ2 => rw [e3] at gg; exact gg
          | rt c ρ2 => rw [e3] at gg; exact gg
          | exc x ρ2 => rw [e3] at gg; exact gg
  · unfold dsWhile at gg
    rw [dif_neg hx] at gg
    exact gg.elim
end
section
variable {ρ : Rho} {K : Post}
@[simp] theorem w_retN : (@wS (dsRetN ρ) K) = K.rt (.own 0, .non) ρ := rfl
/-- a loop by an invariant with its measure -/
theorem w_while {c : Rho → Res Bool} {body : Rho → SR} (I : Nat → Rho → Prop) (m : Nat) (h0 : I m ρ)
    (step : ∀ m ρ, I m ρ → (@wE _ (c ρ) ⟨(fun b ρ1 => (@cE b ⟨fun _ => ((@wS (body ρ1) ⟨fun e => (@Hd ⟨(∃ m' < m, I m' e)⟩), K.rt, K.nx, fun e => (@Hd ⟨(∃ m' < m, I m' e)⟩), K.ex⟩))⟩ ⟨fun _ => (K.nx ρ1)⟩))⟩ ⟨K.ex⟩)) : (@wS (dsWhile c body ρ) K) := by
  have key : ∀ n m ρ, m < n → I m ρ → P0.wS (whileD c body n ρ) K.p := by
    intro n
    induction n with
    | zero => intro m ρ h; omega
    | succ n ih =>
      intro m ρ hm hI
      have q := step m ρ hI
      rw [whileD]
      cases e1 : c ρ with
      | stuck => rw [e1] at q; exact (show False from q).elim
      | exc x e => rw [e1] at q; exact q
      | ok b ρ1 =>
        rw [e1] at q
        cases b with
        | false => exact q
        | true =>
          have q : P0.wS (body ρ1) ⟨fun e => (@Hd ⟨(∃ m' < m, I m' e)⟩), K.rt, K.nx, fun e => (@Hd ⟨(∃ m' < m, I m' e)⟩), K.ex⟩ := q
          simp only
          cases e2 : body ρ1 with
          | stuck => rw [e2] at q; exact (show False from q).elim
          | nx e =>
            rw [e2] at q
            obtain ⟨m', h1, h2⟩ := Hd.o q
            exact ih m' e (by omega) h2
          | ct e =>
            rw [e2] at q
            obtain ⟨m', h1, h2⟩ := Hd.o q
            exact ih m' e (by omega) h2
          | bk e => rw [e2] at q; exact q
          | rt c e => rw [e2] at q; exact q
          | exc x e => rw [e2] at q; exact q
  have q := key (m + 1) m ρ (Nat.lt_succ_self m) h0
  show P0.wS _ K.p
  rw [dsWhile_eq (n := m + 1) (fun z => by rw [z] at q; exact q)]
  exact q
@[simp] theorem w_aug {i : Nat} {g : Int → Int → Int} {fe : Rho → Res Cel} {m : Md} {a : Int} (h : ρ[i]? = some (some (m, .int a))) : (@wS (dsAug i g fe ρ) K) = (@wE _ (fe ρ) ⟨(fun c e => ∃ b, c.2 = .int b ∧ K.nx (e.set i (some (.own 0, .int (g a b)))))⟩ ⟨K.ex⟩) := by
  show P0.wS _ K.p = P0.wE _ (fun (c : Cel) e => ∃ b, c.2 = D.int b ∧ K.nx (e.set i (some (.own 0, .int (g a b))))) _
  unfold dsAug
  rw [h]
  simp only
  cases e1 : fe ρ with
  | stuck => rfl
  | exc x e => rfl
  | ok c e =>
    obtain ⟨mc, d⟩ := c
    cases d <;> simp [P0.wE, P0.wS, Post.p]
end
end DL

namespace K11
open PySem L2 DL
noncomputable section
def top (i : Nat) : Stmt := PySem.Challenge.pw_readingsall_k11_possible.main.body.getD i (.Pass ⟨0, 0, 0, 0⟩)
structure Blt (mg : Str → Option Value) : Prop where
  abs_ : mg "abs" = none
  bool_ : mg "bool" = none
  int_ : mg "int" = none
  isinstance_ : mg "isinstance" = none
  len_ : mg "len" = none
  list_ : mg "list" = none
  max_ : mg "max" = none
  range_ : mg "range" = none
structure Cst (mg : Str → Option Value) : Prop where
  LETTERS_ : ∃ t, mg "LETTERS" = some (.str "abcdefghijklmnopqrstuvwxyz" t)
structure ClsF_Grammar (K : PySem.W.Frag) (mg : Str → Option Value) (c_Grammar : Addr) : Prop where
  cl : Cls K c_Grammar
  g : mg "Grammar" = some (.ref c_Grammar)
  n__attributes : NoAttr K c_Grammar "_attributes"
  n__categories : NoAttr K c_Grammar "_categories"
  n__rules : NoAttr K c_Grammar "_rules"
  n__morphs : NoAttr K c_Grammar "_morphs"
  n__arcs : NoAttr K c_Grammar "_arcs"
  n__ends : NoAttr K c_Grammar "_ends"
  n__seams : NoAttr K c_Grammar "_seams"
  n__start : NoAttr K c_Grammar "_start"
  n__first : NoAttr K c_Grammar "_first"
def etab : List (Str × Str × Bool) := []
def esub : Str → Str → Option Bool := eTab etab
structure Exs (K : PySem.W.Frag) (mg : Str → Option Value) : Prop where
  c_BadName : ∃ C, ECl K mg "BadName" C
  c_Duplicate : ∃ C, ECl K mg "Duplicate" C
  a_BadName : ∃ C, mg "BadName" = some (.ref C)
  a_Duplicate : ∃ C, mg "Duplicate" = some (.ref C)
  r_BadName : ∃ C, ERs K mg "BadName" C
  r_Duplicate : ∃ C, ERs K mg "Duplicate" C
  s : ∀ x c b, esub x c = some b → SubT K mg x c b
  i : ∀ x c b, esub x c = some b → ∃ C, ECl K mg x C ∧ EIs K C
abbrev s__law_tape : Stmt := top 18
def N__law_tape : List Str := ["_law_script", "_law_k", "_law_cell"]
def f__law_tape_1  : Rho → SR := (dsRet (dLst (dCons (dMove 2) (dCons (fun ρ => boolR (dCmp gGe (dVar 2) (dBin gPow (dC (.int 10)) (dC (.int 18))) ρ)) (dCons (dC (.int 0)) (dCons (dBin gMod (dCb gIntC (dCons (dBin gAdd (dBin gMul (dVar 2) (dC (.int 64))) (dVar 1)) dNil)) (dC (.int 2147483647))) dNil))))))
def f__law_tape_2  : Rho → SR := (dsSeq (dsIf (dCmp gLt (dVar 1) (dCb gLenA (dCons (dVar 0) dNil))) (dsSet 2 (dCb gAbs (dCons (dPath (dIxP 0 (dpVar 0) (dVar 1))) dNil))) dsNx)
    f__law_tape_1)
def f__law_tape : Rho → SR := (dsSeq (dsSet 2 (dC (.int 0)))
    f__law_tape_2)
def F__law_tape : Rho → Res Cel := dFun 3 2 f__law_tape
theorem sc__law_tape : FnScope N__law_tape ["_law_script", "_law_k"] (defScope s__law_tape) := ⟨rfl, rfl, rfl, by decide +kernel, rfl, by decide +kernel, by decide +kernel⟩
theorem ok__law_tape {P : Program} {w : World} {K : PySem.W.Frag} {mg : Str → Option Value} {base : Heap} {f : Addr} {fd : FuncData} (F : Fun K "_law_tape" "_law_tape" s__law_tape f fd) (hmg : mg "_law_tape" = some (.ref f)) (B : Blt mg)  :
    FnD P w K mg base "_law_tape" 1 2 [] F__law_tape := by
  refine fnD_of F hmg sc__law_tape rfl (by decide) (F.binds (ps := ["_law_script", "_law_k"]) fun _ _ _ _ _ _ us hl => match us, hl with | [_, _], _ => rfl) fun cdv A outer s H E hr => ?_
  exact ⟨_, (dss_cons (ds_set 2 de_int sc__law_tape.nd)
    (dss_cons (ds_if (dt_cmp op_ltA ok_ord (de_var 1) (de_callB call_lenA ok_lenA (by rfl) B.len_ PySem.boot_len (da_cons (de_var 0) da_nil))) (dss_one (ds_set 2 (de_callB call_abs ok_abs (by rfl) B.abs_ PyProof.Rows.boot_abs (da_cons (de_path (dp_ix (hu_of hr) (dp_var 0) (de_var 1))) da_nil)) sc__law_tape.nd)) dss_nil)
    (dss_one (ds_ret (de_lst (da_cons (de_move 2) (da_cons (de_cmp op_geA ok_ord (de_var 2) (de_bin op_pow ok_pow de_int de_int)) (da_cons de_int (da_cons (de_bin op_mod ok_mod (de_callTy call_int1 ok_intC (by rfl) B.int_ PyProof.Rows.boot_int (da_cons (de_bin op_addA ok_add (de_bin op_mul ok_mul (de_var 2) de_int) (de_var 1)) da_nil)) de_int) da_nil)))))))))⟩
abbrev s__law_take : Stmt := top 19
def N__law_take : List Str := ["_law_tape_here", "_law_many", "_law_got", "_law_mixed"]
def f__law_take_1  : Rho → SR := (dsSeq (dsPut 0 (dBin gAdd (dPath (dIxP 0 (dpVar 0) (dC (.int 2)))) (dC (.int 1))) (dpVar 0) (dC (.int 2)))
    (dsSeq (dsSet 3 (dBin gMod (dCb gIntC (dCons (dBin gAdd (dBin gAdd (dBin gMul (dPath (dIxP 0 (dpVar 0) (dC (.int 3)))) (dC (.int 48271))) (dBin gMul (dPath (dIxP 0 (dpVar 0) (dC (.int 2)))) (dC (.int 69621)))) (dC (.int 17))) dNil)) (dC (.int 2147483647))))
    (dsSeq (dsSet 3 (dBin gMod (dCb gIntC (dCons (dBin gAdd (dBin gAdd (dBin gMul (dVar 3) (dC (.int 40692))) (dBin gMul (dBin gDiv (dVar 3) (dC (.int 977))) (dC (.int 31)))) (dPath (dIxP 0 (dpVar 0) (dC (.int 2))))) dNil)) (dC (.int 2147483399))))
    (dsRet (dBin gMod (dCb gIntC (dCons (dBin gDiv (dVar 3) (dC (.int 7))) dNil)) (dVar 1))))))
def f__law_take : Rho → SR := (dsSeq (dsIf (dAnd (dTru (dPath (dIxP 0 (dpVar 0) (dC (.int 1))))) (dCmp gGt (dPath (dIxP 0 (dpVar 0) (dC (.int 0)))) (dC (.int 0)))) (dsSeq (dsSet 2 (dBin gMod (dCb gIntC (dCons (dPath (dIxP 0 (dpVar 0) (dC (.int 0)))) dNil)) (dVar 1)))
    (dsSeq (dsPut 0 (dBin gDiv (dPath (dIxP 0 (dpVar 0) (dC (.int 0)))) (dVar 1)) (dpVar 0) (dC (.int 0)))
    (dsRet (dMove 2)))) dsNx)
    f__law_take_1)
def F__law_take : Rho → Res Cel := dFun 4 2 f__law_take
theorem sc__law_take : FnScope N__law_take ["_law_tape_here", "_law_many"] (defScope s__law_take) := ⟨rfl, rfl, rfl, by decide +kernel, rfl, by decide +kernel, by decide +kernel⟩
theorem ok__law_take {P : Program} {w : World} {K : PySem.W.Frag} {mg : Str → Option Value} {base : Heap} {f : Addr} {fd : FuncData} (F : Fun K "_law_take" "_law_take" s__law_take f fd) (hmg : mg "_law_take" = some (.ref f)) (B : Blt mg)  :
    FnD P w K mg base "_law_take" 1 2 [0] F__law_take := by
  refine fnD_of F hmg sc__law_take rfl (by decide) (F.binds (ps := ["_law_tape_here", "_law_many"]) fun _ _ _ _ _ _ us hl => match us, hl with | [_, _], _ => rfl) fun cdv A outer s H E hr => ?_
  exact ⟨_, (dss_cons (ds_if (DW.dt (dw_and (dt_truth (de_path (dp_ix (hu_of hr) (dp_var 0) de_int))) (dw_and1 (dt_cmp op_gtA ok_ord (de_path (dp_ix (hu_of hr) (dp_var 0) de_int)) de_int)))) (dss_cons (ds_set 2 (de_bin op_mod ok_mod (de_callTy call_int1 ok_intC (by rfl) B.int_ PyProof.Rows.boot_int (da_cons (de_path (dp_ix (hu_of hr) (dp_var 0) de_int)) da_nil)) (de_var 1)) sc__law_take.nd)
    (dss_cons (ds_put (hu_of hr) (de_bin op_fdiv ok_div (de_path (dp_ix (hu_of hr) (dp_var 0) de_int)) (de_var 1)) (dp_var 0) de_int)
    (dss_one (ds_ret (de_move 2))))) dss_nil)
    (dss_cons (ds_put (hu_of hr) (de_bin op_addA ok_add (de_path (dp_ix (hu_of hr) (dp_var 0) de_int)) de_int) (dp_var 0) de_int)
    (dss_cons (ds_set 3 (de_bin op_mod ok_mod (de_callTy call_int1 ok_intC (by rfl) B.int_ PyProof.Rows.boot_int (da_cons (de_bin op_addA ok_add (de_bin op_addA ok_add (de_bin op_mul ok_mul (de_path (dp_ix (hu_of hr) (dp_var 0) de_int)) de_int) (de_bin op_mul ok_mul (de_path (dp_ix (hu_of hr) (dp_var 0) de_int)) de_int)) de_int) da_nil)) de_int) sc__law_take.nd)
    (dss_cons (ds_set 3 (de_bin op_mod ok_mod (de_callTy call_int1 ok_intC (by rfl) B.int_ PyProof.Rows.boot_int (da_cons (de_bin op_addA ok_add (de_bin op_addA ok_add (de_bin op_mul ok_mul (de_var 3) de_int) (de_bin op_mul ok_mul (de_bin op_fdiv ok_div (de_var 3) de_int) de_int)) (de_path (dp_ix (hu_of hr) (dp_var 0) de_int))) da_nil)) de_int) sc__law_take.nd)
    (dss_one (ds_ret (de_bin op_mod ok_mod (de_callTy call_int1 ok_intC (by rfl) B.int_ PyProof.Rows.boot_int (da_cons (de_bin op_fdiv ok_div (de_var 3) de_int) da_nil)) (de_var 1))))))))⟩
abbrev s__law_alphabet : Stmt := top 21
def N__law_alphabet : List Str := ["_law_tape_here", "_law_letters_here", "_law_at"]
def f__law_alphabet : Rho → SR := (dsSeq (dsSet 1 (dC (.str "abcdefghijklmnopqrstuvwxyz")))
    (dsSeq (dsSet 2 (dCall F__law_take [.slot 0, .tmp] [.chg, .keep] (dCons (dVar 0) (dCons (dC (.int 26)) dNil))))
    (dsRet (dSl (dBin gAdd (dSl (dVar 1) (dOSome (dVar 2)) dONone) (dSl (dVar 1) dONone (dOSome (dVar 2)))) dONone (dOSome (dIx (dLst (dCons (dC (.int 1)) (dCons (dC (.int 2)) (dCons (dC (.int 2)) (dCons (dC (.int 3)) (dCons (dC (.int 26)) dNil)))))) (dCall F__law_take [.slot 0, .tmp] [.chg, .keep] (dCons (dVar 0) (dCons (dC (.int 5)) dNil)))))))))
def F__law_alphabet : Rho → Res Cel := dFun 3 1 f__law_alphabet
theorem sc__law_alphabet : FnScope N__law_alphabet ["_law_tape_here"] (defScope s__law_alphabet) := ⟨rfl, rfl, rfl, by decide +kernel, rfl, by decide +kernel, by decide +kernel⟩
theorem ok__law_alphabet {P : Program} {w : World} {K : PySem.W.Frag} {mg : Str → Option Value} {base : Heap} {f : Addr} {fd : FuncData} (F : Fun K "_law_alphabet" "_law_alphabet" s__law_alphabet f fd) (hmg : mg "_law_alphabet" = some (.ref f)) (B : Blt mg) (FD_law_take : FnD P w K mg base "_law_take" 1 2 [0] F__law_take) :
    FnD P w K mg base "_law_alphabet" 2 1 [0] F__law_alphabet := by
  refine fnD_of F hmg sc__law_alphabet rfl (by decide) (F.binds (ps := ["_law_tape_here"]) fun _ _ _ _ _ _ us hl => match us, hl with | [_], _ => rfl) fun cdv A outer s H E hr => ?_
  exact ⟨_, (dss_cons (ds_set 1 de_str sc__law_alphabet.nd)
    (dss_cons (ds_set 2 (de_call [.chg, .keep] FD_law_take tk_cx (hr.mono (by decide)) (by rfl) (da_cons (de_var 0) (da_cons de_int da_nil))) sc__law_alphabet.nd)
    (dss_one (ds_ret (de_slice (de_bin op_addA ok_add (de_slice (de_var 1) (do_some (de_var 2)) do_none) (de_slice (de_var 1) do_none (do_some (de_var 2)))) do_none (do_some (de_ix (hu_of hr) (de_lst (da_cons de_int (da_cons de_int (da_cons de_int (da_cons de_int (da_cons de_int da_nil)))))) (de_call [.chg, .keep] FD_law_take tk_cx (hr.mono (by decide)) (by rfl) (da_cons (de_var 0) (da_cons de_int da_nil))))))))))⟩
abbrev s__law_letters : Stmt := top 20
def N__law_letters : List Str := ["_law_tape_here", "_law_letters_here", "_law_least", "_law_most", "_law_text", "_law_k"]
def f__law_letters_1  : Rho → SR := (dsSet 4 (dBin gAdd (dVar 4) (dPath (dIxP 1 (dpVar 1) (dCall F__law_take [.slot 0, .tmp] [.chg, .keep] (dCons (dVar 0) (dCons (dCb gLenA (dCons (dVar 1) dNil)) dNil)))))))
def f__law_letters_2  : Rho → SR := (dsRet (dMove 4))
def f__law_letters_3  : Rho → SR := (dsSeq (dsForI (diRng (dCons (dBin gAdd (dVar 2) (dCall F__law_take [.slot 0, .tmp] [.chg, .keep] (dCons (dVar 0) (dCons (dBin gAdd (dBin gSub (dVar 3) (dVar 2)) (dC (.int 1))) dNil)))) dNil)) (gtName 5) f__law_letters_1)
    f__law_letters_2)
def f__law_letters : Rho → SR := (dsSeq (dsSet 4 (dC (.str "")))
    f__law_letters_3)
def F__law_letters : Rho → Res Cel := dFun 6 4 f__law_letters
theorem sc__law_letters : FnScope N__law_letters ["_law_tape_here", "_law_letters_here", "_law_least", "_law_most"] (defScope s__law_letters) := ⟨rfl, rfl, rfl, by decide +kernel, rfl, by decide +kernel, by decide +kernel⟩
theorem ok__law_letters {P : Program} {w : World} {K : PySem.W.Frag} {mg : Str → Option Value} {base : Heap} {f : Addr} {fd : FuncData} (F : Fun K "_law_letters" "_law_letters" s__law_letters f fd) (hmg : mg "_law_letters" = some (.ref f)) (B : Blt mg) (FD_law_take : FnD P w K mg base "_law_take" 1 2 [0] F__law_take) :
    FnD P w K mg base "_law_letters" 2 4 [0] F__law_letters := by
  refine fnD_of F hmg sc__law_letters rfl (by decide) (F.binds (ps := ["_law_tape_here", "_law_letters_here", "_law_least", "_law_most"]) fun _ _ _ _ _ _ us hl => match us, hl with | [_, _, _, _], _ => rfl) fun cdv A outer s H E hr => ?_
  exact ⟨_, (dss_cons (ds_set 4 de_str sc__law_letters.nd)
    (dss_cons (ds_forI own_cx rfl (di_range1 (by rfl) B.range_ (da_cons (de_bin op_addA ok_add (de_var 2) (de_call [.chg, .keep] FD_law_take tk_cx (hr.mono (by decide)) (by rfl) (da_cons (de_var 0) (da_cons (de_bin op_addA ok_add (de_bin op_sub ok_sub (de_var 3) (de_var 2)) de_int) da_nil)))) da_nil)) (dg_name 5 sc__law_letters.nd) (dss_one (ds_set 4 (de_bin op_addA ok_add (de_var 4) (de_path (dp_ix (hu_of hr) (dp_var 1) (de_call [.chg, .keep] FD_law_take tk_cx (hr.mono (by decide)) (by rfl) (da_cons (de_var 0) (da_cons (de_callB call_lenA ok_lenA (by rfl) B.len_ PySem.boot_len (da_cons (de_var 1) da_nil)) da_nil)))))) sc__law_letters.nd)))
    (dss_one (ds_ret (de_move 4)))))⟩
abbrev s_Grammar___init__ : Stmt := inClass (top 16) 0
def N_Grammar___init__ : List Str := ["self"]
def f_Grammar___init__ (c_Grammar : Addr) : Rho → SR := (dsSeq (dsFld c_Grammar "_attributes" 0 dNewK (dpVar 0))
    (dsSeq (dsFld c_Grammar "_categories" 0 dNewK (dpVar 0))
    (dsSeq (dsFld c_Grammar "_rules" 0 (dLst dNil) (dpVar 0))
    (dsSeq (dsFld c_Grammar "_morphs" 0 (dLst dNil) (dpVar 0))
    (dsSeq (dsFld c_Grammar "_arcs" 0 dNewT (dpVar 0))
    (dsSeq (dsFld c_Grammar "_ends" 0 (dLst dNil) (dpVar 0))
    (dsSeq (dsFld c_Grammar "_seams" 0 (dLst dNil) (dpVar 0))
    (dsSeq (dsFld c_Grammar "_start" 0 (dC .non) (dpVar 0))
    (dsFld c_Grammar "_first" 0 (dC .non) (dpVar 0))))))))))
def F_Grammar___init__ (c_Grammar : Addr) : Rho → Res Cel := dFun 1 1 (f_Grammar___init__ c_Grammar)
theorem sc_Grammar___init__ : FnScope N_Grammar___init__ ["self"] (defScope s_Grammar___init__) := ⟨rfl, rfl, rfl, by decide +kernel, rfl, by decide +kernel, by decide +kernel⟩
theorem ok_Grammar___init__ {P : Program} {w : World} {K : PySem.W.Frag} {mg : Str → Option Value} {base : Heap} {c_Grammar : Addr} {f : Addr} {fd : FuncData} (F : Fun K "__init__" "Grammar.__init__" s_Grammar___init__ f fd) (hmg : Mk K c_Grammar f) (B : Blt mg) (CF_Grammar : ClsF_Grammar K mg c_Grammar)  :
    InD P w K mg base c_Grammar 1 (F_Grammar___init__ c_Grammar) := by
  refine inD_of (mj := [0]) F hmg sc_Grammar___init__ rfl (by decide) (by decide) (F.binds (ps := ["self"]) fun _ _ _ _ _ _ us hl => match us, hl with | [_], _ => rfl) fun cdv A outer s H E hr => ?_
  exact ⟨_, (dss_cons (ds_fld CF_Grammar.cl CF_Grammar.n__attributes de_newK (dp_var 0))
    (dss_cons (ds_fld CF_Grammar.cl CF_Grammar.n__categories de_newK (dp_var 0))
    (dss_cons (ds_fld CF_Grammar.cl CF_Grammar.n__rules (de_lst da_nil) (dp_var 0))
    (dss_cons (ds_fld CF_Grammar.cl CF_Grammar.n__morphs (de_lst da_nil) (dp_var 0))
    (dss_cons (ds_fld CF_Grammar.cl CF_Grammar.n__arcs de_newT (dp_var 0))
    (dss_cons (ds_fld CF_Grammar.cl CF_Grammar.n__ends (de_lst da_nil) (dp_var 0))
    (dss_cons (ds_fld CF_Grammar.cl CF_Grammar.n__seams (de_lst da_nil) (dp_var 0))
    (dss_cons (ds_fld CF_Grammar.cl CF_Grammar.n__start de_non (dp_var 0))
    (dss_one (ds_fld CF_Grammar.cl CF_Grammar.n__first de_non (dp_var 0)))))))))))⟩
abbrev s_Grammar_seams : Stmt := inClass (top 16) 20
def N_Grammar_seams : List Str := ["self"]
def f_Grammar_seams (c_Grammar : Addr) : Rho → SR := (dsRet (dCb gListA (dCons (dPath (dFldP c_Grammar "_seams" (dpVar 0))) dNil)))
def F_Grammar_seams (c_Grammar : Addr) : Rho → Res Cel := dFun 1 1 (f_Grammar_seams c_Grammar)
theorem sc_Grammar_seams : FnScope N_Grammar_seams ["self"] (defScope s_Grammar_seams) := ⟨rfl, rfl, rfl, by decide +kernel, rfl, by decide +kernel, by decide +kernel⟩
theorem ok_Grammar_seams {P : Program} {w : World} {K : PySem.W.Frag} {mg : Str → Option Value} {base : Heap} {c_Grammar : Addr} {f : Addr} {fd : FuncData} (F : Fun K "seams" "Grammar.seams" s_Grammar_seams f fd) (hmg : Meth K c_Grammar "seams" f) (B : Blt mg) (CF_Grammar : ClsF_Grammar K mg c_Grammar)  :
    MtD P w K mg base c_Grammar "seams" 1 1 [] (F_Grammar_seams c_Grammar) := by
  refine mtD_of F hmg sc_Grammar_seams rfl (by decide) (F.binds (ps := ["self"]) fun _ _ _ _ _ _ us hl => match us, hl with | [_], _ => rfl) fun cdv A outer s H E hr => ?_
  exact ⟨_, (dss_one (ds_ret (de_callTy (call_listA rfl) ok_listA (by rfl) B.list_ PyProof.Rows.boot_list (da_cons (de_path (dp_fld CF_Grammar.cl CF_Grammar.n__seams (dp_var 0))) da_nil))))⟩
abbrev s_reach : Stmt := top 2
def N_reach : List Str := ["grammar", "seam"]
def f_reach (c_Grammar : Addr) : Rho → SR := (dsRet (dCb gMaxL (dCons (dBin gAdd (dLst (dCons (dC (.int 0)) dNil)) (dLc (diVal (dCall (F_Grammar_seams c_Grammar) [.slot 0] [.lend] (dRecv c_Grammar "seams" (dVar 0) dNil))) (gtName 1) dYes (dCb gLenA (dCons (dPath (dIxP 1 (dpVar 1) (dC (.int 0)))) dNil)) [1])) dNil)))
def F_reach (c_Grammar : Addr) : Rho → Res Cel := dFun 2 1 (f_reach c_Grammar)
theorem sc_reach : FnScope N_reach ["grammar"] (defScope s_reach) := ⟨rfl, rfl, rfl, by decide +kernel, rfl, by decide +kernel, by decide +kernel⟩
theorem ok_reach {P : Program} {w : World} {K : PySem.W.Frag} {mg : Str → Option Value} {base : Heap} {c_Grammar : Addr} {f : Addr} {fd : FuncData} (F : Fun K "reach" "reach" s_reach f fd) (hmg : mg "reach" = some (.ref f)) (B : Blt mg) (CF_Grammar : ClsF_Grammar K mg c_Grammar) (FDGrammar_seams : MtD P w K mg base c_Grammar "seams" 1 1 [] (F_Grammar_seams c_Grammar)) :
    FnD P w K mg base "reach" 2 1 [] (F_reach c_Grammar) := by
  refine fnD_of F hmg sc_reach rfl (by decide) (F.binds (ps := ["grammar"]) fun _ _ _ _ _ _ us hl => match us, hl with | [_], _ => rfl) fun cdv A outer s H E hr => ?_
  exact ⟨_, (dss_one (ds_ret (de_callB (cr_max rfl) ok_maxL (by rfl) B.max_ PyProof.Rows.boot_max (da_cons (de_bin op_addA ok_add (de_lst (da_cons de_int da_nil)) (de_lc [("seam", 1)] rfl sc_reach.nd (blkOk_by (N := N_reach) (sc := defScope s_reach) (by decide +kernel)) (di_val (de_meth0 [.lend] FDGrammar_seams CF_Grammar.cl tk_cx (hr.mono (by decide)) (de_var 0))) (fun _ _ _ _ _ => (dg_name 1 sc_reach.nd)) (fun _ _ _ _ _ => dts_nil) (fun _ _ _ _ _ => (de_callB call_lenA ok_lenA (by rfl) B.len_ PySem.boot_len (da_cons (de_path (dp_ix (hu_of hr) (dp_var 1) de_int)) da_nil))))) da_nil))))⟩
abbrev s__law_strings : Stmt := top 23
def N__law_strings : List Str := ["_law_tape_here", "_law_letters_here", "_law_longest", "_law_form", "_law_found", "_law_turn", "_law_at", "_law_odd", "_law_size", "_law_text"]
def f__law_strings_1  : Rho → SR := (dsIf (dCmp gLt (dVar 5) (dC (.int 4))) (dsSet 9 (dBin gAdd (dVar 9) (dSl (dVar 3) (dOSome (dBin gAdd (dVar 6) (dC (.int 1)))) (dOSome (dBin gAdd (dVar 6) (dVar 8)))))) (dsSet 9 (dBin gAdd (dVar 9) (dCall F__law_letters [.slot 0, .slot 1, .tmp, .tmp] [.chg, .lend, .keep, .keep] (dCons (dVar 0) (dCons (dVar 1) (dCons (dBin gSub (dVar 8) (dC (.int 1))) (dCons (dBin gSub (dVar 8) (dC (.int 1))) dNil))))))))
def f__law_strings_2  : Rho → SR := (dsSeq (dsExpr (dApp 4 (dpVar 4) (dMove 9)))
    (dsExpr (dApp 4 (dpVar 4) (dBin gAdd (dVar 9) (dVar 7)))))
def f__law_strings_3  : Rho → SR := (dsSeq (dsIf (dCmp gGt (dVar 8) (dC (.int 0))) (dsSeq (dsSet 9 (dBin gAdd (dVar 9) (dVar 7)))
    f__law_strings_1) dsNx)
    f__law_strings_2)
def f__law_strings_4  : Rho → SR := (dsSeq (dsSet 9 (dSl (dVar 3) dONone (dOSome (dVar 6))))
    f__law_strings_3)
def f__law_strings_5  : Rho → SR := (dsForI (diVal (dLst (dCons (dC (.int 0)) (dCons (dBin gSub (dVar 2) (dC (.int 1))) (dCons (dMove 2) (dCons (dBin gAdd (dVar 2) (dC (.int 1))) (dCons (dBin gAdd (dVar 2) (dC (.int 2))) dNil))))))) (gtName 8) f__law_strings_4)
def f__law_strings_6  : Rho → SR := (dsSeq (dsIf (dCmp gEq (dSl (dVar 3) (dOSome (dVar 6)) (dOSome (dBin gAdd (dVar 6) (dC (.int 1))))) (dC (.str "a"))) (dsSet 7 (dC (.str "b"))) dsNx)
    f__law_strings_5)
def f__law_strings_7  : Rho → SR := (dsSeq (dsSet 6 (dCall F__law_take [.slot 0, .tmp] [.chg, .keep] (dCons (dVar 0) (dCons (dBin gAdd (dCb gLenA (dCons (dVar 3) dNil)) (dC (.int 1))) dNil))))
    (dsSeq (dsSet 7 (dC (.str "a")))
    f__law_strings_6))
def f__law_strings_8  : Rho → SR := (dsExpr (dApp 4 (dpVar 4) (dCall F__law_letters [.slot 0, .slot 1, .tmp, .tmp] [.chg, .lend, .keep, .keep] (dCons (dVar 0) (dCons (dVar 1) (dCons (dC (.int 0)) (dCons (dC (.int 8)) dNil)))))))
def f__law_strings_9  : Rho → SR := (dsRet (dMove 4))
def f__law_strings_10  : Rho → SR := (dsSeq (dsForI (diRng (dCons (dC (.int 4)) dNil)) (gtName 5) f__law_strings_8)
    f__law_strings_9)
def f__law_strings_11  : Rho → SR := (dsSeq (dsForI (diRng (dCons (dC (.int 8)) dNil)) (gtName 5) f__law_strings_7)
    f__law_strings_10)
def f__law_strings : Rho → SR := (dsSeq (dsSet 4 (dLst (dCons (dC (.str "")) (dCons (dMove 3) (dCons (dBin gAdd (dVar 3) (dPath (dIxP 1 (dpVar 1) (dC (.int 0))))) (dCons (dBin gAdd (dVar 3) (dVar 3)) dNil))))))
    f__law_strings_11)
def F__law_strings : Rho → Res Cel := dFun 10 4 f__law_strings
theorem sc__law_strings : FnScope N__law_strings ["_law_tape_here", "_law_letters_here", "_law_longest", "_law_form"] (defScope s__law_strings) := ⟨rfl, rfl, rfl, by decide +kernel, rfl, by decide +kernel, by decide +kernel⟩
theorem ok__law_strings {P : Program} {w : World} {K : PySem.W.Frag} {mg : Str → Option Value} {base : Heap} {f : Addr} {fd : FuncData} (F : Fun K "_law_strings" "_law_strings" s__law_strings f fd) (hmg : mg "_law_strings" = some (.ref f)) (B : Blt mg) (FD_law_take : FnD P w K mg base "_law_take" 1 2 [0] F__law_take) (FD_law_letters : FnD P w K mg base "_law_letters" 2 4 [0] F__law_letters) :
    FnD P w K mg base "_law_strings" 3 4 [0] F__law_strings := by
  refine fnD_of F hmg sc__law_strings rfl (by decide) (F.binds (ps := ["_law_tape_here", "_law_letters_here", "_law_longest", "_law_form"]) fun _ _ _ _ _ _ us hl => match us, hl with | [_, _, _, _], _ => rfl) fun cdv A outer s H E hr => ?_
  exact ⟨_, (dss_cons (ds_set 4 (de_lst (da_cons de_str (da_cons (de_move 3) (da_cons (de_bin op_addA ok_add (de_var 3) (de_path (dp_ix (hu_of hr) (dp_var 1) de_int))) (da_cons (de_bin op_addA ok_add (de_var 3) (de_var 3)) da_nil))))) sc__law_strings.nd)
    (dss_cons (ds_forI own_cx rfl (di_range1 (by rfl) B.range_ (da_cons de_int da_nil)) (dg_name 5 sc__law_strings.nd) (dss_cons (ds_set 6 (de_call [.chg, .keep] FD_law_take tk_cx (hr.mono (by decide)) (by rfl) (da_cons (de_var 0) (da_cons (de_bin op_addA ok_add (de_callB call_lenA ok_lenA (by rfl) B.len_ PySem.boot_len (da_cons (de_var 3) da_nil)) de_int) da_nil))) sc__law_strings.nd)
    (dss_cons (ds_set 7 de_str sc__law_strings.nd)
    (dss_cons (ds_if (dt_cmp (op_eqA hr.units) ok_eq (de_slice (de_var 3) (do_some (de_var 6)) (do_some (de_bin op_addA ok_add (de_var 6) de_int))) de_str) (dss_one (ds_set 7 de_str sc__law_strings.nd)) dss_nil)
    (dss_one (ds_forI own_cx rfl (di_val (de_lst (da_cons de_int (da_cons (de_bin op_sub ok_sub (de_var 2) de_int) (da_cons (de_move 2) (da_cons (de_bin op_addA ok_add (de_var 2) de_int) (da_cons (de_bin op_addA ok_add (de_var 2) de_int) da_nil))))))) (dg_name 8 sc__law_strings.nd) (dss_cons (ds_set 9 (de_slice (de_var 3) do_none (do_some (de_var 6))) sc__law_strings.nd)
    (dss_cons (ds_if (dt_cmp op_gtA ok_ord (de_var 8) de_int) (dss_cons (ds_set 9 (de_bin op_addA ok_add (de_var 9) (de_var 7)) sc__law_strings.nd)
    (dss_one (ds_if (dt_cmp op_ltA ok_ord (de_var 5) de_int) (dss_one (ds_set 9 (de_bin op_addA ok_add (de_var 9) (de_slice (de_var 3) (do_some (de_bin op_addA ok_add (de_var 6) de_int)) (do_some (de_bin op_addA ok_add (de_var 6) (de_var 8))))) sc__law_strings.nd)) (dss_one (ds_set 9 (de_bin op_addA ok_add (de_var 9) (de_call [.chg, .lend, .keep, .keep] FD_law_letters tk_cx (hr.mono (by decide)) (by rfl) (da_cons (de_var 0) (da_cons (de_var 1) (da_cons (de_bin op_sub ok_sub (de_var 8) de_int) (da_cons (de_bin op_sub ok_sub (de_var 8) de_int) da_nil)))))) sc__law_strings.nd))))) dss_nil)
    (dss_cons (ds_expr (de_append (dp_var 4) (de_move 9)))
    (dss_one (ds_expr (de_append (dp_var 4) (de_bin op_addA ok_add (de_var 9) (de_var 7))))))))))))))
    (dss_cons (ds_forI own_cx rfl (di_range1 (by rfl) B.range_ (da_cons de_int da_nil)) (dg_name 5 sc__law_strings.nd) (dss_one (ds_expr (de_append (dp_var 4) (de_call [.chg, .lend, .keep, .keep] FD_law_letters tk_cx (hr.mono (by decide)) (by rfl) (da_cons (de_var 0) (da_cons (de_var 1) (da_cons de_int (da_cons de_int da_nil)))))))))
    (dss_one (ds_ret (de_move 4))))))⟩
abbrev s_possible : Stmt := top 3
def N_possible : List Str := ["grammar", "text", "form"]
def f_possible_1 (c_Grammar : Addr) : Rho → SR := (dsRet (dBm isStr gStarts (dVar 2) (dCons (dSl (dVar 1) dONone (dOSome (dCb gMax2 (dCons (dC (.int 0)) (dCons (dBin gSub (dCb gLenA (dCons (dVar 1) dNil)) (dCall (F_reach c_Grammar) [.slot 0] [.lend] (dCons (dVar 0) dNil))) dNil))))) dNil)))
def f_possible (c_Grammar : Addr) : Rho → SR := (dsSeq (dsIf (dCmp gGe (dCb gLenA (dCons (dVar 1) dNil)) (dCb gLenA (dCons (dVar 2) dNil))) (dsRet (fun ρ => boolR (dCmp gEq (dVar 1) (dVar 2) ρ))) dsNx)
    (f_possible_1 c_Grammar))
def F_possible (c_Grammar : Addr) : Rho → Res Cel := dFun 3 3 (f_possible c_Grammar)
theorem sc_possible : FnScope N_possible ["grammar", "text", "form"] (defScope s_possible) := ⟨rfl, rfl, rfl, by decide +kernel, rfl, by decide +kernel, by decide +kernel⟩
theorem ok_possible {P : Program} {w : World} {K : PySem.W.Frag} {mg : Str → Option Value} {base : Heap} {c_Grammar : Addr} {f : Addr} {fd : FuncData} (F : Fun K "possible" "possible" s_possible f fd) (hmg : mg "possible" = some (.ref f)) (B : Blt mg) (CF_Grammar : ClsF_Grammar K mg c_Grammar) (FDreach : FnD P w K mg base "reach" 2 1 [] (F_reach c_Grammar)) :
    FnD P w K mg base "possible" 3 3 [] (F_possible c_Grammar) := by
  refine fnD_of F hmg sc_possible rfl (by decide) (F.binds (ps := ["grammar", "text", "form"]) fun _ _ _ _ _ _ us hl => match us, hl with | [_, _, _], _ => rfl) fun cdv A outer s H E hr => ?_
  exact ⟨_, (dss_cons (ds_if (dt_cmp op_geA ok_ord (de_callB call_lenA ok_lenA (by rfl) B.len_ PySem.boot_len (da_cons (de_var 1) da_nil)) (de_callB call_lenA ok_lenA (by rfl) B.len_ PySem.boot_len (da_cons (de_var 2) da_nil))) (dss_one (ds_ret (de_cmp (op_eqA hr.units) ok_eq (de_var 1) (de_var 2)))) dss_nil)
    (dss_one (ds_ret (de_bm PySem.F.plainAttrs_str PySem.F.slot_str_startswith PySem.F.type_str_startswith mt_startswith ty_str ok_starts (de_var 2) (da_cons (de_slice (de_var 1) do_none (do_some (de_callB (call_max2 rfl) ok_max2 (by rfl) B.max_ PyProof.Rows.boot_max (da_cons de_int (da_cons (de_bin op_sub ok_sub (de_callB call_lenA ok_lenA (by rfl) B.len_ PySem.boot_len (da_cons (de_var 1) da_nil)) (de_call [.lend] FDreach tk_cx (hr.mono (by decide)) (by rfl) (da_cons (de_var 0) da_nil))) da_nil))))) da_nil)))))⟩
abbrev s__law_due : Stmt := top 22
def N__law_due : List Str := ["_law_longest", "_law_text", "_law_form", "_law_common", "_law_k"]
def f__law_due_1  : Rho → SR := (dsIf (dAnd (dCmp gEq (dVar 3) (dVar 4)) (dCmp gEq (dPath (dIxP 1 (dpVar 1) (dVar 4))) (dPath (dIxP 2 (dpVar 2) (dVar 4))))) (dsSet 3 (dBin gAdd (dVar 4) (dC (.int 1)))) dsNx)
def f__law_due_2  : Rho → SR := (dsRet (fun ρ => boolR (dCmp gLe (dBin gSub (dCb gLenA (dCons (dVar 1) dNil)) (dVar 3)) (dVar 0) ρ)))
def f__law_due_3  : Rho → SR := (dsSeq (dsForI (diRng (dCons (dCb gLenA (dCons (dVar 1) dNil)) dNil)) (gtName 4) f__law_due_1)
    f__law_due_2)
def f__law_due_4  : Rho → SR := (dsSeq (dsSet 3 (dC (.int 0)))
    f__law_due_3)
def f__law_due_5  : Rho → SR := (dsSeq (dsIf (dCmp gGe (dCb gLenA (dCons (dVar 1) dNil)) (dCb gLenA (dCons (dVar 2) dNil))) (dsRet (dC (.bl false))) dsNx)
    f__law_due_4)
def f__law_due : Rho → SR := (dsSeq (dsIf (dCmp gEq (dVar 1) (dVar 2)) (dsRet (dC (.bl true))) dsNx)
    f__law_due_5)
def F__law_due : Rho → Res Cel := dFun 5 3 f__law_due
theorem sc__law_due : FnScope N__law_due ["_law_longest", "_law_text", "_law_form"] (defScope s__law_due) := ⟨rfl, rfl, rfl, by decide +kernel, rfl, by decide +kernel, by decide +kernel⟩
theorem ok__law_due {P : Program} {w : World} {K : PySem.W.Frag} {mg : Str → Option Value} {base : Heap} {f : Addr} {fd : FuncData} (F : Fun K "_law_due" "_law_due" s__law_due f fd) (hmg : mg "_law_due" = some (.ref f)) (B : Blt mg)  :
    FnD P w K mg base "_law_due" 1 3 [] F__law_due := by
  refine fnD_of F hmg sc__law_due rfl (by decide) (F.binds (ps := ["_law_longest", "_law_text", "_law_form"]) fun _ _ _ _ _ _ us hl => match us, hl with | [_, _, _], _ => rfl) fun cdv A outer s H E hr => ?_
  exact ⟨_, (dss_cons (ds_if (dt_cmp (op_eqA hr.units) ok_eq (de_var 1) (de_var 2)) (dss_one (ds_ret de_bl)) dss_nil)
    (dss_cons (ds_if (dt_cmp op_geA ok_ord (de_callB call_lenA ok_lenA (by rfl) B.len_ PySem.boot_len (da_cons (de_var 1) da_nil)) (de_callB call_lenA ok_lenA (by rfl) B.len_ PySem.boot_len (da_cons (de_var 2) da_nil))) (dss_one (ds_ret de_bl)) dss_nil)
    (dss_cons (ds_set 3 de_int sc__law_due.nd)
    (dss_cons (ds_forI own_cx rfl (di_range1 (by rfl) B.range_ (da_cons (de_callB call_lenA ok_lenA (by rfl) B.len_ PySem.boot_len (da_cons (de_var 1) da_nil)) da_nil)) (dg_name 4 sc__law_due.nd) (dss_one (ds_if (DW.dt (dw_and (dt_cmp (op_eqA hr.units) ok_eq (de_var 3) (de_var 4)) (dw_and1 (dt_cmp (op_eqA hr.units) ok_eq (de_path (dp_ix (hu_of hr) (dp_var 1) (de_var 4))) (de_path (dp_ix (hu_of hr) (dp_var 2) (de_var 4))))))) (dss_one (ds_set 3 (de_bin op_addA ok_add (de_var 4) de_int) sc__law_due.nd)) dss_nil)))
    (dss_one (ds_ret (de_cmp op_leA ok_ord (de_bin op_sub ok_sub (de_callB call_lenA ok_lenA (by rfl) B.len_ PySem.boot_len (da_cons (de_var 1) da_nil)) (de_var 3)) (de_var 0))))))))⟩
abbrev s__law_holds : Stmt := top 24
def N__law_holds : List Str := ["_law_grammar", "_law_tape_here", "_law_letters_here", "_law_seams", "_law_form", "_law_longest", "_law_seam", "_law_told", "_law_text"]
def f__law_holds_1 (c_Grammar : Addr) : Rho → SR := (dsIf (dCmp gGt (dCb gLenA (dCons (dPath (dIxP 6 (dpVar 6) (dC (.int 0)))) dNil)) (dVar 5)) (dsSet 5 (dCb gLenA (dCons (dPath (dIxP 6 (dpVar 6) (dC (.int 0)))) dNil))) dsNx)
def f__law_holds_2 (c_Grammar : Addr) : Rho → SR := (dsIf (dOr (dNot (dTru (fun ρ => boolR (dIsi "bool" (dVar 7) ρ)))) (dCmp gNe (dVar 7) (dCall F__law_due [.slot 5, .slot 8, .slot 4] [.lend, .lend, .lend] (dCons (dVar 5) (dCons (dVar 8) (dCons (dVar 4) dNil)))))) (dsRet (dC (.bl false))) dsNx)
def f__law_holds_3 (c_Grammar : Addr) : Rho → SR := (dsSeq (dsSet 7 (dCall (F_possible c_Grammar) [.slot 0, .slot 8, .slot 4] [.lend, .lend, .lend] (dCons (dVar 0) (dCons (dVar 8) (dCons (dVar 4) dNil)))))
    (f__law_holds_2 c_Grammar))
def f__law_holds_4 (c_Grammar : Addr) : Rho → SR := (dsRet (dC (.bl true)))
def f__law_holds_5 (c_Grammar : Addr) : Rho → SR := (dsSeq (dsForI (diVal (dCall F__law_strings [.slot 1, .slot 2, .slot 5, .slot 4] [.chg, .lend, .lend, .lend] (dCons (dVar 1) (dCons (dVar 2) (dCons (dVar 5) (dCons (dVar 4) dNil)))))) (gtName 8) (f__law_holds_3 c_Grammar))
    (f__law_holds_4 c_Grammar))
def f__law_holds_6 (c_Grammar : Addr) : Rho → SR := (dsSeq (dsIf (dOr (dNot (dTru (fun ρ => boolR (dIsi "int" (dVar 7) ρ)))) (dOr (dTru (fun ρ => boolR (dIsi "bool" (dVar 7) ρ))) (dCmp gNe (dVar 7) (dVar 5)))) (dsRet (dC (.bl false))) dsNx)
    (f__law_holds_5 c_Grammar))
def f__law_holds_7 (c_Grammar : Addr) : Rho → SR := (dsSeq (dsSet 7 (dCall (F_reach c_Grammar) [.slot 0] [.lend] (dCons (dVar 0) dNil)))
    (f__law_holds_6 c_Grammar))
def f__law_holds_8 (c_Grammar : Addr) : Rho → SR := (dsSeq (dsForI (diVal (dVar 3)) (gtName 6) (f__law_holds_1 c_Grammar))
    (f__law_holds_7 c_Grammar))
def f__law_holds (c_Grammar : Addr) : Rho → SR := (dsSeq (dsSet 5 (dC (.int 0)))
    (f__law_holds_8 c_Grammar))
def F__law_holds (c_Grammar : Addr) : Rho → Res Cel := dFun 9 5 (f__law_holds c_Grammar)
theorem sc__law_holds : FnScope N__law_holds ["_law_grammar", "_law_tape_here", "_law_letters_here", "_law_seams", "_law_form"] (defScope s__law_holds) := ⟨rfl, rfl, rfl, by decide +kernel, rfl, by decide +kernel, by decide +kernel⟩
theorem ok__law_holds {P : Program} {w : World} {K : PySem.W.Frag} {mg : Str → Option Value} {base : Heap} {c_Grammar : Addr} {f : Addr} {fd : FuncData} (F : Fun K "_law_holds" "_law_holds" s__law_holds f fd) (hmg : mg "_law_holds" = some (.ref f)) (B : Blt mg) (CF_Grammar : ClsF_Grammar K mg c_Grammar) (FDreach : FnD P w K mg base "reach" 2 1 [] (F_reach c_Grammar)) (FD_law_strings : FnD P w K mg base "_law_strings" 3 4 [0] F__law_strings) (FDpossible : FnD P w K mg base "possible" 3 3 [] (F_possible c_Grammar)) (FD_law_due : FnD P w K mg base "_law_due" 1 3 [] F__law_due) :
    FnD P w K mg base "_law_holds" 4 5 [1] (F__law_holds c_Grammar) := by
  refine fnD_of F hmg sc__law_holds rfl (by decide) (F.binds (ps := ["_law_grammar", "_law_tape_here", "_law_letters_here", "_law_seams", "_law_form"]) fun _ _ _ _ _ _ us hl => match us, hl with | [_, _, _, _, _], _ => rfl) fun cdv A outer s H E hr => ?_
  exact ⟨_, (dss_cons (ds_set 5 de_int sc__law_holds.nd)
    (dss_cons (ds_forI own_cx rfl (di_val (de_var 3)) (dg_name 6 sc__law_holds.nd) (dss_one (ds_if (dt_cmp op_gtA ok_ord (de_callB call_lenA ok_lenA (by rfl) B.len_ PySem.boot_len (da_cons (de_path (dp_ix (hu_of hr) (dp_var 6) de_int)) da_nil)) (de_var 5)) (dss_one (ds_set 5 (de_callB call_lenA ok_lenA (by rfl) B.len_ PySem.boot_len (da_cons (de_path (dp_ix (hu_of hr) (dp_var 6) de_int)) da_nil)) sc__law_holds.nd)) dss_nil)))
    (dss_cons (ds_set 7 (de_call [.lend] FDreach tk_cx (hr.mono (by decide)) (by rfl) (da_cons (de_var 0) da_nil)) sc__law_holds.nd)
    (dss_cons (ds_if (DW.dt (dw_or (dt_not (dt_truth (de_isi (by rfl) B.isinstance_ PyProof.Rows.boot_isinstance (by rfl) B.int_ PyProof.Rows.boot_int (by decide) (de_var 7)))) (dw_or (dt_truth (de_isi (by rfl) B.isinstance_ PyProof.Rows.boot_isinstance (by rfl) B.bool_ PyProof.Rows.boot_bool (by decide) (de_var 7))) (dw_or1 (dt_cmp (op_neA hr.units) ok_ne (de_var 7) (de_var 5)))))) (dss_one (ds_ret de_bl)) dss_nil)
    (dss_cons (ds_forI own_cx rfl (di_val (de_call [.chg, .lend, .lend, .lend] FD_law_strings tk_cx (hr.mono (by decide)) (by rfl) (da_cons (de_var 1) (da_cons (de_var 2) (da_cons (de_var 5) (da_cons (de_var 4) da_nil)))))) (dg_name 8 sc__law_holds.nd) (dss_cons (ds_set 7 (de_call [.lend, .lend, .lend] FDpossible tk_cx (hr.mono (by decide)) (by rfl) (da_cons (de_var 0) (da_cons (de_var 8) (da_cons (de_var 4) da_nil)))) sc__law_holds.nd)
    (dss_one (ds_if (DW.dt (dw_or (dt_not (dt_truth (de_isi (by rfl) B.isinstance_ PyProof.Rows.boot_isinstance (by rfl) B.bool_ PyProof.Rows.boot_bool (by decide) (de_var 7)))) (dw_or1 (dt_cmp (op_neA hr.units) ok_ne (de_var 7) (de_call [.lend, .lend, .lend] FD_law_due tk_cx (hr.mono (by decide)) (by rfl) (da_cons (de_var 5) (da_cons (de_var 8) (da_cons (de_var 4) da_nil)))))))) (dss_one (ds_ret de_bl)) dss_nil))))
    (dss_one (ds_ret de_bl)))))))⟩
abbrev s_consists_of : Stmt := top 11
def N_consists_of : List Str := ["text", "chars", "char"]
def f_consists_of_1  : Rho → SR := (dsIf (dCmp gNotInA (dVar 2) (dVar 1)) (dsRet (dC (.bl false))) dsNx)
def f_consists_of_2  : Rho → SR := (dsRet (dC (.bl true)))
def f_consists_of : Rho → SR := (dsSeq (dsForI (diVal (dVar 0)) (gtName 2) f_consists_of_1)
    f_consists_of_2)
def F_consists_of : Rho → Res Cel := dFun 3 2 f_consists_of
theorem sc_consists_of : FnScope N_consists_of ["text", "chars"] (defScope s_consists_of) := ⟨rfl, rfl, rfl, by decide +kernel, rfl, by decide +kernel, by decide +kernel⟩
theorem ok_consists_of {P : Program} {w : World} {K : PySem.W.Frag} {mg : Str → Option Value} {base : Heap} {f : Addr} {fd : FuncData} (F : Fun K "consists_of" "consists_of" s_consists_of f fd) (hmg : mg "consists_of" = some (.ref f)) (B : Blt mg)  :
    FnD P w K mg base "consists_of" 1 2 [] F_consists_of := by
  refine fnD_of F hmg sc_consists_of rfl (by decide) (F.binds (ps := ["text", "chars"]) fun _ _ _ _ _ _ us hl => match us, hl with | [_, _], _ => rfl) fun cdv A outer s H E hr => ?_
  exact ⟨_, (dss_cons (ds_forI own_cx rfl (di_val (de_var 0)) (dg_name 2 sc_consists_of.nd) (dss_one (ds_if (dt_cmp (op_notInX (hu_of hr) (hu65 hr)) ok_notInX (de_var 2) (de_var 1)) (dss_one (ds_ret de_bl)) dss_nil)))
    (dss_one (ds_ret de_bl)))⟩
abbrev s_is_letters : Stmt := top 12
def N_is_letters : List Str := ["text", "least", "most"]
def f_is_letters : Rho → SR := (dsRet (dAndV (fun ρ => boolR (dChain gLe gLe (dVar 1) (dCb gLenA (dCons (dVar 0) dNil)) (dVar 2) ρ)) (dCall F_consists_of [.slot 0, .tmp] [.lend, .keep] (dCons (dVar 0) (dCons (dC (.str "abcdefghijklmnopqrstuvwxyz")) dNil)))))
def F_is_letters : Rho → Res Cel := dFun 3 3 f_is_letters
theorem sc_is_letters : FnScope N_is_letters ["text", "least", "most"] (defScope s_is_letters) := ⟨rfl, rfl, rfl, by decide +kernel, rfl, by decide +kernel, by decide +kernel⟩
theorem ok_is_letters {P : Program} {w : World} {K : PySem.W.Frag} {mg : Str → Option Value} {base : Heap} {f : Addr} {fd : FuncData} (F : Fun K "is_letters" "is_letters" s_is_letters f fd) (hmg : mg "is_letters" = some (.ref f)) (B : Blt mg) (CT : Cst mg) (FDconsists_of : FnD P w K mg base "consists_of" 1 2 [] F_consists_of) :
    FnD P w K mg base "is_letters" 2 3 [] F_is_letters := by
  refine fnD_of F hmg sc_is_letters rfl (by decide) (F.binds (ps := ["text", "least", "most"]) fun _ _ _ _ _ _ us hl => match us, hl with | [_, _, _], _ => rfl) fun cdv A outer s H E hr => ?_
  exact ⟨_, (dss_one (ds_ret (de_and (de_chain op_leA ok_ord op_leA ok_ord (de_var 1) (de_callB call_lenA ok_lenA (by rfl) B.len_ PySem.boot_len (da_cons (de_var 0) da_nil)) (de_var 2)) (de_one (de_call [.lend, .keep] FDconsists_of tk_cx (hr.mono (by decide)) (by rfl) (da_cons (de_var 0) (da_cons (de_gstr (by rfl) CT.LETTERS_) da_nil)))))))⟩
abbrev s_check_letters : Stmt := top 14
def N_check_letters : List Str := ["text", "least", "most"]
def f_check_letters : Rho → SR := (dsIf (dNot (dTru (dCall F_is_letters [.slot 0, .slot 1, .slot 2] [.lend, .lend, .lend] (dCons (dVar 0) (dCons (dVar 1) (dCons (dVar 2) dNil)))))) (dsRaise "BadName") dsNx)
def F_check_letters : Rho → Res Cel := dFun 3 3 f_check_letters
theorem sc_check_letters : FnScope N_check_letters ["text", "least", "most"] (defScope s_check_letters) := ⟨rfl, rfl, rfl, by decide +kernel, rfl, by decide +kernel, by decide +kernel⟩
theorem ok_check_letters {P : Program} {w : World} {K : PySem.W.Frag} {mg : Str → Option Value} {base : Heap} {f : Addr} {fd : FuncData} (F : Fun K "check_letters" "check_letters" s_check_letters f fd) (hmg : mg "check_letters" = some (.ref f)) (B : Blt mg) (EX : Exs K mg) (FDis_letters : FnD P w K mg base "is_letters" 2 3 [] F_is_letters) :
    FnD P w K mg base "check_letters" 3 3 [] F_check_letters := by
  refine fnD_of F hmg sc_check_letters rfl (by decide) (F.binds (ps := ["text", "least", "most"]) fun _ _ _ _ _ _ us hl => match us, hl with | [_, _, _], _ => rfl) fun cdv A outer s H E hr => ?_
  exact ⟨_, (dss_one (ds_if (dt_not (dt_truth (de_call [.lend, .lend, .lend] FDis_letters tk_cx (hr.mono (by decide)) (by rfl) (da_cons (de_var 0) (da_cons (de_var 1) (da_cons (de_var 2) da_nil)))))) (dss_one (ds_raise rfl tk_cx EX.r_BadName (by rfl))) dss_nil))⟩
abbrev s_check_growth : Stmt := top 15
def N_check_growth : List Str := ["seam", "text", "left", "right", "joined"]
def f_check_growth_1  : Rho → SR := (dsIf (dAnd (dTru (dBm isStr gStarts (dVar 1) (dCons (dVar 3) dNil))) (dCmp gLe (dBin gAdd (dCb gLenA (dCons (dVar 1) dNil)) (dCb gLenA (dCons (dVar 4) dNil))) (dBin gAdd (dCb gLenA (dCons (dVar 2) dNil)) (dCb gLenA (dCons (dVar 3) dNil))))) dsStk dsNx)
def f_check_growth : Rho → SR := (dsSeq (dsAsg (dVar 0) (gtTup 3 (gtCons (gtName 2) (gtCons (gtName 3) (gtCons (gtName 4) gtNil)))))
    f_check_growth_1)
def F_check_growth : Rho → Res Cel := dFun 5 2 f_check_growth
theorem sc_check_growth : FnScope N_check_growth ["seam", "text"] (defScope s_check_growth) := ⟨rfl, rfl, rfl, by decide +kernel, rfl, by decide +kernel, by decide +kernel⟩
theorem ok_check_growth {P : Program} {w : World} {K : PySem.W.Frag} {mg : Str → Option Value} {base : Heap} {f : Addr} {fd : FuncData} (F : Fun K "check_growth" "check_growth" s_check_growth f fd) (hmg : mg "check_growth" = some (.ref f)) (B : Blt mg)  :
    FnD P w K mg base "check_growth" 1 2 [] F_check_growth := by
  refine fnD_of F hmg sc_check_growth rfl (by decide) (F.binds (ps := ["seam", "text"]) fun _ _ _ _ _ _ us hl => match us, hl with | [_, _], _ => rfl) fun cdv A outer s H E hr => ?_
  exact ⟨_, (dss_cons (ds_asg (de_var 0) (dg_tup rfl (dgs_cons (dg_name 2 sc_check_growth.nd) (dgs_cons (dg_name 3 sc_check_growth.nd) (dgs_cons (dg_name 4 sc_check_growth.nd) dgs_nil)))))
    (dss_one (ds_if (DW.dt (dw_and (dt_truth (de_bm PySem.F.plainAttrs_str PySem.F.slot_str_startswith PySem.F.type_str_startswith mt_startswith ty_str ok_starts (de_var 1) (da_cons (de_var 3) da_nil))) (dw_and1 (dt_cmp op_leA ok_ord (de_bin op_addA ok_add (de_callB call_lenA ok_lenA (by rfl) B.len_ PySem.boot_len (da_cons (de_var 1) da_nil)) (de_callB call_lenA ok_lenA (by rfl) B.len_ PySem.boot_len (da_cons (de_var 4) da_nil))) (de_bin op_addA ok_add (de_callB call_lenA ok_lenA (by rfl) B.len_ PySem.boot_len (da_cons (de_var 2) da_nil)) (de_callB call_lenA ok_lenA (by rfl) B.len_ PySem.boot_len (da_cons (de_var 3) da_nil))))))) (dss_one ds_stk) dss_nil)))⟩
abbrev s_Grammar_add_seam : Stmt := inClass (top 16) 13
def N_Grammar_add_seam : List Str := ["self", "left", "right", "joined", "seam", "morph"]
def f_Grammar_add_seam_1 (c_Grammar : Addr) : Rho → SR := (dsIf (dCmp gEq (dSl (dVar 4) dONone (dOSome (dC (.int 2)))) (dTup (dCons (dMove 1) (dCons (dMove 2) dNil)))) (dsRaise "Duplicate") dsNx)
def f_Grammar_add_seam_2 (c_Grammar : Addr) : Rho → SR := (dsExpr (dCall F_check_growth [.tmp, .path 5] [.keep, .lend] (dCons (dTup (dCons (dMove 1) (dCons (dMove 2) (dCons (dMove 3) dNil)))) (dCons (dPath (dIxP 5 (dpVar 5) (dC (.int 0)))) dNil))))
def f_Grammar_add_seam_3 (c_Grammar : Addr) : Rho → SR := (dsExpr (dApp 0 (dFldP c_Grammar "_seams" (dpVar 0)) (dTup (dCons (dMove 1) (dCons (dMove 2) (dCons (dMove 3) dNil))))))
def f_Grammar_add_seam_4 (c_Grammar : Addr) : Rho → SR := (dsSeq (dsForI (diVal (dPath (dFldP c_Grammar "_morphs" (dpVar 0)))) (gtName 5) (f_Grammar_add_seam_2 c_Grammar))
    (f_Grammar_add_seam_3 c_Grammar))
def f_Grammar_add_seam_5 (c_Grammar : Addr) : Rho → SR := (dsSeq (dsForI (diVal (dPath (dFldP c_Grammar "_seams" (dpVar 0)))) (gtName 4) (f_Grammar_add_seam_1 c_Grammar))
    (f_Grammar_add_seam_4 c_Grammar))
def f_Grammar_add_seam (c_Grammar : Addr) : Rho → SR := (dsSeq (dsExpr (dCall F_check_letters [.slot 1, .tmp, .tmp] [.lend, .keep, .keep] (dCons (dVar 1) (dCons (dC (.int 1)) (dCons (dC (.int 4)) dNil)))))
    (dsSeq (dsExpr (dCall F_check_letters [.slot 2, .tmp, .tmp] [.lend, .keep, .keep] (dCons (dVar 2) (dCons (dC (.int 1)) (dCons (dC (.int 4)) dNil)))))
    (dsSeq (dsExpr (dCall F_check_letters [.slot 3, .tmp, .tmp] [.lend, .keep, .keep] (dCons (dVar 3) (dCons (dC (.int 0)) (dCons (dC (.int 8)) dNil)))))
    (f_Grammar_add_seam_5 c_Grammar))))
def F_Grammar_add_seam (c_Grammar : Addr) : Rho → Res Cel := dFun 6 4 (f_Grammar_add_seam c_Grammar)
theorem sc_Grammar_add_seam : FnScope N_Grammar_add_seam ["self", "left", "right", "joined"] (defScope s_Grammar_add_seam) := ⟨rfl, rfl, rfl, by decide +kernel, rfl, by decide +kernel, by decide +kernel⟩
theorem ok_Grammar_add_seam {P : Program} {w : World} {K : PySem.W.Frag} {mg : Str → Option Value} {base : Heap} {c_Grammar : Addr} {f : Addr} {fd : FuncData} (F : Fun K "add_seam" "Grammar.add_seam" s_Grammar_add_seam f fd) (hmg : Meth K c_Grammar "add_seam" f) (B : Blt mg) (EX : Exs K mg) (CF_Grammar : ClsF_Grammar K mg c_Grammar) (FDcheck_letters : FnD P w K mg base "check_letters" 3 3 [] F_check_letters) (FDcheck_growth : FnD P w K mg base "check_growth" 1 2 [] F_check_growth) :
    MtD P w K mg base c_Grammar "add_seam" 4 4 [0] (F_Grammar_add_seam c_Grammar) := by
  refine mtD_of F hmg sc_Grammar_add_seam rfl (by decide) (F.binds (ps := ["self", "left", "right", "joined"]) fun _ _ _ _ _ _ us hl => match us, hl with | [_, _, _, _], _ => rfl) fun cdv A outer s H E hr => ?_
  exact ⟨_, (dss_cons (ds_expr (de_call [.lend, .keep, .keep] FDcheck_letters tk_cx (hr.mono (by decide)) (by rfl) (da_cons (de_var 1) (da_cons de_int (da_cons de_int da_nil)))))
    (dss_cons (ds_expr (de_call [.lend, .keep, .keep] FDcheck_letters tk_cx (hr.mono (by decide)) (by rfl) (da_cons (de_var 2) (da_cons de_int (da_cons de_int da_nil)))))
    (dss_cons (ds_expr (de_call [.lend, .keep, .keep] FDcheck_letters tk_cx (hr.mono (by decide)) (by rfl) (da_cons (de_var 3) (da_cons de_int (da_cons de_int da_nil)))))
    (dss_cons (ds_forI own_cx rfl (di_val (de_path (dp_fld CF_Grammar.cl CF_Grammar.n__seams (dp_var 0)))) (dg_name 4 sc_Grammar_add_seam.nd) (dss_one (ds_if (dt_cmp (op_eqA hr.units) ok_eq (de_slice (de_var 4) do_none (do_some de_int)) (de_tup (da_cons (de_move 1) (da_cons (de_move 2) da_nil)))) (dss_one (ds_raise rfl tk_cx EX.r_Duplicate (by rfl))) dss_nil)))
    (dss_cons (ds_forI own_cx rfl (di_val (de_path (dp_fld CF_Grammar.cl CF_Grammar.n__morphs (dp_var 0)))) (dg_name 5 sc_Grammar_add_seam.nd) (dss_one (ds_expr (de_call [.keep, .lend] FDcheck_growth tk_cx (hr.mono (by decide)) (by rfl) (da_cons (de_tup (da_cons (de_move 1) (da_cons (de_move 2) (da_cons (de_move 3) da_nil)))) (da_cons (de_path (dp_ix (hu_of hr) (dp_var 5) de_int)) da_nil))))))
    (dss_one (ds_expr (de_append (dp_fld CF_Grammar.cl CF_Grammar.n__seams (dp_var 0)) (de_tup (da_cons (de_move 1) (da_cons (de_move 2) (da_cons (de_move 3) da_nil))))))))))))⟩
abbrev s_law : Stmt := top 25
def N_law : List Str := ["_law_script", "_law_tape_here", "_law_letters_here", "_law_form", "_law_grammar", "_law_seams", "_law_k", "_law_drawn", "_law_left", "_law_seam", "_law_one"]
def f_law_1 (c_Grammar : Addr) : Rho → SR := (dsIf (dNot (dTru (dCall (F__law_holds c_Grammar) [.slot 4, .slot 7, .slot 2, .slot 5, .slot 3] [.lend, .chg, .lend, .lend, .lend] (dCons (dVar 4) (dCons (dVar 7) (dCons (dVar 2) (dCons (dVar 5) (dCons (dVar 3) dNil)))))))) (dsRet (dC (.bl false))) dsNx)
def f_law_2 (c_Grammar : Addr) : Rho → SR := (dsIf (dCmp gEq (dCb gLenA (dCons (dLc (diVal (dVar 5)) (gtName 10) (dCmp gEq (dSl (dVar 10) dONone (dOSome (dC (.int 2)))) (dSl (dVar 9) dONone (dOSome (dC (.int 2))))) (dMove 10) [10]) dNil)) (dC (.int 0))) (dsSeq (dsExpr (dApp 5 (dpVar 5) (dMove 9)))
    (dsSeq (dsExpr (dCall (F_Grammar_add_seam c_Grammar) [.slot 4, .path 9, .path 9, .path 9] [.chg, .lend, .lend, .lend] (dRecv c_Grammar "add_seam" (dVar 4) (dCons (dPath (dIxP 9 (dpVar 9) (dC (.int 0)))) (dCons (dPath (dIxP 9 (dpVar 9) (dC (.int 1)))) (dCons (dPath (dIxP 9 (dpVar 9) (dC (.int 2)))) dNil))))))
    (f_law_1 c_Grammar))) dsNx)
def f_law_3 (c_Grammar : Addr) : Rho → SR := (dsSeq (dsSet 7 (dCall F__law_tape [.slot 0, .tmp] [.lend, .keep] (dCons (dVar 0) (dCons (dBin gAdd (dC (.int 2)) (dVar 6)) dNil))))
    (dsSeq (dsSet 8 (dCall F__law_letters [.slot 7, .slot 2, .tmp, .tmp] [.chg, .lend, .keep, .keep] (dCons (dVar 7) (dCons (dVar 2) (dCons (dC (.int 1)) (dCons (dC (.int 4)) dNil))))))
    (dsSeq (dsSet 9 (dTup (dCons (dMove 8) (dCons (dCall F__law_letters [.slot 7, .slot 2, .tmp, .tmp] [.chg, .lend, .keep, .keep] (dCons (dVar 7) (dCons (dVar 2) (dCons (dC (.int 1)) (dCons (dC (.int 4)) dNil))))) (dCons (dCall F__law_letters [.slot 7, .slot 2, .tmp, .tmp] [.chg, .lend, .keep, .keep] (dConsL 7 (dCons (dVar 2) (dCons (dC (.int 0)) (dCons (dIx (dLst (dCons (dC (.int 1)) (dCons (dC (.int 8)) dNil))) (dCall F__law_take [.slot 7, .tmp] [.chg, .keep] (dCons (dVar 7) (dCons (dC (.int 2)) dNil)))) dNil))))) dNil)))))
    (f_law_2 c_Grammar))))
def f_law_4 (c_Grammar : Addr) : Rho → SR := (dsRet (dC (.bl true)))
def f_law_5 (c_Grammar : Addr) : Rho → SR := (dsSeq (dsForI (diRng (dCons (dCall F__law_take [.slot 1, .tmp] [.chg, .keep] (dCons (dVar 1) (dCons (dC (.int 6)) dNil))) dNil)) (gtName 6) (f_law_3 c_Grammar))
    (f_law_4 c_Grammar))
def f_law_6 (c_Grammar : Addr) : Rho → SR := (dsSeq (dsIf (dNot (dTru (dCall (F__law_holds c_Grammar) [.slot 4, .tmp, .slot 2, .slot 5, .slot 3] [.lend, .keep, .lend, .lend, .lend] (dCons (dVar 4) (dCons (dCall F__law_tape [.slot 0, .tmp] [.lend, .keep] (dCons (dVar 0) (dCons (dC (.int 1)) dNil))) (dCons (dVar 2) (dCons (dVar 5) (dCons (dVar 3) dNil)))))))) (dsRet (dC (.bl false))) dsNx)
    (f_law_5 c_Grammar))
def f_law_7 (c_Grammar : Addr) : Rho → SR := (dsSeq (dsSet 4 (dNew c_Grammar (F_Grammar___init__ c_Grammar)))
    (dsSeq (dsSet 5 (dLst dNil))
    (f_law_6 c_Grammar)))
def f_law_8 (c_Grammar : Addr) : Rho → SR := (dsSeq (dsIf (dCmp gEq (dCall F__law_take [.slot 1, .tmp] [.chg, .keep] (dCons (dVar 1) (dCons (dC (.int 5)) dNil))) (dC (.int 1))) (dsSet 3 (dCall F__law_letters [.slot 1, .slot 2, .tmp, .tmp] [.chg, .lend, .keep, .keep] (dCons (dVar 1) (dCons (dVar 2) (dCons (dC (.int 13)) (dCons (dC (.int 60)) dNil)))))) dsNx)
    (f_law_7 c_Grammar))
def f_law (c_Grammar : Addr) : Rho → SR := (dsSeq (dsSet 1 (dCall F__law_tape [.slot 0, .tmp] [.lend, .keep] (dCons (dVar 0) (dCons (dC (.int 0)) dNil))))
    (dsSeq (dsSet 2 (dCall F__law_alphabet [.slot 1] [.chg] (dCons (dVar 1) dNil)))
    (dsSeq (dsSet 3 (dCall F__law_letters [.slot 1, .slot 2, .tmp, .tmp] [.chg, .lend, .keep, .keep] (dCons (dVar 1) (dCons (dVar 2) (dCons (dC (.int 1)) (dCons (dC (.int 12)) dNil))))))
    (f_law_8 c_Grammar))))
def F_law (c_Grammar : Addr) : Rho → Res Cel := dFun 11 1 (f_law c_Grammar)
theorem sc_law : FnScope N_law ["_law_script"] (defScope s_law) := ⟨rfl, rfl, rfl, by decide +kernel, rfl, by decide +kernel, by decide +kernel⟩
theorem ok_law {P : Program} {w : World} {K : PySem.W.Frag} {mg : Str → Option Value} {base : Heap} {c_Grammar : Addr} {f : Addr} {fd : FuncData} (F : Fun K "law" "law" s_law f fd) (hmg : mg "law" = some (.ref f)) (B : Blt mg) (CF_Grammar : ClsF_Grammar K mg c_Grammar) (FD_law_tape : FnD P w K mg base "_law_tape" 1 2 [] F__law_tape) (FD_law_alphabet : FnD P w K mg base "_law_alphabet" 2 1 [0] F__law_alphabet) (FD_law_letters : FnD P w K mg base "_law_letters" 2 4 [0] F__law_letters) (FD_law_take : FnD P w K mg base "_law_take" 1 2 [0] F__law_take) (FDGrammar___init__ : InD P w K mg base c_Grammar 1 (F_Grammar___init__ c_Grammar)) (FD_law_holds : FnD P w K mg base "_law_holds" 4 5 [1] (F__law_holds c_Grammar)) (FDGrammar_add_seam : MtD P w K mg base c_Grammar "add_seam" 4 4 [0] (F_Grammar_add_seam c_Grammar)) :
    FnD P w K mg base "law" 5 1 [] (F_law c_Grammar) := by
  refine fnD_of F hmg sc_law rfl (by decide) (F.binds (ps := ["_law_script"]) fun _ _ _ _ _ _ us hl => match us, hl with | [_], _ => rfl) fun cdv A outer s H E hr => ?_
  exact ⟨_, (dss_cons (ds_set 1 (de_call [.lend, .keep] FD_law_tape tk_cx (hr.mono (by decide)) (by rfl) (da_cons (de_var 0) (da_cons de_int da_nil))) sc_law.nd)
    (dss_cons (ds_set 2 (de_call [.chg] FD_law_alphabet tk_cx (hr.mono (by decide)) (by rfl) (da_cons (de_var 1) da_nil)) sc_law.nd)
    (dss_cons (ds_set 3 (de_call [.chg, .lend, .keep, .keep] FD_law_letters tk_cx (hr.mono (by decide)) (by rfl) (da_cons (de_var 1) (da_cons (de_var 2) (da_cons de_int (da_cons de_int da_nil))))) sc_law.nd)
    (dss_cons (ds_if (dt_cmp (op_eqA hr.units) ok_eq (de_call [.chg, .keep] FD_law_take tk_cx (hr.mono (by decide)) (by rfl) (da_cons (de_var 1) (da_cons de_int da_nil))) de_int) (dss_one (ds_set 3 (de_call [.chg, .lend, .keep, .keep] FD_law_letters tk_cx (hr.mono (by decide)) (by rfl) (da_cons (de_var 1) (da_cons (de_var 2) (da_cons de_int (da_cons de_int da_nil))))) sc_law.nd)) dss_nil)
    (dss_cons (ds_set 4 (de_new0 FDGrammar___init__ tk_cx (hr.mono (by decide)) (by rfl) CF_Grammar.g) sc_law.nd)
    (dss_cons (ds_set 5 (de_lst da_nil) sc_law.nd)
    (dss_cons (ds_if (dt_not (dt_truth (de_call [.lend, .keep, .lend, .lend, .lend] FD_law_holds tk_cx (hr.mono (by decide)) (by rfl) (da_cons (de_var 4) (da_cons (de_call [.lend, .keep] FD_law_tape tk_cx (hr.mono (by decide)) (by rfl) (da_cons (de_var 0) (da_cons de_int da_nil))) (da_cons (de_var 2) (da_cons (de_var 5) (da_cons (de_var 3) da_nil)))))))) (dss_one (ds_ret de_bl)) dss_nil)
    (dss_cons (ds_forI own_cx rfl (di_range1 (by rfl) B.range_ (da_cons (de_call [.chg, .keep] FD_law_take tk_cx (hr.mono (by decide)) (by rfl) (da_cons (de_var 1) (da_cons de_int da_nil))) da_nil)) (dg_name 6 sc_law.nd) (dss_cons (ds_set 7 (de_call [.lend, .keep] FD_law_tape tk_cx (hr.mono (by decide)) (by rfl) (da_cons (de_var 0) (da_cons (de_bin op_addA ok_add de_int (de_var 6)) da_nil))) sc_law.nd)
    (dss_cons (ds_set 8 (de_call [.chg, .lend, .keep, .keep] FD_law_letters tk_cx (hr.mono (by decide)) (by rfl) (da_cons (de_var 7) (da_cons (de_var 2) (da_cons de_int (da_cons de_int da_nil))))) sc_law.nd)
    (dss_cons (ds_set 9 (de_tup (da_cons (de_move 8) (da_cons (de_call [.chg, .lend, .keep, .keep] FD_law_letters tk_cx (hr.mono (by decide)) (by rfl) (da_cons (de_var 7) (da_cons (de_var 2) (da_cons de_int (da_cons de_int da_nil))))) (da_cons (de_call [.chg, .lend, .keep, .keep] FD_law_letters tk_cx (hr.mono (by decide)) (by rfl) (da_late 7 (da_cons (de_var 2) (da_cons de_int (da_cons (de_ix (hu_of hr) (de_lst (da_cons de_int (da_cons de_int da_nil))) (de_call [.chg, .keep] FD_law_take tk_cx (hr.mono (by decide)) (by rfl) (da_cons (de_var 7) (da_cons de_int da_nil)))) da_nil))))) da_nil)))) sc_law.nd)
    (dss_one (ds_if (dt_cmp (op_eqA hr.units) ok_eq (de_callB call_lenA ok_lenA (by rfl) B.len_ PySem.boot_len (da_cons (de_lc [("_law_one", 10)] rfl sc_law.nd (blkOk_by (N := N_law) (sc := defScope s_law) (by decide +kernel)) (di_val (de_var 5)) (fun _ _ _ _ _ => (dg_name 10 sc_law.nd)) (fun _ _ _ _ _ => (dts_one (dt_cmp (op_eqA hr.units) ok_eq (de_slice (de_var 10) do_none (do_some de_int)) (de_slice (de_var 9) do_none (do_some de_int))))) (fun _ _ _ _ _ => (de_move 10))) da_nil)) de_int) (dss_cons (ds_expr (de_append (dp_var 5) (de_move 9)))
    (dss_cons (ds_expr (de_meth [.chg, .lend, .lend, .lend] FDGrammar_add_seam CF_Grammar.cl tk_cx (hr.mono (by decide)) (de_var 4) (da_cons (de_path (dp_ix (hu_of hr) (dp_var 9) de_int)) (da_cons (de_path (dp_ix (hu_of hr) (dp_var 9) de_int)) (da_cons (de_path (dp_ix (hu_of hr) (dp_var 9) de_int)) da_nil)))))
    (dss_one (ds_if (dt_not (dt_truth (de_call [.lend, .chg, .lend, .lend, .lend] FD_law_holds tk_cx (hr.mono (by decide)) (by rfl) (da_cons (de_var 4) (da_cons (de_var 7) (da_cons (de_var 2) (da_cons (de_var 5) (da_cons (de_var 3) da_nil)))))))) (dss_one (ds_ret de_bl)) dss_nil)))) dss_nil))))))
    (dss_one (ds_ret de_bl))))))))))⟩
theorem okF_law {P : Program} {w : World} {K : PySem.W.Frag} {mg : Str → Option Value} {base : Heap} {c_Grammar : Addr} {f : Addr} {fd : FuncData} (F : Fun K "law" "law" s_law f fd) (B : Blt mg) (CF_Grammar : ClsF_Grammar K mg c_Grammar) (FD_law_tape : FnD P w K mg base "_law_tape" 1 2 [] F__law_tape) (FD_law_alphabet : FnD P w K mg base "_law_alphabet" 2 1 [0] F__law_alphabet) (FD_law_letters : FnD P w K mg base "_law_letters" 2 4 [0] F__law_letters) (FD_law_take : FnD P w K mg base "_law_take" 1 2 [0] F__law_take) (FDGrammar___init__ : InD P w K mg base c_Grammar 1 (F_Grammar___init__ c_Grammar)) (FD_law_holds : FnD P w K mg base "_law_holds" 4 5 [1] (F__law_holds c_Grammar)) (FDGrammar_add_seam : MtD P w K mg base c_Grammar "add_seam" 4 4 [0] (F_Grammar_add_seam c_Grammar)) :
    FnOk P w K mg base (L2N.CX P w) 5 f fd ["_law_script"] (spD K mg 1 [] (F_law c_Grammar)) := by
  refine fn_ok F sc_law rfl (by decide) fun cdv A outer s H E hr => ?_
  exact ⟨_, (dss_cons (ds_set 1 (de_call [.lend, .keep] FD_law_tape tk_cx (hr.mono (by decide)) (by rfl) (da_cons (de_var 0) (da_cons de_int da_nil))) sc_law.nd)
    (dss_cons (ds_set 2 (de_call [.chg] FD_law_alphabet tk_cx (hr.mono (by decide)) (by rfl) (da_cons (de_var 1) da_nil)) sc_law.nd)
    (dss_cons (ds_set 3 (de_call [.chg, .lend, .keep, .keep] FD_law_letters tk_cx (hr.mono (by decide)) (by rfl) (da_cons (de_var 1) (da_cons (de_var 2) (da_cons de_int (da_cons de_int da_nil))))) sc_law.nd)
    (dss_cons (ds_if (dt_cmp (op_eqA hr.units) ok_eq (de_call [.chg, .keep] FD_law_take tk_cx (hr.mono (by decide)) (by rfl) (da_cons (de_var 1) (da_cons de_int da_nil))) de_int) (dss_one (ds_set 3 (de_call [.chg, .lend, .keep, .keep] FD_law_letters tk_cx (hr.mono (by decide)) (by rfl) (da_cons (de_var 1) (da_cons (de_var 2) (da_cons de_int (da_cons de_int da_nil))))) sc_law.nd)) dss_nil)
    (dss_cons (ds_set 4 (de_new0 FDGrammar___init__ tk_cx (hr.mono (by decide)) (by rfl) CF_Grammar.g) sc_law.nd)
    (dss_cons (ds_set 5 (de_lst da_nil) sc_law.nd)
    (dss_cons (ds_if (dt_not (dt_truth (de_call [.lend, .keep, .lend, .lend, .lend] FD_law_holds tk_cx (hr.mono (by decide)) (by rfl) (da_cons (de_var 4) (da_cons (de_call [.lend, .keep] FD_law_tape tk_cx (hr.mono (by decide)) (by rfl) (da_cons (de_var 0) (da_cons de_int da_nil))) (da_cons (de_var 2) (da_cons (de_var 5) (da_cons (de_var 3) da_nil)))))))) (dss_one (ds_ret de_bl)) dss_nil)
    (dss_cons (ds_forI own_cx rfl (di_range1 (by rfl) B.range_ (da_cons (de_call [.chg, .keep] FD_law_take tk_cx (hr.mono (by decide)) (by rfl) (da_cons (de_var 1) (da_cons de_int da_nil))) da_nil)) (dg_name 6 sc_law.nd) (dss_cons (ds_set 7 (de_call [.lend, .keep] FD_law_tape tk_cx (hr.mono (by decide)) (by rfl) (da_cons (de_var 0) (da_cons (de_bin op_addA ok_add de_int (de_var 6)) da_nil))) sc_law.nd)
    (dss_cons (ds_set 8 (de_call [.chg, .lend, .keep, .keep] FD_law_letters tk_cx (hr.mono (by decide)) (by rfl) (da_cons (de_var 7) (da_cons (de_var 2) (da_cons de_int (da_cons de_int da_nil))))) sc_law.nd)
    (dss_cons (ds_set 9 (de_tup (da_cons (de_move 8) (da_cons (de_call [.chg, .lend, .keep, .keep] FD_law_letters tk_cx (hr.mono (by decide)) (by rfl) (da_cons (de_var 7) (da_cons (de_var 2) (da_cons de_int (da_cons de_int da_nil))))) (da_cons (de_call [.chg, .lend, .keep, .keep] FD_law_letters tk_cx (hr.mono (by decide)) (by rfl) (da_late 7 (da_cons (de_var 2) (da_cons de_int (da_cons (de_ix (hu_of hr) (de_lst (da_cons de_int (da_cons de_int da_nil))) (de_call [.chg, .keep] FD_law_take tk_cx (hr.mono (by decide)) (by rfl) (da_cons (de_var 7) (da_cons de_int da_nil)))) da_nil))))) da_nil)))) sc_law.nd)
    (dss_one (ds_if (dt_cmp (op_eqA hr.units) ok_eq (de_callB call_lenA ok_lenA (by rfl) B.len_ PySem.boot_len (da_cons (de_lc [("_law_one", 10)] rfl sc_law.nd (blkOk_by (N := N_law) (sc := defScope s_law) (by decide +kernel)) (di_val (de_var 5)) (fun _ _ _ _ _ => (dg_name 10 sc_law.nd)) (fun _ _ _ _ _ => (dts_one (dt_cmp (op_eqA hr.units) ok_eq (de_slice (de_var 10) do_none (do_some de_int)) (de_slice (de_var 9) do_none (do_some de_int))))) (fun _ _ _ _ _ => (de_move 10))) da_nil)) de_int) (dss_cons (ds_expr (de_append (dp_var 5) (de_move 9)))
    (dss_cons (ds_expr (de_meth [.chg, .lend, .lend, .lend] FDGrammar_add_seam CF_Grammar.cl tk_cx (hr.mono (by decide)) (de_var 4) (da_cons (de_path (dp_ix (hu_of hr) (dp_var 9) de_int)) (da_cons (de_path (dp_ix (hu_of hr) (dp_var 9) de_int)) (da_cons (de_path (dp_ix (hu_of hr) (dp_var 9) de_int)) da_nil)))))
    (dss_one (ds_if (dt_not (dt_truth (de_call [.lend, .chg, .lend, .lend, .lend] FD_law_holds tk_cx (hr.mono (by decide)) (by rfl) (da_cons (de_var 4) (da_cons (de_var 7) (da_cons (de_var 2) (da_cons (de_var 5) (da_cons (de_var 3) da_nil)))))))) (dss_one (ds_ret de_bl)) dss_nil)))) dss_nil))))))
    (dss_one (ds_ret de_bl))))))))))⟩
theorem all_mk {l : PySem.W.OpenLaw} {w : World} {K : PySem.W.Frag} {h : Heap} {mg : Str → Option Value} {fa : Addr} (X : K.In h) (G : h.Ns mainGlobals mg) (hfa : mg "law" = some (.ref fa)) {f__law_tape' : Addr} {oc__law_tape kV__law_tape dc__law_tape pm__law_tape cd__law_tape ct__law_tape : Value} {od__law_tape an__law_tape : Option Addr} {sl__law_tape : Array (Option Value)} {f__law_take' : Addr} {oc__law_take kV__law_take dc__law_take pm__law_take cd__law_take ct__law_take : Value} {od__law_take an__law_take : Option Addr} {sl__law_take : Array (Option Value)} {f__law_alphabet' : Addr} {oc__law_alphabet kV__law_alphabet dc__law_alphabet pm__law_alphabet cd__law_alphabet ct__law_alphabet : Value} {od__law_alphabet an__law_alphabet : Option Addr} {sl__law_alphabet : Array (Option Value)} {f__law_letters' : Addr} {oc__law_letters kV__law_letters dc__law_letters pm__law_letters cd__law_letters ct__law_letters : Value} {od__law_letters an__law_letters : Option Addr} {sl__law_letters : Array (Option Value)} {f_Grammar___init__' : Addr} {oc_Grammar___init__ kV_Grammar___init__ dc_Grammar___init__ pm_Grammar___init__ cd_Grammar___init__ ct_Grammar___init__ : Value} {od_Grammar___init__ an_Grammar___init__ : Option Addr} {sl_Grammar___init__ : Array (Option Value)} {f_Grammar_seams' : Addr} {oc_Grammar_seams kV_Grammar_seams dc_Grammar_seams pm_Grammar_seams cd_Grammar_seams ct_Grammar_seams : Value} {od_Grammar_seams an_Grammar_seams : Option Addr} {sl_Grammar_seams : Array (Option Value)} {f_reach' : Addr} {oc_reach kV_reach dc_reach pm_reach cd_reach ct_reach : Value} {od_reach an_reach : Option Addr} {sl_reach : Array (Option Value)} {f__law_strings' : Addr} {oc__law_strings kV__law_strings dc__law_strings pm__law_strings cd__law_strings ct__law_strings : Value} {od__law_strings an__law_strings : Option Addr} {sl__law_strings : Array (Option Value)} {f_possible' : Addr} {oc_possible kV_possible dc_possible pm_possible cd_possible ct_possible : Value} {od_possible an_possible : Option Addr} {sl_possible : Array (Option Value)} {f__law_due' : Addr} {oc__law_due kV__law_due dc__law_due pm__law_due cd__law_due ct__law_due : Value} {od__law_due an__law_due : Option Addr} {sl__law_due : Array (Option Value)} {f__law_holds' : Addr} {oc__law_holds kV__law_holds dc__law_holds pm__law_holds cd__law_holds ct__law_holds : Value} {od__law_holds an__law_holds : Option Addr} {sl__law_holds : Array (Option Value)} {f_consists_of' : Addr} {oc_consists_of kV_consists_of dc_consists_of pm_consists_of cd_consists_of ct_consists_of : Value} {od_consists_of an_consists_of : Option Addr} {sl_consists_of : Array (Option Value)} {f_is_letters' : Addr} {oc_is_letters kV_is_letters dc_is_letters pm_is_letters cd_is_letters ct_is_letters : Value} {od_is_letters an_is_letters : Option Addr} {sl_is_letters : Array (Option Value)} {f_check_letters' : Addr} {oc_check_letters kV_check_letters dc_check_letters pm_check_letters cd_check_letters ct_check_letters : Value} {od_check_letters an_check_letters : Option Addr} {sl_check_letters : Array (Option Value)} {f_check_growth' : Addr} {oc_check_growth kV_check_growth dc_check_growth pm_check_growth cd_check_growth ct_check_growth : Value} {od_check_growth an_check_growth : Option Addr} {sl_check_growth : Array (Option Value)} {f_Grammar_add_seam' : Addr} {oc_Grammar_add_seam kV_Grammar_add_seam dc_Grammar_add_seam pm_Grammar_add_seam cd_Grammar_add_seam ct_Grammar_add_seam : Value} {od_Grammar_add_seam an_Grammar_add_seam : Option Addr} {sl_Grammar_add_seam : Array (Option Value)} {f_law' : Addr} {oc_law kV_law dc_law pm_law cd_law ct_law : Value} {od_law an_law : Option Addr} {sl_law : Array (Option Value)} {t_LETTERS : Tok} {C_BadName : Addr} {C_Duplicate : Addr} {c_Grammar : Addr}
    (ca_Grammar : PySem.W.nsIn K mainGlobals "Grammar" = some (some (.ref c_Grammar)))
    (cpg_Grammar : PySem.W.plainGet K c_Grammar Str.empty = true)
    (chd_Grammar : PySem.W.hasDictIn K c_Grammar = true)
    (cpo_Grammar : PySem.W.plainOver K c_Grammar = true)
    (csa_Grammar : PySem.W.findIn K (.ref c_Grammar) "__setattr__" = some (some (.builtin "object.__setattr__")))
    (cmk_Grammar : PySem.W.makesIn K c_Grammar = true)
    (ckc_Grammar : PySem.W.keepIn K (.ref c_Grammar) = true)
    (cn_Grammar__attributes : PySem.W.findIn K (.ref c_Grammar) "_attributes" = some none)
    (cn_Grammar__categories : PySem.W.findIn K (.ref c_Grammar) "_categories" = some none)
    (cn_Grammar__rules : PySem.W.findIn K (.ref c_Grammar) "_rules" = some none)
    (cn_Grammar__morphs : PySem.W.findIn K (.ref c_Grammar) "_morphs" = some none)
    (cn_Grammar__arcs : PySem.W.findIn K (.ref c_Grammar) "_arcs" = some none)
    (cn_Grammar__ends : PySem.W.findIn K (.ref c_Grammar) "_ends" = some none)
    (cn_Grammar__seams : PySem.W.findIn K (.ref c_Grammar) "_seams" = some none)
    (cn_Grammar__start : PySem.W.findIn K (.ref c_Grammar) "_start" = some none)
    (cn_Grammar__first : PySem.W.findIn K (.ref c_Grammar) "_first" = some none)
    (g_LETTERS : PySem.W.nsIn K mainGlobals "LETTERS" = some (some (.str "abcdefghijklmnopqrstuvwxyz" t_LETTERS)))
    (ga_BadName : PySem.W.nsIn K mainGlobals "BadName" = some (some (.ref C_BadName)))
    (gk_BadName : PySem.W.keepIn K (.ref C_BadName) = true)
    (gs_BadName : PySem.W.subIn K (.ref C_BadName) (.type "BaseException") = some true)
    (gt_BadName : PySem.W.typeIn K (.ref C_BadName) = some (.type "type"))
    (gi_BadName : PySem.W.isClsIn K C_BadName = true)
    (gf_BadName : PySem.W.subIn K (.ref C_BadName) (.ref C_BadName) = some true)
    (ga_Duplicate : PySem.W.nsIn K mainGlobals "Duplicate" = some (some (.ref C_Duplicate)))
    (gk_Duplicate : PySem.W.keepIn K (.ref C_Duplicate) = true)
    (gs_Duplicate : PySem.W.subIn K (.ref C_Duplicate) (.type "BaseException") = some true)
    (gt_Duplicate : PySem.W.typeIn K (.ref C_Duplicate) = some (.type "type"))
    (gi_Duplicate : PySem.W.isClsIn K C_Duplicate = true)
    (gf_Duplicate : PySem.W.subIn K (.ref C_Duplicate) (.ref C_Duplicate) = some true)
    (gx_BadName : PySem.W.excIn K C_BadName veBase "ValueError.__new__" = true)
    (ge1_BadName : PySem.W.findIn K (.ref C_BadName) "__getattribute__" = some (some (.builtin "BaseException.__getattribute__")))
    (ge2_BadName : PySem.W.findIn K (.ref C_BadName) "__getattr__" = some none)
    (ge3_BadName : PySem.W.hasDictIn K C_BadName = true)
    (ge4_BadName : PySem.W.findIn K (.ref C_BadName) "__class__" = some (some (.builtin "object.__class__")))
    (ge5_BadName : PySem.W.specialIn K (.builtin "object.__class__") "__get__" = some (some (.builtin "getset_descriptor.__get__")))
    (ge6_BadName : PySem.W.takesIn K (.builtin "object.__class__") = some true)
    (ge7_BadName : PySem.W.mroIn K C_BadName (.type "object") = some true)
    (gx_Duplicate : PySem.W.excIn K C_Duplicate veBase "ValueError.__new__" = true)
    (ge1_Duplicate : PySem.W.findIn K (.ref C_Duplicate) "__getattribute__" = some (some (.builtin "BaseException.__getattribute__")))
    (ge2_Duplicate : PySem.W.findIn K (.ref C_Duplicate) "__getattr__" = some none)
    (ge3_Duplicate : PySem.W.hasDictIn K C_Duplicate = true)
    (ge4_Duplicate : PySem.W.findIn K (.ref C_Duplicate) "__class__" = some (some (.builtin "object.__class__")))
    (ge5_Duplicate : PySem.W.specialIn K (.builtin "object.__class__") "__get__" = some (some (.builtin "getset_descriptor.__get__")))
    (ge6_Duplicate : PySem.W.takesIn K (.builtin "object.__class__") = some true)
    (ge7_Duplicate : PySem.W.mroIn K C_Duplicate (.type "object") = some true)
    (a__law_tape : PySem.W.nsIn K mainGlobals "_law_tape" = some (some (.ref f__law_tape'))) (l__law_tape : K.lookup f__law_tape' = some ⟨oc__law_tape, od__law_tape, .func (PySem.W.fnOf "_law_tape" "_law_tape" (defArgs s__law_tape) (defBody s__law_tape) (defScope s__law_tape) .none kV__law_tape dc__law_tape pm__law_tape an__law_tape cd__law_tape ct__law_tape), sl__law_tape⟩) (c__law_tape : PySem.W.codeIn K cd__law_tape "_law_tape" = true) (k__law_tape : PySem.W.keepIn K (.ref f__law_tape') = true)
    (a__law_take : PySem.W.nsIn K mainGlobals "_law_take" = some (some (.ref f__law_take'))) (l__law_take : K.lookup f__law_take' = some ⟨oc__law_take, od__law_take, .func (PySem.W.fnOf "_law_take" "_law_take" (defArgs s__law_take) (defBody s__law_take) (defScope s__law_take) .none kV__law_take dc__law_take pm__law_take an__law_take cd__law_take ct__law_take), sl__law_take⟩) (c__law_take : PySem.W.codeIn K cd__law_take "_law_take" = true) (k__law_take : PySem.W.keepIn K (.ref f__law_take') = true)
    (a__law_alphabet : PySem.W.nsIn K mainGlobals "_law_alphabet" = some (some (.ref f__law_alphabet'))) (l__law_alphabet : K.lookup f__law_alphabet' = some ⟨oc__law_alphabet, od__law_alphabet, .func (PySem.W.fnOf "_law_alphabet" "_law_alphabet" (defArgs s__law_alphabet) (defBody s__law_alphabet) (defScope s__law_alphabet) .none kV__law_alphabet dc__law_alphabet pm__law_alphabet an__law_alphabet cd__law_alphabet ct__law_alphabet), sl__law_alphabet⟩) (c__law_alphabet : PySem.W.codeIn K cd__law_alphabet "_law_alphabet" = true) (k__law_alphabet : PySem.W.keepIn K (.ref f__law_alphabet') = true)
    (a__law_letters : PySem.W.nsIn K mainGlobals "_law_letters" = some (some (.ref f__law_letters'))) (l__law_letters : K.lookup f__law_letters' = some ⟨oc__law_letters, od__law_letters, .func (PySem.W.fnOf "_law_letters" "_law_letters" (defArgs s__law_letters) (defBody s__law_letters) (defScope s__law_letters) .none kV__law_letters dc__law_letters pm__law_letters an__law_letters cd__law_letters ct__law_letters), sl__law_letters⟩) (c__law_letters : PySem.W.codeIn K cd__law_letters "_law_letters" = true) (k__law_letters : PySem.W.keepIn K (.ref f__law_letters') = true)
    (a_Grammar___init__ : PySem.W.findIn K (.ref c_Grammar) "__init__" = some (some (.ref f_Grammar___init__'))) (i_Grammar___init__ : PySem.W.isFn K (.ref f_Grammar___init__') = true) (l_Grammar___init__ : K.lookup f_Grammar___init__' = some ⟨oc_Grammar___init__, od_Grammar___init__, .func (PySem.W.fnOf "__init__" "Grammar.__init__" (defArgs s_Grammar___init__) (defBody s_Grammar___init__) (defScope s_Grammar___init__) .none kV_Grammar___init__ dc_Grammar___init__ pm_Grammar___init__ an_Grammar___init__ cd_Grammar___init__ ct_Grammar___init__), sl_Grammar___init__⟩) (c_Grammar___init__ : PySem.W.codeIn K cd_Grammar___init__ "Grammar.__init__" = true) (k_Grammar___init__ : PySem.W.keepIn K (.ref f_Grammar___init__') = true)
    (a_Grammar_seams : PySem.W.findIn K (.ref c_Grammar) "seams" = some (some (.ref f_Grammar_seams'))) (i_Grammar_seams : PySem.W.isFn K (.ref f_Grammar_seams') = true) (l_Grammar_seams : K.lookup f_Grammar_seams' = some ⟨oc_Grammar_seams, od_Grammar_seams, .func (PySem.W.fnOf "seams" "Grammar.seams" (defArgs s_Grammar_seams) (defBody s_Grammar_seams) (defScope s_Grammar_seams) .none kV_Grammar_seams dc_Grammar_seams pm_Grammar_seams an_Grammar_seams cd_Grammar_seams ct_Grammar_seams), sl_Grammar_seams⟩) (c_Grammar_seams : PySem.W.codeIn K cd_Grammar_seams "Grammar.seams" = true) (k_Grammar_seams : PySem.W.keepIn K (.ref f_Grammar_seams') = true)
    (a_reach : PySem.W.nsIn K mainGlobals "reach" = some (some (.ref f_reach'))) (l_reach : K.lookup f_reach' = some ⟨oc_reach, od_reach, .func (PySem.W.fnOf "reach" "reach" (defArgs s_reach) (defBody s_reach) (defScope s_reach) .none kV_reach dc_reach pm_reach an_reach cd_reach ct_reach), sl_reach⟩) (c_reach : PySem.W.codeIn K cd_reach "reach" = true) (k_reach : PySem.W.keepIn K (.ref f_reach') = true)
    (a__law_strings : PySem.W.nsIn K mainGlobals "_law_strings" = some (some (.ref f__law_strings'))) (l__law_strings : K.lookup f__law_strings' = some ⟨oc__law_strings, od__law_strings, .func (PySem.W.fnOf "_law_strings" "_law_strings" (defArgs s__law_strings) (defBody s__law_strings) (defScope s__law_strings) .none kV__law_strings dc__law_strings pm__law_strings an__law_strings cd__law_strings ct__law_strings), sl__law_strings⟩) (c__law_strings : PySem.W.codeIn K cd__law_strings "_law_strings" = true) (k__law_strings : PySem.W.keepIn K (.ref f__law_strings') = true)
    (a_possible : PySem.W.nsIn K mainGlobals "possible" = some (some (.ref f_possible'))) (l_possible : K.lookup f_possible' = some ⟨oc_possible, od_possible, .func (PySem.W.fnOf "possible" "possible" (defArgs s_possible) (defBody s_possible) (defScope s_possible) .none kV_possible dc_possible pm_possible an_possible cd_possible ct_possible), sl_possible⟩) (c_possible : PySem.W.codeIn K cd_possible "possible" = true) (k_possible : PySem.W.keepIn K (.ref f_possible') = true)
    (a__law_due : PySem.W.nsIn K mainGlobals "_law_due" = some (some (.ref f__law_due'))) (l__law_due : K.lookup f__law_due' = some ⟨oc__law_due, od__law_due, .func (PySem.W.fnOf "_law_due" "_law_due" (defArgs s__law_due) (defBody s__law_due) (defScope s__law_due) .none kV__law_due dc__law_due pm__law_due an__law_due cd__law_due ct__law_due), sl__law_due⟩) (c__law_due : PySem.W.codeIn K cd__law_due "_law_due" = true) (k__law_due : PySem.W.keepIn K (.ref f__law_due') = true)
    (a__law_holds : PySem.W.nsIn K mainGlobals "_law_holds" = some (some (.ref f__law_holds'))) (l__law_holds : K.lookup f__law_holds' = some ⟨oc__law_holds, od__law_holds, .func (PySem.W.fnOf "_law_holds" "_law_holds" (defArgs s__law_holds) (defBody s__law_holds) (defScope s__law_holds) .none kV__law_holds dc__law_holds pm__law_holds an__law_holds cd__law_holds ct__law_holds), sl__law_holds⟩) (c__law_holds : PySem.W.codeIn K cd__law_holds "_law_holds" = true) (k__law_holds : PySem.W.keepIn K (.ref f__law_holds') = true)
    (a_consists_of : PySem.W.nsIn K mainGlobals "consists_of" = some (some (.ref f_consists_of'))) (l_consists_of : K.lookup f_consists_of' = some ⟨oc_consists_of, od_consists_of, .func (PySem.W.fnOf "consists_of" "consists_of" (defArgs s_consists_of) (defBody s_consists_of) (defScope s_consists_of) .none kV_consists_of dc_consists_of pm_consists_of an_consists_of cd_consists_of ct_consists_of), sl_consists_of⟩) (c_consists_of : PySem.W.codeIn K cd_consists_of "consists_of" = true) (k_consists_of : PySem.W.keepIn K (.ref f_consists_of') = true)
    (a_is_letters : PySem.W.nsIn K mainGlobals "is_letters" = some (some (.ref f_is_letters'))) (l_is_letters : K.lookup f_is_letters' = some ⟨oc_is_letters, od_is_letters, .func (PySem.W.fnOf "is_letters" "is_letters" (defArgs s_is_letters) (defBody s_is_letters) (defScope s_is_letters) .none kV_is_letters dc_is_letters pm_is_letters an_is_letters cd_is_letters ct_is_letters), sl_is_letters⟩) (c_is_letters : PySem.W.codeIn K cd_is_letters "is_letters" = true) (k_is_letters : PySem.W.keepIn K (.ref f_is_letters') = true)
    (a_check_letters : PySem.W.nsIn K mainGlobals "check_letters" = some (some (.ref f_check_letters'))) (l_check_letters : K.lookup f_check_letters' = some ⟨oc_check_letters, od_check_letters, .func (PySem.W.fnOf "check_letters" "check_letters" (defArgs s_check_letters) (defBody s_check_letters) (defScope s_check_letters) .none kV_check_letters dc_check_letters pm_check_letters an_check_letters cd_check_letters ct_check_letters), sl_check_letters⟩) (c_check_letters : PySem.W.codeIn K cd_check_letters "check_letters" = true) (k_check_letters : PySem.W.keepIn K (.ref f_check_letters') = true)
    (a_check_growth : PySem.W.nsIn K mainGlobals "check_growth" = some (some (.ref f_check_growth'))) (l_check_growth : K.lookup f_check_growth' = some ⟨oc_check_growth, od_check_growth, .func (PySem.W.fnOf "check_growth" "check_growth" (defArgs s_check_growth) (defBody s_check_growth) (defScope s_check_growth) .none kV_check_growth dc_check_growth pm_check_growth an_check_growth cd_check_growth ct_check_growth), sl_check_growth⟩) (c_check_growth : PySem.W.codeIn K cd_check_growth "check_growth" = true) (k_check_growth : PySem.W.keepIn K (.ref f_check_growth') = true)
    (a_Grammar_add_seam : PySem.W.findIn K (.ref c_Grammar) "add_seam" = some (some (.ref f_Grammar_add_seam'))) (i_Grammar_add_seam : PySem.W.isFn K (.ref f_Grammar_add_seam') = true) (l_Grammar_add_seam : K.lookup f_Grammar_add_seam' = some ⟨oc_Grammar_add_seam, od_Grammar_add_seam, .func (PySem.W.fnOf "add_seam" "Grammar.add_seam" (defArgs s_Grammar_add_seam) (defBody s_Grammar_add_seam) (defScope s_Grammar_add_seam) .none kV_Grammar_add_seam dc_Grammar_add_seam pm_Grammar_add_seam an_Grammar_add_seam cd_Grammar_add_seam ct_Grammar_add_seam), sl_Grammar_add_seam⟩) (c_Grammar_add_seam : PySem.W.codeIn K cd_Grammar_add_seam "Grammar.add_seam" = true) (k_Grammar_add_seam : PySem.W.keepIn K (.ref f_Grammar_add_seam') = true)
    (a_law : PySem.W.nsIn K mainGlobals "law" = some (some (.ref f_law'))) (l_law : K.lookup f_law' = some ⟨oc_law, od_law, .func (PySem.W.fnOf "law" "law" (defArgs s_law) (defBody s_law) (defScope s_law) .none kV_law dc_law pm_law an_law cd_law ct_law), sl_law⟩) (c_law : PySem.W.codeIn K cd_law "law" = true) (k_law : PySem.W.keepIn K (.ref f_law') = true)
    (z_abs : PySem.W.nsIn K mainGlobals "abs" = some none) (z_bool : PySem.W.nsIn K mainGlobals "bool" = some none) (z_int : PySem.W.nsIn K mainGlobals "int" = some none) (z_isinstance : PySem.W.nsIn K mainGlobals "isinstance" = some none) (z_len : PySem.W.nsIn K mainGlobals "len" = some none) (z_list : PySem.W.nsIn K mainGlobals "list" = some none) (z_max : PySem.W.nsIn K mainGlobals "max" = some none) (z_range : PySem.W.nsIn K mainGlobals "range" = some none)
    (hlaw : ∀ ns : List Int, ns.length ≤ 63 → ∃ m ps', (F_law c_Grammar) [some (.own 0, .frz ns)] = .ok (m, .bl true) ps') :
    ∃ fd : FuncData, (∀ (s : Shared) (v : Value), BindsTo s fd ⟨[v], []⟩ [("_law_script", v)]) ∧ ∀ base : Heap, K.In base → base.Ns mainGlobals mg → FnOk l.prog w K mg base (L2N.CX l.prog w) 5 fa fd ["_law_script"] (spLaw K) := by
  have e := hfa.symm.trans (PySem.W.mg_of X G a_law)
  cases e
  have B : Blt mg := ⟨PySem.W.mg_none_of X G z_abs, PySem.W.mg_none_of X G z_bool, PySem.W.mg_none_of X G z_int, PySem.W.mg_none_of X G z_isinstance, PySem.W.mg_none_of X G z_len, PySem.W.mg_none_of X G z_list, PySem.W.mg_none_of X G z_max, PySem.W.mg_none_of X G z_range⟩
  have CF_Grammar : ClsF_Grammar K mg c_Grammar := ⟨⟨cpg_Grammar, chd_Grammar, cpo_Grammar, csa_Grammar⟩, PySem.W.mg_of X G ca_Grammar, cn_Grammar__attributes, cn_Grammar__categories, cn_Grammar__rules, cn_Grammar__morphs, cn_Grammar__arcs, cn_Grammar__ends, cn_Grammar__seams, cn_Grammar__start, cn_Grammar__first⟩
  have CT : Cst mg := ⟨⟨_, PySem.W.mg_of X G g_LETTERS⟩⟩
  have ec_BadName : ECl K mg "BadName" C_BadName := ⟨PySem.W.mg_of X G ga_BadName, gk_BadName, gs_BadName, gt_BadName, gi_BadName, gf_BadName⟩
  have ec_Duplicate : ECl K mg "Duplicate" C_Duplicate := ⟨PySem.W.mg_of X G ga_Duplicate, gk_Duplicate, gs_Duplicate, gt_Duplicate, gi_Duplicate, gf_Duplicate⟩
  have ei_BadName : EIs K C_BadName := ⟨ge1_BadName, ge2_BadName, ge3_BadName, ge4_BadName, ge5_BadName, ge6_BadName, ge7_BadName⟩
  have ei_Duplicate : EIs K C_Duplicate := ⟨ge1_Duplicate, ge2_Duplicate, ge3_Duplicate, ge4_Duplicate, ge5_Duplicate, ge6_Duplicate, ge7_Duplicate⟩
  have EX : Exs K mg := ⟨⟨_, ec_BadName⟩, ⟨_, ec_Duplicate⟩, ⟨_, ec_BadName.g⟩, ⟨_, ec_Duplicate.g⟩, ⟨_, ec_BadName, gx_BadName⟩, ⟨_, ec_Duplicate, gx_Duplicate⟩,
    eTab_all (P := fun x c b => SubT K mg x c b) etab trivial,
    eTab_all (P := fun x c b => ∃ C, ECl K mg x C ∧ EIs K C) etab trivial⟩
  refine ⟨PySem.W.fnOf "law" "law" (defArgs s_law) (defBody s_law) (defScope s_law) .none kV_law dc_law pm_law an_law cd_law ct_law, fun s v => .of_eq rfl, fun base _ _ => ?_⟩
  have D_law_tape := ok__law_tape (P := l.prog) (w := w) (base := base) (fun_mk (st := s__law_tape) l__law_tape c__law_tape k__law_tape) (PySem.W.mg_of X G a__law_tape) B 
  have D_law_take := ok__law_take (P := l.prog) (w := w) (base := base) (fun_mk (st := s__law_take) l__law_take c__law_take k__law_take) (PySem.W.mg_of X G a__law_take) B 
  have D_law_alphabet := ok__law_alphabet (P := l.prog) (w := w) (base := base) (fun_mk (st := s__law_alphabet) l__law_alphabet c__law_alphabet k__law_alphabet) (PySem.W.mg_of X G a__law_alphabet) B D_law_take
  have D_law_letters := ok__law_letters (P := l.prog) (w := w) (base := base) (fun_mk (st := s__law_letters) l__law_letters c__law_letters k__law_letters) (PySem.W.mg_of X G a__law_letters) B D_law_take
  have DGrammar___init__ := ok_Grammar___init__ (P := l.prog) (w := w) (base := base) (fun_mk (st := s_Grammar___init__) l_Grammar___init__ c_Grammar___init__ k_Grammar___init__) ⟨cmk_Grammar, a_Grammar___init__, i_Grammar___init__, ckc_Grammar⟩ B CF_Grammar 
  have DGrammar_seams := ok_Grammar_seams (P := l.prog) (w := w) (base := base) (fun_mk (st := s_Grammar_seams) l_Grammar_seams c_Grammar_seams k_Grammar_seams) ⟨a_Grammar_seams, i_Grammar_seams, k_Grammar_seams⟩ B CF_Grammar 
  have Dreach := ok_reach (P := l.prog) (w := w) (base := base) (fun_mk (st := s_reach) l_reach c_reach k_reach) (PySem.W.mg_of X G a_reach) B CF_Grammar DGrammar_seams
  have D_law_strings := ok__law_strings (P := l.prog) (w := w) (base := base) (fun_mk (st := s__law_strings) l__law_strings c__law_strings k__law_strings) (PySem.W.mg_of X G a__law_strings) B D_law_take D_law_letters
  have Dpossible := ok_possible (P := l.prog) (w := w) (base := base) (fun_mk (st := s_possible) l_possible c_possible k_possible) (PySem.W.mg_of X G a_possible) B CF_Grammar Dreach
  have D_law_due := ok__law_due (P := l.prog) (w := w) (base := base) (fun_mk (st := s__law_due) l__law_due c__law_due k__law_due) (PySem.W.mg_of X G a__law_due) B 
  have D_law_holds := ok__law_holds (P := l.prog) (w := w) (base := base) (fun_mk (st := s__law_holds) l__law_holds c__law_holds k__law_holds) (PySem.W.mg_of X G a__law_holds) B CF_Grammar Dreach D_law_strings Dpossible D_law_due
  have Dconsists_of := ok_consists_of (P := l.prog) (w := w) (base := base) (fun_mk (st := s_consists_of) l_consists_of c_consists_of k_consists_of) (PySem.W.mg_of X G a_consists_of) B 
  have Dis_letters := ok_is_letters (P := l.prog) (w := w) (base := base) (fun_mk (st := s_is_letters) l_is_letters c_is_letters k_is_letters) (PySem.W.mg_of X G a_is_letters) B CT Dconsists_of
  have Dcheck_letters := ok_check_letters (P := l.prog) (w := w) (base := base) (fun_mk (st := s_check_letters) l_check_letters c_check_letters k_check_letters) (PySem.W.mg_of X G a_check_letters) B EX Dis_letters
  have Dcheck_growth := ok_check_growth (P := l.prog) (w := w) (base := base) (fun_mk (st := s_check_growth) l_check_growth c_check_growth k_check_growth) (PySem.W.mg_of X G a_check_growth) B 
  have DGrammar_add_seam := ok_Grammar_add_seam (P := l.prog) (w := w) (base := base) (fun_mk (st := s_Grammar_add_seam) l_Grammar_add_seam c_Grammar_add_seam k_Grammar_add_seam) ⟨a_Grammar_add_seam, i_Grammar_add_seam, k_Grammar_add_seam⟩ B EX CF_Grammar Dcheck_letters Dcheck_growth
  exact fnOk_law (okF_law (fun_mk (st := s_law) l_law c_law k_law) B CF_Grammar D_law_tape D_law_alphabet D_law_letters D_law_take DGrammar___init__ D_law_holds DGrammar_add_seam) hlaw
end
end K11

namespace K11
open PySem L2 DL
theorem take_ok (t : Tp) (n : Int) (h0 : 0 < n) (h1 : n < 1073741824) {Q : Cel → Rho → Prop} {X : XP} (k : ∀ (g : Int) (t' : Tp), 0 ≤ g → g < n → Q (.own 0, .int g) [aT t', aI n]) : (@wE _ (F__law_take [aT t, aI n]) ⟨Q⟩ ⟨X⟩) := by
  unfold F__law_take f__law_take f__law_take_1
  rw [w_fun]
  obtain ⟨a, b, x, y⟩ := t
  unfold aT Tp.d at *
  cases b with
  | false =>
    simp [gMul_r, gDiv_int, gMod_int, h0]
    exact k _ ⟨_, _, _, _⟩ (Int.emod_nonneg _ (by omega)) (Int.emod_lt_of_pos _ h0)
  | true =>
    simp
    refine cE_dec (fun ha => ?_) (fun ha => ?_)
    · simp [gMul_r, gDiv_int, gMod_int, h0, h1]
      exact k _ ⟨_, _, _, _⟩ (Int.emod_nonneg _ (by omega)) (Int.emod_lt_of_pos _ h0)
    · simp [gMul_r, gDiv_int, gMod_int, h0]
      exact k _ ⟨_, _, _, _⟩ (Int.emod_nonneg _ (by omega)) (Int.emod_lt_of_pos _ h0)
theorem tape_ok (ns : List Int) (i : Int) (hi : 0 ≤ i) {Q : Cel → Rho → Prop} {X : XP} (k : ∀ t : Tp, Q (.all, t.d) [some (.own 0, .frz ns), aI i]) : (@wE _ (F__law_tape [some (.own 0, .frz ns), aI i]) ⟨Q⟩ ⟨X⟩) := by
  unfold F__law_tape f__law_tape f__law_tape_2 f__law_tape_1
  rw [w_fun]
  simp
  refine cE_dec (fun h => ?_) (fun h => ?_)
  · simp [gIx_frz hi h, gMul_r, gMod_int, gPow_18]
    exact k ⟨_, _, _, _⟩
  · simp [gMul_r, gMod_int, gPow_18]
    exact k ⟨_, _, _, _⟩
def cons (cs l : List Nat) : Bool := l.all fun c => decide (c ∈ cs)
theorem cons_snoc {cs l : List Nat} {c : Nat} : cons cs (l ++ [c]) = (cons cs l && decide (c ∈ cs)) := by unfold cons; simp
theorem consists_ok (l cs : List Nat) {Q : Cel → Rho → Prop} {X : XP} (k : Q (.own 0, .bl (cons cs l)) [aS l, aS cs]) : (@wE _ (F_consists_of [aS l, aS cs]) ⟨Q⟩ ⟨X⟩) := by
  unfold F_consists_of f_consists_of f_consists_of_2
  rw [w_fun]
  simp
  refine for_mapU (σ := Option Cel) (fun z => [(2, z)]) (fun done _ => cons cs done = true) none rfl rfl ?_ ?_
  · rintro done c rest z hx h
    try simp (disch := first | omega | (simp; done) | (simp; omega)) [f_consists_of_1, gNotInA_sign]
    refine cE_split (fun hc => ?_) (fun hc => ?_)
    · try simp (disch := first | omega | (simp; done) | (simp; omega))
      have : cons cs l = false := by
        rw [hx]; unfold cons; simp at hc ⊢; grind
      rw [this] at k
      exact k
    · try simp (disch := first | omega | (simp; done) | (simp; omega))
      exact Hd.i ⟨_, rfl, by rw [cons_snoc, h]; simpa using hc⟩
  · intro z h
    try simp (disch := first | omega | (simp; done) | (simp; omega))
    rw [h] at k
    exact k

theorem letters_ok (t : Tp) (ls : List Nat) (a b : Int) (h0 : 0 ≤ a) (h1 : a ≤ b) (h2 : b ≤ 1000) (hl : 0 < ls.length) (hl2 : ls.length ≤ 1000) {Q : Cel → Rho → Prop} {X : XP}
    (k : ∀ (l : List Nat) (t' : Tp), a ≤ l.length → l.length ≤ b → (∀ c ∈ l, c ∈ ls) → Q (.own 0, .str (S l)) [aT t', aS ls, aI a, aI b]) : (@wE _ (F__law_letters [aT t, aS ls, aI a, aI b]) ⟨Q⟩ ⟨X⟩) := by
  unfold F__law_letters f__law_letters f__law_letters_3 f__law_letters_2
  rw [w_fun]
  try simp (disch := first | omega | (simp; done) | (simp; omega))
  refine take_ok _ _ (by omega) (by omega) fun g t1 g0 g1 => ?_
  try simp (disch := first | omega | (simp; done) | (simp; omega))
  refine for_rngU (σ := List Nat × Tp × Option Cel) (fun s => [(0, aT s.2.1), (4, aS s.1), (5, s.2.2)]) (fun k s => s.1.length = k ∧ ∀ c ∈ s.1, c ∈ ls) ([], t1, none) rfl ⟨rfl, fun _ h => (by cases h)⟩ ?_ ?_
  · rintro j ⟨l, t, z⟩ hj ⟨h3, h4⟩
    simp only at h3 h4
    try simp (disch := first | omega | (simp; done) | (simp; omega)) [f__law_letters_1]
    refine take_ok _ _ (by omega) (by omega) fun g t2 g0 g1 => ?_
    try simp (disch := first | omega | (simp; done) | (simp; omega))
    refine Hd.i ⟨(l ++ [ls[g.toNat]'(by omega)], t2, _), (by simp <;> (and_intros <;> rfl)), by simp; omega, fun c hc => ?_⟩
    rcases List.mem_append.mp hc with hc | hc
    · exact h4 c hc
    · rw [List.mem_singleton.mp hc]; exact List.getElem_mem _
  · rintro ⟨l, t, z⟩ ⟨h3, h4⟩
    simp only at h3 h4
    try simp (disch := first | omega | (simp; done) | (simp; omega))
    exact k l t (by omega) (by omega) h4
theorem alphabet_ok (t : Tp) {Q : Cel → Rho → Prop} {X : XP} (k : ∀ (l : List Nat) (t' : Tp), 0 < l.length → l.length ≤ 26 → (∀ c ∈ l, c ∈ AZ) → Q (.own 0, .str (S l)) [aT t']) : (@wE _ (F__law_alphabet [aT t]) ⟨Q⟩ ⟨X⟩) := by
  unfold F__law_alphabet f__law_alphabet
  rw [w_fun]
  try simp (disch := first | omega | (simp; done) | (simp; omega))
  refine take_ok _ _ (by omega) (by omega) fun g t1 g0 g1 => ?_
  try simp (disch := first | omega | (simp; done) | (simp; omega))
  refine take_ok _ _ (by omega) (by omega) fun g2 t2 g3 g4 => ?_
  try simp (disch := first | omega | (simp; done) | (simp; omega))
  refine pick_map (en := fun i : Int => D.int i) [1, 2, 2, 3, 26] g3 (by simpa using g4) fun v hv => ?_
  have hv : 1 ≤ v ∧ v ≤ 26 := by simp at hv; omega
  try simp (disch := first | omega | (simp; done) | (simp; omega))
  refine k _ t2 (by simp; omega) (by simp; omega) fun c hc => ?_
  have := List.mem_of_mem_take hc
  rcases List.mem_append.mp this with h | h
  · exact List.mem_of_mem_drop h
  · exact List.mem_of_mem_take h
/-! ### the grammar -/
theorem init_ok (c : Addr) {Q : Cel → Rho → Prop} {X : XP} (k : Q (.own 0, .non) [some (.all, gD c {})]) : (@wE _ (F_Grammar___init__ c [some (.all, .ins c [])]) ⟨Q⟩ ⟨X⟩) := by
  unfold F_Grammar___init__ f_Grammar___init__
  rw [w_fun]
  try simp (disch := first | omega | (simp; done) | (simp; omega)) [putFD]
  exact k
theorem seams_ok (c : Addr) (g : Gr) {Q : Cel → Rho → Prop} {X : XP} (k : Q (.own 1, .lst (g.se.map Se.d)) [some (.lent, gD c g)]) : (@wE _ (F_Grammar_seams c [some (.lent, gD c g)]) ⟨Q⟩ ⟨X⟩) := by
  unfold F_Grammar_seams f_Grammar_seams
  rw [w_fun]
  try simp (disch := first | omega | (simp; done) | (simp; omega))
  exact k
def lenD (s : Se) : D := .int s.l.length
@[simp] theorem immL_len {se : List Se} : immL (se.map lenD) = true := immL_map (f := lenD) (fun _ => rfl) se
def lefts (se : List Se) : List Int := (0 : Int) :: se.map fun s => (s.l.length : Int)
theorem reach_ok (c : Addr) (g : Gr) (h : ∀ s ∈ g.se, s.l.length ≤ 1000) (h2 : g.se.length ≤ 1000) {Q : Cel → Rho → Prop} {X : XP} (k : Q (.own 0, .int (maxL (lefts g.se))) [some (.lent, gD c g)]) : (@wE _ (F_reach c [some (.lent, gD c g)]) ⟨Q⟩ ⟨X⟩) := by
  unfold F_reach f_reach
  rw [w_fun]
  try simp (disch := first | omega | (simp; done) | (simp; omega))
  refine ⟨gD_recv (by decide), ?_⟩
  refine seams_ok c g ?_
  try simp (disch := first | omega | (simp; done) | (simp; omega))
  refine lc_mapU (σ := Option Cel) (fun s => [(1, s)]) (fun done acc _ => acc = done.map lenD) none rfl rfl ?_ ?_
  · rintro done x rest acc z hx hacc
    subst hacc
    have hd : done.length ≤ 1000 := by
      have := congrArg List.length hx
      simp at this; omega
    have hxl := h x (by rw [hx]; simp)
    try simp (disch := first | omega | (simp; done) | (simp; omega)) [Se.d]
    refine ⟨by rw [sz]; omega, Hd.i ⟨_, (by simp <;> (and_intros <;> rfl)), by simp [lenD]⟩⟩
  · rintro acc z hacc
    subst hacc
    try simp (disch := first | omega | (simp; done) | (simp; omega))
    rw [show D.int 0 :: g.se.map lenD = (lefts g.se).map fun i => .int i by simp [lefts, lenD, Function.comp_def]]
    rw [gMaxL_eq (by simp [lefts])]
    try simp (disch := first | omega | (simp; done) | (simp; omega))
    exact k
/-! ### what may go on to the form: the plain law -/
def cm (text form : List Nat) (k : Nat) : Prop := k ≤ text.length ∧ text.take k = form.take k ∧ ∀ j, k ≤ j → j < text.length → k < text.length ∧ text[k]? ≠ form[k]?
theorem take_le {a b : List Nat} {m n : Nat} (h : a.take n = b.take n) (hm : m ≤ n) : a.take m = b.take m := by
  have := congrArg (List.take m) h
  rwa [List.take_take, List.take_take, Nat.min_eq_left hm] at this
theorem pre_iff {text form : List Nat} {k m : Nat} (hlt : text.length < form.length) (hk : k ≤ text.length) (h1 : text.take k = form.take k) (h2 : k < text.length → text[k]? ≠ form[k]?) (hm : m ≤ text.length) : form.take m = text.take m ↔ m ≤ k := by
  constructor
  · intro h
    rcases Nat.lt_or_ge k m with z | z
    · exfalso
      refine h2 (by omega) ?_
      have e := congrArg (fun l => l[k]?) h
      simp only [List.getElem?_take, z, if_true] at e
      exact e.symm
    · exact z
  · intro h
    exact (take_le h1 h).symm
def due (longest : Int) (text form : List Nat) : Bool := if text = form then true else if form.length ≤ text.length then false else decide (form.take ((text.length : Int) - longest).toNat = text.take ((text.length : Int) - longest).toNat)
theorem possible_ok (c : Addr) (g : Gr) (h : ∀ s ∈ g.se, s.l.length ≤ 1000) (h2 : g.se.length ≤ 1000) (text form : List Nat) (ht : text.length ≤ 1000) (hf : form.length ≤ 1000) {Q : Cel → Rho → Prop} {X : XP}
    (k : Q (.own 0, .bl (due (maxL (lefts g.se)) text form)) [some (.lent, gD c g), aS text, aS form]) : (@wE _ (F_possible c [some (.lent, gD c g), aS text, aS form]) ⟨Q⟩ ⟨X⟩) := by
  have h0 : 0 ≤ maxL (lefts g.se) := (maxL_ok (ns := lefts g.se) (by simp [lefts])).2 0 (by simp [lefts])
  unfold F_possible f_possible
  rw [w_fun]
  try simp (disch := first | omega | (simp; done) | (simp; omega))
  unfold due at k
  refine cE_split (fun h1 => ?_) (fun h1 => ?_)
  · try simp (disch := first | omega | (simp; done) | (simp; omega))
    have h1 := of_decide_eq_true h1
    have e : (if text = form then true else if form.length ≤ text.length then false else decide (form.take ((text.length : Int) - maxL (lefts g.se)).toNat = text.take ((text.length : Int) - maxL (lefts g.se)).toNat)) = decide (text = form) := by
      by_cases e : text = form <;> simp [e, h1]
    rw [e] at k
    exact k
  · have h1 := of_decide_eq_false h1
    try simp (disch := first | omega | (simp; done) | (simp; omega)) [f_possible_1]
    refine reach_ok c g h h2 ?_
    try simp (disch := first | omega | (simp; done) | (simp; omega))
    rw [starts_S]
    rw [if_neg (fun e => h1 (by rw [e]; exact Nat.le_refl _)), if_neg h1] at k
    have em : (if maxL (lefts g.se) < (text.length : Int) then (text.length : Int) - maxL (lefts g.se) else 0).toNat = ((text.length : Int) - maxL (lefts g.se)).toNat := by split <;> omega
    rw [em, List.length_take, Nat.min_eq_left (by omega)]
    exact k
theorem due_ok (n : Int) (h0 : 0 ≤ n) (text form : List Nat) (ht : text.length ≤ 1000) (hf : form.length ≤ 1000) {Q : Cel → Rho → Prop} {X : XP} (k : Q (.own 0, .bl (due n text form)) [aI n, aS text, aS form]) : (@wE _ (F__law_due [aI n, aS text, aS form]) ⟨Q⟩ ⟨X⟩) := by
  unfold F__law_due f__law_due
  rw [w_fun]
  try simp (disch := first | omega | (simp; done) | (simp; omega))
  unfold due at k
  refine cE_split (fun h1 => ?_) (fun h1 => ?_)
  · try simp (disch := first | omega | (simp; done) | (simp; omega))
    have h1 := of_decide_eq_true h1
    rw [if_pos h1] at k
    exact k
  · have h1 := of_decide_eq_false h1
    rw [if_neg h1] at k
    try simp (disch := first | omega | (simp; done) | (simp; omega)) [f__law_due_5]
    refine cE_split (fun h2 => ?_) (fun h2 => ?_)
    · try simp (disch := first | omega | (simp; done) | (simp; omega))
      have h2 := of_decide_eq_true h2
      rw [if_pos (by omega)] at k
      exact k
    · have h2 := of_decide_eq_false h2
      rw [if_neg (by omega)] at k
      try simp (disch := first | omega | (simp; done) | (simp; omega)) [f__law_due_4, f__law_due_3]
      refine for_rngU (σ := Nat × Option Cel) (fun s => [(3, aI s.1), (4, s.2)]) (fun j s => s.1 ≤ j ∧ text.take s.1 = form.take s.1 ∧ (s.1 < j → text[s.1]? ≠ form[s.1]?)) (0, none) rfl ⟨by simp, by simp, by simp⟩ ?_ ?_
      · rintro j ⟨i, z⟩ hj ⟨h3, h4, h5⟩
        simp only at h3 h4 h5
        try simp (disch := first | omega | (simp; done) | (simp; omega)) [f__law_due_1]
        refine cE_split (fun h6 => ?_) (fun h6 => ?_)
        · have h6 : i = j := by have := of_decide_eq_true h6; omega
          subst h6
          try simp (disch := first | omega | (simp; done) | (simp; omega))
          refine cE_split (fun h7 => ?_) (fun h7 => ?_)
          · try simp (disch := first | omega | (simp; done) | (simp; omega))
            have h7 : text[i] = form[i] := by simpa using h7
            refine Hd.i ⟨(i + 1, _), (by simp <;> (and_intros <;> rfl)), by simp, ?_, by simp⟩
            rw [List.take_succ_eq_append_getElem (by omega), List.take_succ_eq_append_getElem (by omega), h4, h7]
          · have h7 : ¬ text[i] = form[i] := by simpa using h7
            refine Hd.i ⟨(i, _), (by simp <;> (and_intros <;> rfl)), by simp, h4, fun _ => ?_⟩
            rw [List.getElem?_eq_getElem (by omega), List.getElem?_eq_getElem (by omega)]
            exact fun z => h7 (Option.some.inj z)
        · have h6 : ¬ i = j := by have := of_decide_eq_false h6; omega
          exact Hd.i ⟨(i, _), (by simp <;> (and_intros <;> rfl)), by simp only; omega, h4, fun _ => h5 (by omega)⟩
      · rintro ⟨i, z⟩ ⟨h3, h4, h5⟩
        simp only at h3 h4 h5
        try simp (disch := first | omega | (simp; done) | (simp; omega)) [f__law_due_2]
        have e : decide ((text.length : Int) - (i : Int) ≤ n) = decide (form.take ((text.length : Int) - n).toNat = text.take ((text.length : Int) - n).toNat) := by
          refine decide_eq_decide.mpr ?_
          rw [pre_iff (by omega) h3 h4 h5 (by omega)]
          omega
        rw [e]
        exact k
/-! ### the strings -/
def Fd (n : Nat) (ws : List (List Nat)) : Prop := ws.length ≤ n ∧ ∀ w ∈ ws, w.length ≤ 200
theorem Fd.snoc {n : Nat} {ws : List (List Nat)} {w : List Nat} (h : Fd n ws) (hw : w.length ≤ 200) : Fd (n + 1) (ws ++ [w]) := ⟨by simp; exact h.1, fun x hx => by
  rcases List.mem_append.mp hx with hx | hx
  · exact h.2 x hx
  · rw [List.mem_singleton.mp hx]; exact hw⟩
section
variable {t : Tp} {ls form odd text : List Nat} {n size at_ : Int} {turn : Int} {found : List (List Nat)} {K : Post}
theorem strings_2 {z6 z5 z8 : Option Cel} {tx : List Nat} {B : Nat} (hB : B ≤ 1000) (hf : Fd B found) (ht : tx.length ≤ 150) (ho : odd.length = 1) (k : ∀ found, Fd (B + 2) found → ∀ z9, K.nx [aT t, aS ls, aI n, aS form, some (.all, .lst (found.map en)), z5, z6, aS odd, z8, z9]) :
    (@wS (f__law_strings_2 [aT t, aS ls, aI n, aS form, some (.all, .lst (found.map en)), z5, z6, aS odd, z8, aS tx]) K) := by
  have hfl := hf.1
  unfold f__law_strings_2
  try simp (disch := first | omega | (simp; done) | (simp; omega))
  rw [app_imm rfl rfl (by simp; omega) rfl]
  try simp (disch := first | omega | (simp; done) | (simp; omega))
  rw [app_imm rfl rfl (by simp; omega) rfl]
  try simp (disch := first | omega | (simp; done) | (simp; omega))
  have q := k (found ++ [tx] ++ [tx ++ odd]) ((hf.snoc (by omega)).snoc (by simp; omega)) (aS tx)
  simpa using q
theorem strings_4 {B : Nat} {z9 : Option Cel} (hB : B ≤ 1000) (hf : Fd B found) (ho : odd.length = 1) (hn : 0 ≤ n) (hn4 : n ≤ 4) (hs : size ≤ n + 2) (ha : 0 ≤ at_) (ha2 : at_ ≤ form.length) (hfm : form.length ≤ 60) (hl : 0 < ls.length) (hl2 : ls.length ≤ 1000)
    (k : ∀ t found, Fd (B + 2) found → ∀ z9, K.nx [aT t, aS ls, aI n, aS form, some (.all, .lst (found.map en)), aI turn, aI at_, aS odd, aI size, z9]) :
    (@wS (f__law_strings_4 [aT t, aS ls, aI n, aS form, some (.all, .lst (found.map en)), aI turn, aI at_, aS odd, aI size, z9]) K) := by
  unfold f__law_strings_4
  try simp (disch := first | omega | (simp; done) | (simp; omega)) [f__law_strings_3]
  have h1 : (form.take at_.toNat).length ≤ 60 := by simp; omega
  refine cE_split (fun h => ?_) (fun h => ?_)
  · have h := of_decide_eq_true h
    try simp (disch := first | omega | (simp; done) | (simp; omega)) [f__law_strings_1]
    refine cE_split (fun h2 => ?_) (fun h2 => ?_)
    · try simp (disch := first | omega | (simp; done) | (simp; omega))
      have h3 : (cutL form (some (at_ + 1)) (some (at_ + size))).length ≤ form.length := cut_len
      generalize cutL form (some (at_ + 1)) (some (at_ + size)) = mid at h3 ⊢
      rw [gAdd_S' (by simp at h1 ⊢; omega)]
      try simp (disch := first | omega | (simp; done) | (simp; omega))
      refine strings_2 hB hf (by simp at h1 ⊢; omega) ho fun found hf z9 => k t found hf z9
    · try simp (disch := first | omega | (simp; done) | (simp; omega))
      refine letters_ok _ _ _ _ (by omega) (by omega) (by omega) hl hl2 fun l t1 l1 l2 l3 => ?_
      try simp (disch := first | omega | (simp; done) | (simp; omega))
      refine strings_2 hB hf (by simp; omega) ho fun found hf z9 => k t1 found hf z9
  · try simp (disch := first | omega | (simp; done) | (simp; omega))
    refine strings_2 hB hf (by omega) ho fun found hf z9 => k t found hf z9
theorem strings_5 {B : Nat} {z8 z9 : Option Cel} (hB : B ≤ 900) (hf : Fd B found) (ho : odd.length = 1) (hn : 0 ≤ n) (hn4 : n ≤ 4) (ha : 0 ≤ at_) (ha2 : at_ ≤ form.length) (hfm : form.length ≤ 60) (hl : 0 < ls.length) (hl2 : ls.length ≤ 1000)
    (k : ∀ t found, Fd (B + 10) found → ∀ z8 z9, K.nx [aT t, aS ls, aI n, aS form, some (.all, .lst (found.map en)), aI turn, aI at_, aS odd, z8, z9]) :
    (@wS (f__law_strings_5 [aT t, aS ls, aI n, aS form, some (.all, .lst (found.map en)), aI turn, aI at_, aS odd, z8, z9]) K) := by
  unfold f__law_strings_5
  try simp (disch := first | omega | (simp; done) | (simp; omega))
  rw [show [D.int 0, D.int (n - 1), D.int n, D.int (n + 1), D.int (n + 2)] = [0, n - 1, n, n + 1, n + 2].map fun i => D.int i from rfl]
  refine for_mapU (σ := List (List Nat) × Tp × Option Cel × Option Cel) (fun s => [(0, aT s.2.1), (4, some (.all, .lst (s.1.map en))), (8, s.2.2.1), (9, s.2.2.2)])
    (fun done s => Fd (B + 2 * done.length) s.1) (found, t, z8, z9) rfl (by simpa using hf) ?_ ?_
  · rintro done x rest ⟨ws, t, z8, z9⟩ hx hw
    simp only at hw
    have hd : done.length ≤ 5 := by
      have := congrArg List.length hx
      simp at this; omega
    have hxm : x ∈ [0, n - 1, n, n + 1, n + 2] := by rw [hx]; simp
    have hx2 : x ≤ n + 2 := by simp at hxm; omega
    try simp (disch := first | omega | (simp; done) | (simp; omega))
    refine strings_4 (B := B + 2 * done.length) (by omega) hw ho hn hn4 hx2 ha ha2 hfm hl hl2 fun t ws hw z9 => ?_
    exact Hd.i ⟨(ws, t, _, _), (by simp <;> (and_intros <;> rfl)), by simpa [Nat.mul_add, Nat.add_assoc] using hw⟩
  · rintro ⟨ws, t, z8, z9⟩ hw
    exact k t ws (by simpa using hw) z8 z9
end
theorem strings_ok (t : Tp) (ls form : List Nat) (n : Int) (hn : 0 ≤ n) (hn4 : n ≤ 4) (hfm : form.length ≤ 60) (hl : 0 < ls.length) (hl2 : ls.length ≤ 1000) {Q : Cel → Rho → Prop} {X : XP}
    (k : ∀ (ws : List (List Nat)) (t : Tp), (∀ w ∈ ws, w.length ≤ 200) → Q (.all, .lst (ws.map en)) [aT t, aS ls, aI n, aS form]) : (@wE _ (F__law_strings [aT t, aS ls, aI n, aS form]) ⟨Q⟩ ⟨X⟩) := by
  unfold F__law_strings f__law_strings
  rw [w_fun]
  try simp (disch := first | omega | (simp; done) | (simp; omega)) [f__law_strings_11, f__law_strings_10, f__law_strings_9]
  refine for_rngU (σ := List (List Nat) × Tp × Option Cel × Option Cel × Option Cel × Option Cel × Option Cel) (fun s => [(0, aT s.2.1), (4, some (.all, .lst (s.1.map en))), (5, s.2.2.1), (6, s.2.2.2.1), (7, s.2.2.2.2.1), (8, s.2.2.2.2.2.1), (9, s.2.2.2.2.2.2)])
    (fun j s => Fd (4 + 10 * j) s.1) ([[], form, form ++ [ls[0]], form ++ form], t, none, none, none, none, none) rfl ⟨by simp, by simp; omega⟩ ?_ ?_
  · rintro j ⟨ws, t, z5, z6, z7, z8, z9⟩ hj hw
    simp only at hw
    have hj : j < 8 := by omega
    try simp (disch := first | omega | (simp; done) | (simp; omega)) [f__law_strings_7]
    refine take_ok _ _ (by omega) (by omega) fun g t1 g0 g1 => ?_
    try simp (disch := first | omega | (simp; done) | (simp; omega)) [f__law_strings_6]
    have fin : ∀ odd : List Nat, odd.length = 1 → ∀ K : Post, (∀ t found, Fd (4 + 10 * j + 10) found → ∀ z8 z9, K.nx [aT t, aS ls, aI n, aS form, some (.all, .lst (found.map en)), aI j, aI g, aS odd, z8, z9]) → (@wS (f__law_strings_5 [aT t1, aS ls, aI n, aS form, some (.all, .lst (ws.map en)), aI j, aI g, aS odd, z8, z9]) K) :=
      fun odd ho K hK => strings_5 (by omega) hw ho hn hn4 (by omega) (by omega) hfm hl hl2 hK
    refine cE_split (fun h => ?_) (fun h => ?_)
    · try simp (disch := first | omega | (simp; done) | (simp; omega))
      refine fin [98] rfl _ fun t ws hw z8 z9 => ?_
      exact Hd.i ⟨(ws, t, _, _, _, _, _), (by simp <;> (and_intros <;> rfl)), by simpa [Nat.mul_add, Nat.add_assoc] using hw⟩
    · try simp (disch := first | omega | (simp; done) | (simp; omega))
      refine fin [97] rfl _ fun t ws hw z8 z9 => ?_
      exact Hd.i ⟨(ws, t, _, _, _, _, _), (by simp <;> (and_intros <;> rfl)), by simpa [Nat.mul_add, Nat.add_assoc] using hw⟩
  · rintro ⟨ws, t, z5, z6, z7, z8, z9⟩ hw
    simp only at hw
    try simp (disch := first | omega | (simp; done) | (simp; omega))
    refine for_rngU (σ := List (List Nat) × Tp × Option Cel) (fun s => [(0, aT s.2.1), (4, some (.all, .lst (s.1.map en))), (5, s.2.2)]) (fun j s => Fd (100 + j) s.1) (ws, t, z5) rfl ⟨by have := hw.1; simp only; omega, hw.2⟩ ?_ ?_
    · rintro j ⟨ws, t, z5⟩ hj hw
      simp only at hw
      have hwl := hw.1
      try simp (disch := first | omega | (simp; done) | (simp; omega)) [f__law_strings_8]
      refine letters_ok _ _ _ _ (by omega) (by omega) (by omega) hl hl2 fun l t1 l1 l2 l3 => ?_
      try simp (disch := first | omega | (simp; done) | (simp; omega))
      rw [app_imm rfl rfl (by simp; omega) rfl]
      try simp (disch := first | omega | (simp; done) | (simp; omega))
      refine Hd.i ⟨(ws ++ [l], t1, _), (by simp <;> (and_intros <;> rfl)), hw.snoc (by omega)⟩
    · rintro ⟨ws, t, z5⟩ hw
      simp only at hw
      try simp (disch := first | omega | (simp; done) | (simp; omega))
      exact k ws t hw.2
/-! ### seams are added -/
theorem is_letters_ok (l : List Nat) (a b : Int) (hl : l.length ≤ 1000) {Q : Cel → Rho → Prop} {X : XP} (h1 : a ≤ l.length) (h2 : l.length ≤ b) (h3 : ∀ c ∈ l, c ∈ AZ) (k : Q (.own 0, .bl true) [aS l, aI a, aI b]) : (@wE _ (F_is_letters [aS l, aI a, aI b]) ⟨Q⟩ ⟨X⟩) := by
  unfold F_is_letters f_is_letters
  rw [w_fun]
  try simp (disch := first | omega | (simp; done) | (simp; omega))
  refine cE_split (fun _ => ?_) (fun z => by have := of_decide_eq_false z; omega)
  try simp (disch := first | omega | (simp; done) | (simp; omega))
  refine cE_split (fun _ => ?_) (fun z => by have := of_decide_eq_false z; omega)
  try simp (disch := first | omega | (simp; done) | (simp; omega))
  refine consists_ok l AZ ?_
  have : cons AZ l = true := by unfold cons; simpa using h3
  rw [this]
  try simp (disch := first | omega | (simp; done) | (simp; omega))
  exact k
theorem check_letters_ok (l : List Nat) (a b : Int) (hl : l.length ≤ 1000) {Q : Cel → Rho → Prop} {X : XP} (h1 : a ≤ l.length) (h2 : l.length ≤ b) (h3 : ∀ c ∈ l, c ∈ AZ) (k : Q (.own 0, .non) [aS l, aI a, aI b]) : (@wE _ (F_check_letters [aS l, aI a, aI b]) ⟨Q⟩ ⟨X⟩) := by
  unfold F_check_letters f_check_letters
  rw [w_fun]
  try simp (disch := first | omega | (simp; done) | (simp; omega))
  refine is_letters_ok l a b hl h1 h2 h3 ?_
  try simp (disch := first | omega | (simp; done) | (simp; omega))
  exact k
theorem add_seam_ok (c : Addr) (g : Gr) (s : Se) (h1 : 1 ≤ s.l.length) (h2 : s.l.length ≤ 4) (h3 : 1 ≤ s.r.length) (h4 : s.r.length ≤ 4) (h5 : s.j.length ≤ 8) (a1 : ∀ c ∈ s.l, c ∈ AZ) (a2 : ∀ c ∈ s.r, c ∈ AZ) (a3 : ∀ c ∈ s.j, c ∈ AZ)
    (hs : ∀ q ∈ g.se, ¬(q.l = s.l ∧ q.r = s.r)) (hg : ∀ q ∈ g.se, (∀ c ∈ q.l, c ∈ AZ) ∧ (∀ c ∈ q.r, c ∈ AZ)) (hn : g.se.length ≤ 1000) (hm : g.mo = []) {Q : Cel → Rho → Prop} {X : XP} (k : Q (.own 0, .non) [some (.all, gD c { g with se := g.se ++ [s] }), aS s.l, aS s.r, aS s.j]) :
    (@wE _ (F_Grammar_add_seam c [some (.all, gD c g), aS s.l, aS s.r, aS s.j]) ⟨Q⟩ ⟨X⟩) := by
  unfold F_Grammar_add_seam f_Grammar_add_seam
  rw [w_fun]
  try simp (disch := first | omega | (simp; done) | (simp; omega))
  refine check_letters_ok s.l 1 4 (by omega) (by omega) (by omega) a1 ?_
  try simp (disch := first | omega | (simp; done) | (simp; omega))
  refine check_letters_ok s.r 1 4 (by omega) (by omega) (by omega) a2 ?_
  try simp (disch := first | omega | (simp; done) | (simp; omega))
  refine check_letters_ok s.j 0 8 (by omega) (by omega) (by omega) a3 ?_
  try simp (disch := first | omega | (simp; done) | (simp; omega)) [f_Grammar_add_seam_5, f_Grammar_add_seam_4, f_Grammar_add_seam_3]
  refine for_mapU (σ := Option Cel) (fun s => [(4, s)]) (fun _ _ => True) none rfl trivial ?_ ?_
  · rintro done q rest z hx _
    have hq : q ∈ g.se := by rw [hx]; simp
    try simp (disch := first | omega | (simp; done) | (simp; omega)) [Se.d, f_Grammar_add_seam_1]
    have z := fun {l : List Nat} (h : ∀ c ∈ l, c ∈ AZ) (x : Nat) (hx : x ∈ l) => AZ_lt x (h x hx)
    rw [eq_pair (z (hg q hq).1) (z (hg q hq).2) (z a1) (z a2)]
    try simp (disch := first | omega | (simp; done) | (simp; omega))
    refine cE_split (fun h => ?_) (fun h => ?_)
    · exfalso
      simp at h
      exact hs q hq h
    · exact Hd.i ⟨_, (by simp <;> (and_intros <;> rfl)), trivial⟩
  · rintro z _
    try simp (disch := first | omega | (simp; done) | (simp; omega)) [hm]
    rw [app_at (c0 := (.all, gD c g)) rfl rfl (by simp; omega) rfl, show D.tup [.str (S s.l), .str (S s.r), .str (S s.j)] = s.d from rfl, sA_se1]
    try simp (disch := first | omega | (simp; done) | (simp; omega))
    exact k
/-! ### what holds for a grammar -/
theorem holds_ok (c : Addr) (g : Gr) (t : Tp) (ls form : List Nat) (hl : 0 < ls.length) (hl2 : ls.length ≤ 1000) (hf : form.length ≤ 60) (h4 : ∀ s ∈ g.se, s.l.length ≤ 4) (hn : g.se.length ≤ 1000) {Q : Cel → Rho → Prop} {X : XP}
    (k : ∀ t, Q (.own 0, .bl true) [some (.lent, gD c g), aT t, aS ls, some (.lent, .lst (g.se.map Se.d)), aS form]) : (@wE _ (F__law_holds c [some (.lent, gD c g), aT t, aS ls, some (.lent, .lst (g.se.map Se.d)), aS form]) ⟨Q⟩ ⟨X⟩) := by
  unfold F__law_holds f__law_holds
  rw [w_fun]
  try simp (disch := first | omega | (simp; done) | (simp; omega)) [f__law_holds_8]
  refine for_mapU (σ := Int × Option Cel) (fun s => [(5, aI s.1), (6, s.2)]) (fun done s => (0 ≤ s.1 ∧ ∀ q ∈ done, (q.l.length : Int) ≤ s.1) ∧ (s.1 = 0 ∨ ∃ q ∈ done, s.1 = q.l.length)) (0, none) rfl ⟨⟨by simp, by simp⟩, .inl rfl⟩ ?_ ?_
  · rintro done q rest ⟨n, z⟩ hx ⟨⟨p0, p1⟩, p2⟩
    simp only at p0 p1 p2
    have hq := h4 q (by rw [hx]; simp)
    try simp (disch := first | omega | (simp; done) | (simp; omega)) [Se.d, f__law_holds_1]
    refine cE_split (fun h => ?_) (fun h => ?_)
    · have h := of_decide_eq_true h
      try simp (disch := first | omega | (simp; done) | (simp; omega))
      refine Hd.i ⟨(q.l.length, _), (by simp <;> (and_intros <;> rfl)), ⟨by simp, fun r hr => ?_⟩, .inr ⟨q, by simp, rfl⟩⟩
      rcases List.mem_append.mp hr with hr | hr
      · have := p1 r hr; simp only; omega
      · rw [List.mem_singleton.mp hr]; simp
    · have h := of_decide_eq_false h
      refine Hd.i ⟨(n, _), (by simp <;> (and_intros <;> rfl)), ⟨p0, fun r hr => ?_⟩, p2.imp id fun ⟨r, h1, h2⟩ => ⟨r, List.mem_append_left _ h1, h2⟩⟩
      rcases List.mem_append.mp hr with hr | hr
      · exact p1 r hr
      · rw [List.mem_singleton.mp hr]; simp only; omega
  · rintro ⟨n, z⟩ ⟨⟨p0, p1⟩, p2⟩
    simp only at p0 p1 p2
    have e : n = maxL (lefts g.se) := by
      obtain ⟨m1, m2⟩ := maxL_ok (ns := lefts g.se) (by simp [lefts])
      have a : maxL (lefts g.se) ≤ n := by
        rcases List.mem_cons.mp m1 with h | h
        · omega
        · obtain ⟨q, hq, e⟩ := List.mem_map.mp h
          have := p1 q hq
          omega
      have b : n ≤ maxL (lefts g.se) := by
        rcases p2 with h | ⟨q, hq, h⟩
        · have := m2 0 (by simp [lefts]); omega
        · have := m2 (q.l.length : Int) (by simp [lefts]; exact .inr ⟨q, hq, rfl⟩); omega
      omega
    have hn4 : n ≤ 4 := by
      rcases p2 with h | ⟨q, hq, h⟩
      · omega
      · have := h4 q hq; omega
    have h1000 : ∀ s ∈ g.se, s.l.length ≤ 1000 := fun s hs => by have := h4 s hs; omega
    try simp (disch := first | omega | (simp; done) | (simp; omega)) [f__law_holds_7]
    refine reach_ok c g h1000 hn ?_
    rw [← e]
    try simp (disch := first | omega | (simp; done) | (simp; omega)) [f__law_holds_6]
    try simp (disch := first | omega | (simp; done) | (simp; omega)) [f__law_holds_5, f__law_holds_4]
    refine strings_ok t ls form n p0 hn4 hf hl hl2 fun ws t hws => ?_
    try simp (disch := first | omega | (simp; done) | (simp; omega))
    refine for_mapU (σ := Option Cel × Option Cel) (fun s => [(7, s.1), (8, s.2)]) (fun _ _ => True) (_, none) rfl trivial ?_ ?_
    · rintro done w rest ⟨z7, z8⟩ hx _
      have hw := hws w (by rw [hx]; simp)
      try simp (disch := first | omega | (simp; done) | (simp; omega)) [f__law_holds_3]
      refine possible_ok c g h1000 hn w form (by omega) (by omega) ?_
      rw [← e]
      try simp (disch := first | omega | (simp; done) | (simp; omega)) [f__law_holds_2]
      refine due_ok n p0 w form (by omega) (by omega) ?_
      try simp (disch := first | omega | (simp; done) | (simp; omega))
      exact Hd.i ⟨(_, _), (by simp <;> (and_intros <;> rfl)), trivial⟩
    · rintro ⟨z7, z8⟩ _
      try simp (disch := first | omega | (simp; done) | (simp; omega))
      exact k t
structure SeOk (s : Se) : Prop where
  l1 : 1 ≤ s.l.length
  l2 : s.l.length ≤ 4
  r1 : 1 ≤ s.r.length
  r2 : s.r.length ≤ 4
  j2 : s.j.length ≤ 8
  la : ∀ c ∈ s.l, c ∈ AZ
  ra : ∀ c ∈ s.r, c ∈ AZ
  ja : ∀ c ∈ s.j, c ∈ AZ
section
variable {c : Addr} {ns : List Int} {t : Tp} {ls form : List Nat} {K : Post}
theorem law_7 (l1 : 0 < ls.length) (l2 : ls.length ≤ 26) (l3 : ∀ c ∈ ls, c ∈ AZ) (hf : form.length ≤ 60) (hK : ∀ e, K.rt (.own 0, .bl true) e) :
    (@wS (f_law_7 c [some (.own 0, .frz ns), aT t, aS ls, aS form, none, none, none, none, none, none, none]) K) := by
  unfold f_law_7
  try simp (disch := first | omega | (simp; done) | (simp; omega))
  refine init_ok c ?_
  try simp (disch := first | omega | (simp; done) | (simp; omega)) [f_law_6]
  refine tape_ok ns _ (by omega) fun t2 => ?_
  try simp (disch := first | omega | (simp; done) | (simp; omega))
  refine holds_ok c {} t2 ls form l1 (by omega) hf (by simp) (by simp) fun t3 => ?_
  try simp (disch := first | omega | (simp; done) | (simp; omega)) [f_law_5, f_law_4]
  refine take_ok _ _ (by omega) (by omega) fun g t1 g0 g1 => ?_
  try simp (disch := first | omega | (simp; done) | (simp; omega))
  refine for_rngU (σ := List Se × Option Cel × Option Cel × Option Cel × Option Cel) (fun s => [(4, some (.all, gD c { se := s.1 })), (5, some (.all, .lst (s.1.map Se.d))), (6, s.2.1), (7, s.2.2.1), (8, s.2.2.2.1), (9, s.2.2.2.2)])
    (fun j s => s.1.length ≤ j ∧ ∀ q ∈ s.1, SeOk q) ([], none, none, none, none) rfl ⟨by simp, by simp⟩ ?_ ?_
  · rintro j ⟨se, z6, z7, z8, z9⟩ hj ⟨h1, h2⟩
    simp only at h1 h2
    have hj : j < 6 := by omega
    try simp (disch := first | omega | (simp; done) | (simp; omega)) [f_law_3]
    refine tape_ok ns _ (by omega) fun t2 => ?_
    try simp (disch := first | omega | (simp; done) | (simp; omega))
    refine letters_ok _ ls 1 4 (by omega) (by omega) (by omega) l1 (by omega) fun l t3 ll1 ll2 ll3 => ?_
    try simp (disch := first | omega | (simp; done) | (simp; omega))
    refine letters_ok _ ls 1 4 (by omega) (by omega) (by omega) l1 (by omega) fun r t4 lr1 lr2 lr3 => ?_
    try simp (disch := first | omega | (simp; done) | (simp; omega))
    refine take_ok _ _ (by omega) (by omega) fun g2 t5 g3 g4 => ?_
    try simp (disch := first | omega | (simp; done) | (simp; omega))
    refine pick_map (en := fun i : Int => D.int i) [1, 8] g3 (by simpa using g4) fun v hv => ?_
    have hv : 1 ≤ v ∧ v ≤ 8 := by simp at hv; omega
    try simp (disch := first | omega | (simp; done) | (simp; omega))
    refine letters_ok _ ls 0 v (by omega) (by omega) (by omega) l1 (by omega) fun jn t6 lj1 lj2 lj3 => ?_
    let s : Se := ⟨l, r, jn⟩
    have hs : SeOk s := ⟨by show 1 ≤ l.length; omega, by show l.length ≤ 4; omega, by show 1 ≤ r.length; omega, by show r.length ≤ 4; omega, by show jn.length ≤ 8; omega, fun c h => l3 c (ll3 c h), fun c h => l3 c (lr3 c h), fun c h => l3 c (lj3 c h)⟩
    try simp (disch := first | omega | (simp; done) | (simp; omega)) [f_law_2]
    refine lc_mapU (en := Se.d) (σ := Option Cel) (fun s => [(10, s)]) (fun dn acc _ => acc = (dn.filter fun q => decide (q.l = s.l) && decide (q.r = s.r)).map Se.d) none rfl rfl ?_ ?_
    · rintro dn q rest acc z hx hacc
      subst hacc
      have hq := h2 q (by rw [hx]; simp)
      have z := fun {l : List Nat} (h : ∀ c ∈ l, c ∈ AZ) (x : Nat) (hx : x ∈ l) => AZ_lt x (h x hx)
      have hd : dn.length ≤ 6 := by
        have := congrArg List.length hx
        simp at this; omega
      have hfl := List.length_filter_le (fun q : Se => decide (q.l = s.l) && decide (q.r = s.r)) dn
      try simp (disch := first | omega | (simp; done) | (simp; omega)) [Se.d]
      rw [eq_pair (z hq.la) (z hq.ra) (z hs.la) (z hs.ra)]
      try simp (disch := first | omega | (simp; done) | (simp; omega))
      refine cE_split (fun h => ?_) (fun h => ?_)
      · try simp (disch := first | omega | (simp; done) | (simp; omega)) [Se.d]
        refine ⟨by rw [sz]; omega, Hd.i ⟨_, (by simp <;> (and_intros <;> rfl)), ?_⟩⟩
        simp at h
        simp [h, Se.d, List.filter_append, List.filter_cons]
      · refine Hd.i ⟨_, (by simp <;> (and_intros <;> rfl)), ?_⟩
        rw [List.filter_append, List.filter_cons, h]
        simp
    · rintro acc z hacc
      subst hacc
      try simp (disch := first | omega | (simp; done) | (simp; omega))
      refine cE_split (fun h => ?_) (fun h => ?_)
      · have h := of_decide_eq_true h
        try simp (disch := first | omega | (simp; done) | (simp; omega))
        rw [app_imm rfl rfl (by simp; omega) rfl]
        try simp (disch := first | omega | (simp; done) | (simp; omega))
        refine ⟨gD_recv (by decide), ?_⟩
        refine add_seam_ok c { se := se } s hs.l1 hs.l2 hs.r1 hs.r2 hs.j2 hs.la hs.ra hs.ja (fun q hq e => h q hq e.1 e.2) (fun q hq => ⟨(h2 q hq).la, (h2 q hq).ra⟩) (by simp only; omega) rfl ?_
        have h2' : ∀ q ∈ se ++ [s], SeOk q := fun q hq => by
          rcases List.mem_append.mp hq with hq | hq
          · exact h2 q hq
          · rw [List.mem_singleton.mp hq]; exact hs
        try simp (disch := first | omega | (simp; done) | (simp; omega)) [f_law_1]
        rw [show se.map Se.d ++ [D.tup [.str (S l), .str (S r), .str (S jn)]] = (se ++ [s]).map Se.d by simp [Se.d, s]]
        refine holds_ok c { se := se ++ [s] } t6 ls form l1 (by omega) hf (fun q hq => (h2' q hq).l2) (by simp; omega) fun t7 => ?_
        try simp (disch := first | omega | (simp; done) | (simp; omega))
        exact Hd.i ⟨(se ++ [s], _, _, _, _), (by simp <;> (and_intros <;> rfl)), by simp; omega, h2'⟩
      · exact Hd.i ⟨(se, _, _, _, _), (by simp <;> (and_intros <;> rfl)), by simp only; omega, h2⟩
  · rintro ⟨se, z6, z7, z8, z9⟩ ⟨h1, h2⟩
    try simp (disch := first | omega | (simp; done) | (simp; omega))
    exact hK _
end
theorem law_ok (c : Addr) (ns : List Int) : (@wE _ (F_law c [some (.own 0, .frz ns)]) ⟨(fun c _ => c.2 = .bl true)⟩ ⟨(fun _ _ => False)⟩) := by
  unfold F_law f_law
  rw [w_fun]
  try simp (disch := first | omega | (simp; done) | (simp; omega))
  refine tape_ok ns _ (by omega) fun t => ?_
  try simp (disch := first | omega | (simp; done) | (simp; omega))
  refine alphabet_ok t fun ls t l1 l2 l3 => ?_
  try simp (disch := first | omega | (simp; done) | (simp; omega))
  refine letters_ok t ls 1 12 (by omega) (by omega) (by omega) l1 (by omega) fun form t f1 f2 f3 => ?_
  try simp (disch := first | omega | (simp; done) | (simp; omega)) [f_law_8]
  refine take_ok _ _ (by omega) (by omega) fun g t1 g0 g1 => ?_
  try simp (disch := first | omega | (simp; done) | (simp; omega))
  refine cE_split (fun h => ?_) (fun h => ?_)
  · try simp (disch := first | omega | (simp; done) | (simp; omega))
    refine letters_ok _ ls 13 60 (by omega) (by omega) (by omega) l1 (by omega) fun form t f1 f2 f3 => ?_
    try simp (disch := first | omega | (simp; done) | (simp; omega))
    exact law_7 l1 l2 l3 (by omega) fun e => by try simp (disch := first | omega | (simp; done) | (simp; omega))
  · try simp (disch := first | omega | (simp; done) | (simp; omega))
    exact law_7 l1 l2 l3 (by omega) fun e => by try simp (disch := first | omega | (simp; done) | (simp; omega))
theorem hlaw {c : Addr} (ns : List Int) (_ : ns.length ≤ 63) : ∃ m ps', F_law c [some (.own 0, .frz ns)] = .ok (m, .bl true) ps' := by
  have h := law_ok c ns
  cases e : F_law c [some (.own 0, .frz ns)] with
  | ok c ps =>
    rw [e] at h
    obtain ⟨m, d⟩ := c
    have h : d = .bl true := h
    exact ⟨m, ps, by rw [h]⟩
  | exc x ps => rw [e] at h; exact (show False from h).elim
  | stuck => rw [e] at h; exact (show False from h).elim
end K11

open PySem PySem.W PyProof.Rows in
set_option maxRecDepth 100000 in
set_option maxHeartbeats 0 in
theorem PySem.Challenge.cw_readingsall_k11_possible_holds : PySem.Challenge.rw_readingsall_k11_possible.Holds := by
  w_on; o_law; k_head; (case hw => w_witness2)
  k_fill
  refine DL.walk_end (l := PySem.Challenge.rw_readingsall_k11_possible) (x := "_law_script") (k := 5) rfl rfl ⟨rfl, by decide, by decide⟩ (fun w h Y => PySem.W.kIn_of Y) ?F
  case F =>
    intro w mg fa h KX G hmg
    refine' K11.all_mk KX G hmg ?ca_Grammar ?cpg_Grammar ?chd_Grammar ?cpo_Grammar ?csa_Grammar ?cmk_Grammar ?ckc_Grammar ?cn_Grammar__attributes ?cn_Grammar__categories ?cn_Grammar__rules ?cn_Grammar__morphs ?cn_Grammar__arcs ?cn_Grammar__ends ?cn_Grammar__seams ?cn_Grammar__start ?cn_Grammar__first ?g_LETTERS ?ga_BadName ?gk_BadName ?gs_BadName ?gt_BadName ?gi_BadName ?gf_BadName ?ga_Duplicate ?gk_Duplicate ?gs_Duplicate ?gt_Duplicate ?gi_Duplicate ?gf_Duplicate ?gx_BadName ?ge1_BadName ?ge2_BadName ?ge3_BadName ?ge4_BadName ?ge5_BadName ?ge6_BadName ?ge7_BadName ?gx_Duplicate ?ge1_Duplicate ?ge2_Duplicate ?ge3_Duplicate ?ge4_Duplicate ?ge5_Duplicate ?ge6_Duplicate ?ge7_Duplicate ?a__law_tape ?l__law_tape ?c__law_tape ?k__law_tape ?a__law_take ?l__law_take ?c__law_take ?k__law_take ?a__law_alphabet ?l__law_alphabet ?c__law_alphabet ?k__law_alphabet ?a__law_letters ?l__law_letters ?c__law_letters ?k__law_letters ?a_Grammar___init__ ?i_Grammar___init__ ?l_Grammar___init__ ?c_Grammar___init__ ?k_Grammar___init__ ?a_Grammar_seams ?i_Grammar_seams ?l_Grammar_seams ?c_Grammar_seams ?k_Grammar_seams ?a_reach ?l_reach ?c_reach ?k_reach ?a__law_strings ?l__law_strings ?c__law_strings ?k__law_strings ?a_possible ?l_possible ?c_possible ?k_possible ?a__law_due ?l__law_due ?c__law_due ?k__law_due ?a__law_holds ?l__law_holds ?c__law_holds ?k__law_holds ?a_consists_of ?l_consists_of ?c_consists_of ?k_consists_of ?a_is_letters ?l_is_letters ?c_is_letters ?k_is_letters ?a_check_letters ?l_check_letters ?c_check_letters ?k_check_letters ?a_check_growth ?l_check_growth ?c_check_growth ?k_check_growth ?a_Grammar_add_seam ?i_Grammar_add_seam ?l_Grammar_add_seam ?c_Grammar_add_seam ?k_Grammar_add_seam ?a_law ?l_law ?c_law ?k_law ?z_abs ?z_bool ?z_int ?z_isinstance ?z_len ?z_list ?z_max ?z_range K11.hlaw
    (case ca_Grammar => k_is)
    (case cpg_Grammar => k_is)
    (case chd_Grammar => k_is)
    (case cpo_Grammar => k_is)
    (case csa_Grammar => k_is)
    (case cmk_Grammar => k_is)
    (case ckc_Grammar => k_is)
    (case cn_Grammar__attributes => k_is)
    (case cn_Grammar__categories => k_is)
    (case cn_Grammar__rules => k_is)
    (case cn_Grammar__morphs => k_is)
    (case cn_Grammar__arcs => k_is)
    (case cn_Grammar__ends => k_is)
    (case cn_Grammar__seams => k_is)
    (case cn_Grammar__start => k_is)
    (case cn_Grammar__first => k_is)
    (case g_LETTERS => k_is)
    (case ga_BadName => k_is)
    (case gk_BadName => k_is)
    (case gs_BadName => k_is)
    (case gt_BadName => k_is)
    (case gi_BadName => k_is)
    (case gf_BadName => first | k_is | rfl)
    (case ga_Duplicate => k_is)
    (case gk_Duplicate => k_is)
    (case gs_Duplicate => k_is)
    (case gt_Duplicate => k_is)
    (case gi_Duplicate => k_is)
    (case gf_Duplicate => first | k_is | rfl)
    (case gx_BadName => k_exc)
    (case ge1_BadName => k_is)
    (case ge2_BadName => k_is)
    (case ge3_BadName => k_is)
    (case ge4_BadName => k_is)
    (case ge5_BadName => k_is)
    (case ge6_BadName => k_is)
    (case ge7_BadName => k_is)
    (case gx_Duplicate => k_exc)
    (case ge1_Duplicate => k_is)
    (case ge2_Duplicate => k_is)
    (case ge3_Duplicate => k_is)
    (case ge4_Duplicate => k_is)
    (case ge5_Duplicate => k_is)
    (case ge6_Duplicate => k_is)
    (case ge7_Duplicate => k_is)
    (case a__law_tape => k_is)
    (case l__law_tape => k_is)
    (case c__law_tape => k_is)
    (case k__law_tape => k_is)
    (case a__law_take => k_is)
    (case l__law_take => k_is)
    (case c__law_take => k_is)
    (case k__law_take => k_is)
    (case a__law_alphabet => k_is)
    (case l__law_alphabet => k_is)
    (case c__law_alphabet => k_is)
    (case k__law_alphabet => k_is)
    (case a__law_letters => k_is)
    (case l__law_letters => k_is)
    (case c__law_letters => k_is)
    (case k__law_letters => k_is)
    (case a_Grammar___init__ => k_is)
    (case i_Grammar___init__ => k_is)
    (case l_Grammar___init__ => k_is)
    (case c_Grammar___init__ => k_is)
    (case k_Grammar___init__ => k_is)
    (case a_Grammar_seams => k_is)
    (case i_Grammar_seams => k_is)
    (case l_Grammar_seams => k_is)
    (case c_Grammar_seams => k_is)
    (case k_Grammar_seams => k_is)
    (case a_reach => k_is)
    (case l_reach => k_is)
    (case c_reach => k_is)
    (case k_reach => k_is)
    (case a__law_strings => k_is)
    (case l__law_strings => k_is)
    (case c__law_strings => k_is)
    (case k__law_strings => k_is)
    (case a_possible => k_is)
    (case l_possible => k_is)
    (case c_possible => k_is)
    (case k_possible => k_is)
    (case a__law_due => k_is)
    (case l__law_due => k_is)
    (case c__law_due => k_is)
    (case k__law_due => k_is)
    (case a__law_holds => k_is)
    (case l__law_holds => k_is)
    (case c__law_holds => k_is)
    (case k__law_holds => k_is)
    (case a_consists_of => k_is)
    (case l_consists_of => k_is)
    (case c_consists_of => k_is)
    (case k_consists_of => k_is)
    (case a_is_letters => k_is)
    (case l_is_letters => k_is)
    (case c_is_letters => k_is)
    (case k_is_letters => k_is)
    (case a_check_letters => k_is)
    (case l_check_letters => k_is)
    (case c_check_letters => k_is)
    (case k_check_letters => k_is)
    (case a_check_growth => k_is)
    (case l_check_growth => k_is)
    (case c_check_growth => k_is)
    (case k_check_growth => k_is)
    (case a_Grammar_add_seam => k_is)
    (case i_Grammar_add_seam => k_is)
    (case l_Grammar_add_seam => k_is)
    (case c_Grammar_add_seam => k_is)
    (case k_Grammar_add_seam => k_is)
    (case a_law => k_is)
    (case l_law => k_is)
    (case c_law => k_is)
    (case k_law => k_is)
    (case z_abs => k_is)
    (case z_bool => k_is)
    (case z_int => k_is)
    (case z_isinstance => k_is)
    (case z_len => k_is)
    (case z_list => k_is)
    (case z_max => k_is)
    (case z_range => k_is)
